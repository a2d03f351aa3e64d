import PyProof.Rows.All
import Wide.All
import OpenK.AllK
import Wide.FinOn
import HandS.ForMost
import HandS.ForExc
import HandS.ExcInit
import HandS.ExcIs
import HandS.ExcField
import HandS.ExcValue
import HandS.IsInst
import HandS.Wide
import HandS.Defaults
import HandS.Flow
import HandS.Evl
import HandS.Steps
import HandS.Lambda
import HandS.EndTab
import HandS.HeadWalk
import HandS.HeadEnd
import HandS.HeadHook4
import HandS.Head0
import HandS.Head1
import HandS.Head2
import KE.KExcIs
import HandS.Walk
import HandS.CallSlots
import KE.KOpsOwn
import HandS.Property
import HandS.Records
import HandS.SlotsOwn
import HandS.ClsMeth
import HandS.HeadNt
import HandS.TryOnly
import KE.KRevSl
import KE.KSuper
import HandS.MakeKwOnly
import HandS.HeadHook3
import KE.KCallOwn
import KE.KFmtOwn
import HandS.FStr
import KE.IntTextText
import KE.KIntText
import PyProof.StrOps2
import HandS.Text
import HandS.RaiseMore
import PySem.Challenge.RW_ownzeros_k12_tools_turned_and_renamed
set_option Elab.async false
set_option linter.all false
set_option maxRecDepth 100000
namespace OZ
open PySem PySem.Spec PyProof.Rows L2
def Fnc (P : Program) (w : World) (K : PySem.W.Frag) (mg : Str → Option Value) (base : Heap) (k : Nat) (x : Str) (ps : List Str) (sp : Sp) : Prop :=
  ∃ (f : Addr) (fd : FuncData), mg x = some (.ref f) ∧ PySem.W.keepIn K (.ref f) = true ∧ Binds K fd ps [] ∧ FnOk P w K mg base (L2.CX P w) k f fd ps sp
section
variable {X : Cx} {k : Nat} {x : Str} {ps : List Str} {sp : Sp} {e : Expr} {es : List Expr} {t : TA} {p pos : Pos}
theorem oc (F : Fnc X.prog X.w X.K X.mg X.base k x ps sp) (hr : Room k X.A) (ha : PA X (e :: es) t) (hg : Gl X x := by rfl) (hdb : (x == ("__debug__" : Str)) = false := by decide)
    (he : starEach (e :: es) X.env = (false, eval e X.env) :: starEach es X.env := by rfl) (hpl : (backTo pos (starEach es X.env)).any (·.1) = false := by rfl) :
    PE X (.Call (.Name x p) (e :: es) [] pos) (tCall sp [] E0 t) := by
  obtain ⟨f, fd, hm, hk, hb, G⟩ := F
  exact pe_call G hr hg hm hk hb .nil passL ha hdb he hpl
theorem ocX {W : WX} (F : Fnc X.prog X.w X.K X.mg X.base k x ps sp) (hr : Room k X.A) (tk : Takes X W) (ha : PA X (e :: es) t) (hg : Gl X x := by rfl) (hdb : (x == ("__debug__" : Str)) = false := by decide)
    (he : starEach (e :: es) X.env = (false, eval e X.env) :: starEach es X.env := by rfl) (hpl : (backTo pos (starEach es X.env)).any (·.1) = false := by rfl) :
    PE X (.Call (.Name x p) (e :: es) [] pos) (tCallS sp (WE W) t) := by
  obtain ⟨f, fd, hm, hk, hb, G⟩ := F
  exact pe_callS G hr hg hm hk hb (fun σ => passAt tk σ) ha hdb he hpl
end
def Kp (p : Addr) (H H' : Hp) : Prop := ∀ a o, a ≠ p → H a = some o → H' a = some o
theorem Kp.refl (p : Addr) (H : Hp) : Kp p H H := fun _ _ _ h => h
theorem Kp.trans {p : Addr} {H H1 H2 : Hp} (a : Kp p H H1) (b : Kp p H1 H2) : Kp p H H2 := fun c o n h => b c o n (a c o n h)
theorem Kp.new {p q : Addr} {H : Hp} {o : HO} (h : H q = none) : Kp p H (upd H q o) := fun a u _ e => by
  rw [upd_ne (ne_of_none e h)]; exact e
theorem Kp.set {p : Addr} {H : Hp} {o : HO} : Kp p H (upd H p o) := fun a u n e => by rw [upd_ne n]; exact e
theorem Kp.of {p : Addr} {H H' : Hp} (h : Same H H') : Kp p H H' := fun a o _ e => h a o e
def PenAt (H : Hp) (p c : Addr) (n : Nat) : Prop := ∃ (ns : List Int) (b l : Int),
  H p = some (.lst [.ref c, .int b, .int l]) ∧ H c = some (.lst (ns.map V.int)) ∧ 0 ≤ b ∧ b ≤ n ∧ 0 ≤ l
theorem PenAt.mono {H : Hp} {p c : Addr} {n m : Nat} (P : PenAt H p c n) (h : n ≤ m) : PenAt H p c m := by
  obtain ⟨ns, b, l, h1, h2, h3, h4, h5⟩ := P
  exact ⟨ns, b, l, h1, h2, h3, by omega, h5⟩
theorem PenAt.same {H H' : Hp} {p c : Addr} {n : Nat} (P : PenAt H p c n) (s : Same H H') : PenAt H' p c n := by
  obtain ⟨ns, b, l, h1, h2, h3, h4, h5⟩ := P
  exact ⟨ns, b, l, s _ _ h1, s _ _ h2, h3, h4, h5⟩
theorem PenAt.new {H : Hp} {p c q : Addr} {n : Nat} {o : HO} (P : PenAt H p c n) (h : H q = none) : PenAt (upd H q o) p c n :=
  P.same fun a u e => by rw [upd_ne (ne_of_none e h)]; exact e
theorem PenAt.oth {H : Hp} {p c q : Addr} {n : Nat} {o : HO} (P : PenAt H p c n) (h1 : q ≠ p) (h2 : q ≠ c) : PenAt (upd H q o) p c n := by
  obtain ⟨ns, b, l, g1, g2, g3⟩ := P
  exact ⟨ns, b, l, by rw [upd_ne (Ne.symm h1)]; exact g1, by rw [upd_ne (Ne.symm h2)]; exact g2, g3⟩
theorem PenAt.p_ne {H : Hp} {p c q : Addr} {n : Nat} (P : PenAt H p c n) (h : H q = none) : q ≠ p := by
  obtain ⟨ns, b, l, g1, g2, g3⟩ := P
  exact Ne.symm (ne_of_none g1 h)
theorem PenAt.c_ne {H : Hp} {p c q : Addr} {n : Nat} (P : PenAt H p c n) (h : H q = none) : q ≠ c := by
  obtain ⟨ns, b, l, g1, g2, g3⟩ := P
  exact Ne.symm (ne_of_none g2 h)
theorem lst_ne {c : Addr} {b l : Int} (ns : List Int) : (HO.lst [.ref c, .int b, .int l]) ≠ HO.lst (ns.map V.int) := fun z => by
  injection z with z
  cases ns with
  | nil => cases z
  | cons n r => injection z with z _; cases z
theorem ix_lt {xs : List V} {i : Int} {v : V} {j : Nat} (h : xs[j]? = some v) (e : i = (j : Int)) : atI xs i = some v := by rw [e]; exact atI_nat h
def spDraw : Sp := fun vs H Q _ => ∃ (p c : Addr) (n : Nat) (m : Int), vs = [.ref p, .int m] ∧ PenAt H p c n ∧ n ≤ 1000000 ∧ 0 < m ∧ m.natAbs < 2 ^ 4000 ∧
  ∀ (r : Int) (H' : Hp), 0 ≤ r → r < m → PenAt H' p c (n + 1) → Kp p H H' → Q (.int r) H'
theorem fmod_pos {a m : Int} (h : 0 < m) : 0 ≤ a.fmod m ∧ a.fmod m < m := by
  rw [Int.fmod_eq_emod_of_nonneg _ (Int.le_of_lt h)]
  exact ⟨Int.emod_nonneg _ (by omega), Int.emod_lt_of_pos _ h⟩
theorem mul_bd {x y A B : Int} (hx0 : 0 ≤ x) (hx : x < A) (hy0 : 0 ≤ y) (hy : y < B) : 0 ≤ x * y ∧ x * y < A * B := by
  refine ⟨Int.mul_nonneg hx0 hy0, ?_⟩
  have h1 : x * y ≤ x * B := Int.mul_le_mul_of_nonneg_left (Int.le_of_lt hy) hx0
  have h2 : x * B < A * B := Int.mul_lt_mul_of_pos_right hx (by omega)
  omega
theorem ediv_nn {a m : Int} (h : 0 < m) (ha : 0 ≤ a) : 0 ≤ a / m := Int.ediv_nonneg ha (Int.le_of_lt h)
theorem ints_dp {K : PySem.W.Frag} {H : Hp} : ∀ ns : List Int, DpAll K H (ns.map V.int) (ns.map PyData.int)
  | [] => .nil
  | n :: r => .cons (.int n) (ints_dp r)
def rInt : List V → Hp → VK → Prop := fun xs H Q => (∃ i, xs = [.int i] ∧ Q (.int i) H) ∨ ∃ k, xs = [.bl k] ∧ Q (.int (if k then 1 else 0)) H
theorem c_int {X : Cx} : CallR X (.type "int") rInt := call_int1
theorem y_int {a : Int} {H : Hp} {Q : VK} (h : Q (.int a) H) : rInt [.int a] H Q := .inl ⟨a, rfl, h⟩
theorem y_intB {b : Bool} {H : Hp} {Q : VK} (h : Q (.int (if b then 1 else 0)) H) : rInt [.bl b] H Q := .inr ⟨b, rfl, h⟩
def rAbs : List V → Hp → VK → Prop := fun xs H Q => ∃ i, xs = [.int i] ∧ Q (.int (if i < 0 then -i else i)) H
theorem c_abs {X : Cx} : CallR X (.builtin "abs") rAbs := call_abs
theorem y_abs {a : Int} {H : Hp} {Q : VK} (h : Q (.int (if a < 0 then -a else a)) H) : rAbs [.int a] H Q := ⟨a, rfl, h⟩
def rLenQ (K : PySem.W.Frag) : List V → Hp → VK → Prop := fun xs H Q => ∃ p ys, xs = [.ref p] ∧ (SqL K H p ys ∨ SqT K H p ys) ∧ Q (.int ys.length) H
theorem c_len {X : Cx} : CallR X (.builtin "len") (rLenQ X.K) := call_len_seq
theorem y_lenL {K : PySem.W.Frag} {p : Addr} {xs : List V} {H : Hp} {Q : VK} (hp : H p = some (.lst xs)) (h : Q (.int xs.length) H) : rLenQ K [.ref p] H Q := ⟨p, xs, rfl, .inl (SqL.of hp), h⟩
theorem y_lenT {K : PySem.W.Frag} {p : Addr} {xs : List V} {H : Hp} {Q : VK} (hp : H p = some (.tup xs)) (h : Q (.int xs.length) H) : rLenQ K [.ref p] H Q := ⟨p, xs, rfl, .inr (SqT.of hp), h⟩
def rLenZ : List V → Hp → VK → Prop := fun xs H Q => ∃ z : Str, xs = [.str z] ∧ z.length ≤ sizeLine ∧ Q (.int z.length) H
theorem c_lenS {X : Cx} : CallR X (.builtin "len") rLenZ := call_len_str
theorem y_lenS {z : Str} {H : Hp} {Q : VK} (hz : z.length ≤ sizeLine) (h : Q (.int z.length) H) : rLenZ [.str z] H Q := ⟨z, rfl, hz, h⟩
def rListOf (K : PySem.W.Frag) : List V → Hp → VK → Prop := fun xs H Q => ∃ p ys, xs = [.ref p] ∧ (SqL K H p ys ∨ SqT K H p ys) ∧ ∀ l, H l = none → Q (.ref l) (upd H l (.lst ys))
theorem c_list {X : Cx} : CallR X (.type "list") (rListOf X.K) := call_list_of
def rIsNo : R2 := fun x y H Q => y = .non ∧ Q (.bl (decide (x = .non))) H
theorem o_isN {X : Cx} : OpR X (compareOp .Is) rIsNo := op_isN
def rNotNo : R2 := fun x y H Q => y = .non ∧ Q (.bl (!decide (x = .non))) H
theorem o_notN {X : Cx} : OpR X (compareOp .IsNot) rNotNo := op_notN
theorem y_isN {x : V} {H : Hp} {Q : VK} (h : Q (.bl (decide (x = .non))) H) : rIsNo x .non H Q := ⟨rfl, h⟩
theorem y_notN {x : V} {H : Hp} {Q : VK} (h : Q (.bl (!decide (x = .non))) H) : rNotNo x .non H Q := ⟨rfl, h⟩
def rAddS : R2 := fun x y H Q => ∃ i j : Str, x = .str i ∧ y = .str j ∧ i.length + j.length ≤ sizeLine ∧ Q (.str (i ++ j)) H
theorem o_addS {X : Cx} : OpR X (binaryOp .Add) rAddS := op_add_str
theorem y_addS {a b : Str} {H : Hp} {Q : VK} (hl : a.length + b.length ≤ sizeLine) (h : Q (.str (a ++ b)) H) : rAddS (.str a) (.str b) H Q := ⟨a, b, rfl, rfl, hl, h⟩
def rInC : R2 := fun x y H Q => ∃ (c : Nat) (z : Str), x = .str ⟨#[c]⟩ ∧ y = .str z ∧ Q (.bl (decide (c ∈ z.cps.toList))) H
theorem o_inC {X : Cx} : OpR X (compareOp .In) rInC := op_in_sign
def rNotInC : R2 := fun x y H Q => ∃ (c : Nat) (z : Str), x = .str ⟨#[c]⟩ ∧ y = .str z ∧ Q (.bl (!decide (c ∈ z.cps.toList))) H
theorem o_notInC {X : Cx} : OpR X (compareOp .NotIn) rNotInC := op_notIn_sign
theorem y_inC {c : Nat} {z : Str} {H : Hp} {Q : VK} (h : Q (.bl (decide (c ∈ z.cps.toList))) H) : rInC (.str ⟨#[c]⟩) (.str z) H Q := ⟨c, z, rfl, rfl, h⟩
theorem y_notInC {c : Nat} {z : Str} {H : Hp} {Q : VK} (h : Q (.bl (!decide (c ∈ z.cps.toList))) H) : rNotInC (.str ⟨#[c]⟩) (.str z) H Q := ⟨c, z, rfl, rfl, h⟩
theorem y_slS {z : Str} {lo hi : Option Int} {H : Hp} {Q : VK} (hl : z.length ≤ sizeLine) (h : Q (.str (cutS z lo hi)) H) : rSlS (.str z) lo hi H Q := ⟨z, rfl, hl, h⟩
theorem y_sl {r : V → Option Int → Option Int → Hp → VK → Prop} {te : TE} {tl th : TO} {σ : L2.St} {H : Hp} {Q : VK} (h : te σ H fun x H1 => tl σ H1 fun l H2 => th σ H2 fun u H3 => r x l u H3 Q) : tSl r te tl th σ H Q := h
theorem y_part {te : TE} {σ : L2.St} {H : Hp} {Q : Option Int → Hp → Prop} (h : te σ H fun x H1 => ∃ i, x = .int i ∧ Q (some i) H1) : tPart te σ H Q := h
theorem y_nopart {σ : L2.St} {H : Hp} {Q : Option Int → Hp → Prop} (h : Q none H) : tNoPart σ H Q := h
theorem y_exI {a : Int} {P : Int → Prop} (h : P a) : ∃ i, V.int a = .int i ∧ P i := ⟨a, rfl, h⟩
theorem og_int {X : Cx} {x : Str} {i : Int} {pos : Pos} (h : ∃ t, X.mg x = some (.int i t)) (hg : Gl X x := by rfl) (hd : (x == ("__debug__" : Str)) = false := by decide) : PE X (.Name x pos) (tC (.int i)) := by
  obtain ⟨t, h⟩ := h
  exact pe_glob hg h ⟨t, rfl⟩ hd
theorem og_str {X : Cx} {x : Str} {z : Str} {pos : Pos} (h : ∃ t, X.mg x = some (.str z t)) (hg : Gl X x := by rfl) (hd : (x == ("__debug__" : Str)) = false := by decide) : PE X (.Name x pos) (tC (.str z)) := by
  obtain ⟨t, h⟩ := h
  exact pe_glob hg h ⟨t, rfl⟩ hd
theorem og_ref {X : Cx} {x : Str} {a : Addr} {pos : Pos} (h : X.mg x = some (.ref a)) (hg : Gl X x := by rfl) (hd : (x == ("__debug__" : Str)) = false := by decide) : PE X (.Name x pos) (tC (.ref a)) := pe_glob hg h rfl hd
section
variable {σ : L2.St} {H : Hp} {Q : VK} {D : Ends} {te ta tb : TE} {tt tu : TT} {t u : TS} {tA tr : TA} {i : Nat} {v x y : V} {K : PySem.W.Frag}
theorem y_var (h : ∃ v, σ[i]? = some (some v) ∧ Q v H) : tVar i σ H Q := h
theorem y_c (h : Q v H) : tC v σ H Q := h
theorem y_op {r : R2} (h : ta σ H fun x H1 => tb σ H1 fun y H2 => r x y H2 Q) : tOp r ta tb σ H Q := h
theorem y_un {r : V → Hp → VK → Prop} (h : ta σ H fun x H1 => r x H1 Q) : tUn r ta σ H Q := h
theorem y_cb {r : List V → Hp → VK → Prop} (h : tA σ H fun vs H1 => r vs H1 Q) : tCB r tA σ H Q := h
theorem y_nil {Q : List V → Hp → Prop} (h : Q [] H) : tNil σ H Q := h
theorem y_cons {Q : List V → Hp → Prop} (h : ta σ H fun x H1 => tr σ H1 fun xs H2 => Q (x :: xs) H2) : tCons ta tr σ H Q := h
theorem y_test {Q : Bool → Hp → Prop} (h : te σ H fun x H' => ∃ k, x = .bl k ∧ Q k H') : tTest te σ H Q := h
theorem y_B {Q : Bool → Hp → Prop} (h : te σ H fun x H' => ∃ k, x = .bl k ∧ Q k H') : tB te σ H Q := h
theorem y_ex {b : Bool} {P : Bool → Prop} (h : P b) : ∃ k, V.bl b = .bl k ∧ P k := ⟨b, rfl, h⟩
theorem y_not {Q : Bool → Hp → Prop} (h : tt σ H fun c H1 => Q (!c) H1) : tNot tt σ H Q := h
theorem y_and {Q : Bool → Hp → Prop} (h : tt σ H fun c H1 => if c = true then tu σ H1 Q else Q false H1) : tAnd tt tu σ H Q := h
theorem y_or {Q : Bool → Hp → Prop} (h : tt σ H fun c H1 => if c = true then Q true H1 else tu σ H1 Q) : tOr tt tu σ H Q := h
theorem y_notV (h : ta σ H fun x H1 => ∃ c, x = .bl c ∧ Q (.bl (!c)) H1) : tNotV ta σ H Q := h
theorem y_andV (h : ta σ H fun x H1 => ∃ c, x = .bl c ∧ if c = true then tb σ H1 Q else Q (.bl false) H1) : tAndV ta tb σ H Q := h
theorem y_orV (h : ta σ H fun x H1 => ∃ c, x = .bl c ∧ if c = true then Q (.bl true) H1 else tb σ H1 Q) : tOrV ta tb σ H Q := h
theorem y_ifE (h : tt σ H fun c H1 => if c = true then ta σ H1 Q else tb σ H1 Q) : tIf tt ta tb σ H Q := h
theorem y_seq (h : t { D with nx := u D } σ H) : tSeq t u D σ H := h
theorem y_asg {g : TG} (h : te σ H fun x H1 => g x σ H1 D.nx) : tAsg te g D σ H := h
theorem y_gn {R : L2.St → Hp → Prop} (h : R (σ.set i (some v)) H) : gName i v σ H R := h
theorem y_gsub {to ti : TE} {s : TSet} {R : L2.St → Hp → Prop} (h : to σ H fun o H1 => ti σ H1 fun i H2 => s o i v H2 fun H3 => R σ H3) : gSub to ti s v σ H R := h
theorem y_ret (h : te σ H D.rt) : tRet te D σ H := h
theorem y_drop (h : te σ H fun _ H1 => D.nx σ H1) : tDrop te D σ H := h
theorem y_next (h : D.nx σ H) : tNext D σ H := h
theorem y_ifS (h : tt σ H fun b H1 => if b = true then t D σ H1 else u D σ H1) : tIfS tt t u D σ H := h
theorem y_par {i j : Nat} (h : tA σ H fun vs H1 => ∃ v w, vs = [v, w] ∧ D.nx ((σ.set i (some v)).set j (some w)) H1) : tPar i j tA D σ H := h
theorem y_ex2 {P : V → V → Prop} (h : P x y) : ∃ v w, [x, y] = [v, w] ∧ P v w := ⟨x, y, rfl, h⟩
theorem y_call {sp : Sp} {dvs : List V} {E : XK} (h : tA σ H fun vs H1 => sp (vs ++ dvs) H1 Q E) : tCall sp dvs E tA σ H Q := h
theorem y_callS {sp : Sp} {E : L2.St → XK} (h : tA σ H fun vs H1 => sp vs H1 Q (E σ)) : tCallS sp E tA σ H Q := h
theorem y_I0 {g : Int → Int → V} {a b : Int} (h : Q (g a b) H) : rI0 g (.int a) (.int b) H Q := ⟨a, b, rfl, rfl, h⟩
theorem y_I {C : Int → Int → Prop} {g : Int → Int → V} {a b : Int} (hc : C a b) (h : Q (g a b) H) : rI C g (.int a) (.int b) H Q := ⟨a, b, rfl, rfl, hc, h⟩
theorem y_U {g : Int → V} {a : Int} (h : Q (g a) H) : rU g (.int a) H Q := ⟨a, rfl, h⟩
theorem y_eq (hs : scal x y = true) (h : Q (.bl (decide (x = y))) H) : rEq x y H Q := ⟨hs, h⟩
theorem y_ne (hs : scal x y = true) (h : Q (.bl (!decide (x = y))) H) : rNe x y H Q := ⟨hs, h⟩
theorem y_ixL {p : Addr} {xs : List V} {a : Int} (hp : H p = some (.lst xs)) (ha : atI xs a = some v) (h : Q v H) : rIxL K (.ref p) (.int a) H Q := ⟨p, xs, a, v, rfl, rfl, SqL.of hp, ha, h⟩
theorem y_ixT {p : Addr} {xs : List V} {a : Int} (hp : H p = some (.tup xs)) (ha : atI xs a = some v) (h : Q v H) : rIxT K (.ref p) (.int a) H Q := ⟨p, xs, a, v, rfl, rfl, SqT.of hp, ha, h⟩
theorem y_setL {p : Addr} {xs : List V} {a : Int} {j : Nat} {R : Hp → Prop} (hp : H p = some (.lst xs)) (ha : ixN xs.length a = some j) (h : R (upd H p (.lst (xs.set j v)))) : rSetL (.ref p) (.int a) v H R := ⟨p, xs, a, j, rfl, rfl, hp, ha, h⟩
theorem y_chain {r r' : R2} {tc : TE} (h : ta σ H fun x H1 => tb σ H1 fun y H2 => r x y H2 fun z H3 => ∃ k, z = .bl k ∧ (if k = true then tc σ H3 fun w' H4 => r' y w' H4 Q else Q (.bl false) H3)) : tChain r r' ta tb tc σ H Q := h
theorem y_gtup {n : Nat} {t : TGs} {a : Addr} {xs : List V} {R : L2.St → Hp → Prop} (ha : H a = some (.tup xs)) (hl : xs.length = n) (h : t xs σ H R) : gTup K n t (.ref a) σ H R := ⟨a, xs, rfl, SqT.of ha, hl, h⟩
theorem y_gcons {t : TG} {u : TGs} {r : List V} {R : L2.St → Hp → Prop} (h : t v σ H fun σ' H' => u r σ' H' R) : gCons t u (v :: r) σ H R := ⟨v, r, rfl, h⟩
theorem y_gnil {R : L2.St → Hp → Prop} (h : R σ H) : gNil [] σ H R := ⟨rfl, h⟩
theorem y_disp {xs : List V} {R : Addr → Prop} (hl : xs.length ≤ 1000) (h : ∀ p, H p = none → R p) : xs.length ≤ sizeLine ∧ ∀ p, H p = none → R p := ⟨Nat.le_trans hl (by decide), h⟩
theorem y_yes {Q : Bool → Hp → Prop} (h : Q true H) : tYes σ H Q := h
theorem y_lst (h : tA σ H fun xs H1 => xs.length ≤ sizeLine ∧ ∀ p, H1 p = none → Q (.ref p) (upd H1 p (.lst xs))) : tLst tA σ H Q := h
theorem y_tup (h : tA σ H fun xs H1 => xs.length ≤ sizeLine ∧ ∀ p, H1 p = none → Q (.ref p) (upd H1 p (.tup xs))) : tTup tA σ H Q := h
theorem y_iteT {A B : Prop} (h : A) : if true = true then A else B := iteT h
theorem y_iteF {A B : Prop} (h : B) : if false = true then A else B := iteF h
theorem y_ite {c A B : Prop} [Decidable c] (h1 : c → A) (h2 : ¬ c → B) : if decide c = true then A else B := by
  by_cases h : c
  · rw [decide_eq_true h]; exact iteT (h1 h)
  · rw [decide_eq_false h]; exact iteF (h2 h)
theorem y_iteN {c A B : Prop} [Decidable c] (h1 : ¬ c → A) (h2 : c → B) : if (!decide c) = true then A else B := by
  by_cases h : c
  · rw [decide_eq_true h]; exact iteF (h2 h)
  · rw [decide_eq_false h]; exact iteT (h1 h)
theorem y_iteY {c A B : Prop} [Decidable c] (hc : c) (h : A) : if decide c = true then A else B := by rw [decide_eq_true hc]; exact iteT h
theorem y_iteX {c A B : Prop} [Decidable c] (hc : ¬ c) (h : B) : if decide c = true then A else B := by rw [decide_eq_false hc]; exact iteF h
theorem y_iteNY {c A B : Prop} [Decidable c] (hc : c) (h : B) : if (!decide c) = true then A else B := by rw [decide_eq_true hc]; exact iteF h
theorem y_iteNX {c A B : Prop} [Decidable c] (hc : ¬ c) (h : A) : if (!decide c) = true then A else B := by rw [decide_eq_false hc]; exact iteT h
theorem y_iteNT {A B : Prop} (h : B) : if (!true) = true then A else B := iteF h
theorem y_iteNF {A B : Prop} (h : A) : if (!false) = true then A else B := iteT h
theorem nat4000 {m : Int} (h : m.natAbs ≤ 10 ^ 60) : m.natAbs < 2 ^ 4000 := Nat.lt_of_le_of_lt h (by decide)
theorem y_iteB {b : Bool} {A B : Prop} (h1 : b = true → A) (h2 : b = false → B) : if b = true then A else B := by
  cases b with
  | true => exact iteT (h1 rfl)
  | false => exact iteF (h2 rfl)
theorem upd_old {p q : Addr} {o w : HO} (hn : H p = none) (h : H q = some o) : upd H p w q = some o := by
  rw [upd_ne (ne_of_none h hn)]; exact h
theorem upd_oth {p q : Addr} {o w : HO} (hn : q ≠ p) (h : H q = some o) : upd H p w q = some o := by
  rw [upd_ne hn]; exact h
theorem free_upd {p q : Addr} {w : HO} (h : upd H p w q = none) : H q = none := by
  unfold upd at h
  split at h
  · cases h
  · exact h
end
end OZ
set_option maxRecDepth 100000
set_option maxHeartbeats 1000000
namespace OZ
open PySem PySem.Spec PyProof.Rows L2
structure FnG (P : Program) (w : World) (K : PySem.W.Frag) (mg : Str → Option Value) (base : Heap) (k : Nat) (f : Addr) (fd : FuncData) (ps : List Str) (sp : Sp) : Prop where
  len : ∀ vs H Q E, sp vs H Q E → vs.length = ps.length
  run : ∀ (A : Around) (outer : List Env) (s : Shared) (H : Hp) (args : Args) (us : List Value) (vs : List V) (Q : VK) (E : XK), Room k A → A.guards = some [] → Env0 P w K mg base A outer s H →
    BindsTo s fd args (ps.zip us) → Vals vs us → sp vs H Q E → codeAny (model P w) A (.call (.ref f) args) (CR (L2.CX P w) outer P w H s Q E) s
theorem FnG.of {P : Program} {w : World} {K : PySem.W.Frag} {mg : Str → Option Value} {base : Heap} {k : Nat} {f : Addr} {fd : FuncData} {ps : List Str} {sp : Sp} (F : FnOk P w K mg base (L2.CX P w) k f fd ps sp) : FnG P w K mg base k f fd ps sp :=
  ⟨F.len, fun A outer s H args us vs Q E hr _ => F.run A outer s H args us vs Q E hr⟩
theorem guards_deeper {A : Around} {env : Env} (h : A.guards = some []) : (A.deeper env).guards = some [] := by
  first | exact h | (simpa [Around.deeper] using h)
theorem fnG_of {P : Program} {w : World} {K : PySem.W.Frag} {mg : Str → Option Value} {base : Heap} {k : Nat} {f : Addr} {x qual : Str} {params : Arguments} {body : List Stmt} {scope : Scope} {fd : FuncData} {N ps : List Str} {sp : Sp}
    (F : FunD K x qual params body scope [] [] f fd) (S : FnScope N ps scope) (len : ∀ vs H Q E, sp vs H Q E → vs.length = ps.length)
    (walk : ∀ (cdv : Value) (A : Around) (outer : List Env) (s : Shared) (H : Hp) (vs : List V) (Q : VK) (E : XK), Room k (A.deeper (envOfC qual scope s.heap.objs.size f cdv)) → (A.deeper (envOfC qual scope s.heap.objs.size f cdv)).guards = some [] → sp vs H Q E →
      ∃ t, PSs (cxOf (L2.CX P w) P w K mg base N qual scope f cdv A outer s H E) body t ∧ t { nx := fun _ H' => Q .non H', rt := Q } (start N vs) H) : FnG P w K mg base (k + 1) f fd ps sp := by
  obtain ⟨oc, od, dV, kV, doc, pm, an, cdv, ct, osl, rfl, lk, hcd, _, _⟩ := F.ex
  refine ⟨len, ?_⟩
  intro A outer s H args us vs Q E room gd env bnd rel want
  have kin : K.In s.heap := env.mod.kin.keeps (fun b o q => (env.bs b o q).1)
  have nolim : s.heap.NoLimit := env.mod.nolimit.keeps (fun b o q => (env.bs b o q).1)
  have kinds : ∀ y ∈ ps.zip us, scope.names.lookup y.1 = some .local ∨ (scope.names.lookup y.1 = some .cell ∧ ((cellsFrom (s.heap.objs.size + 1) scope.names []).lookup y.1).isSome = true) := by
    rintro ⟨y, v⟩ hy
    cases S.par y (List.of_mem_zip hy).1 with
    | inl q => exact Or.inl q
    | inr q => exact Or.inr ⟨q, PySem.W.cellsFrom_some _ _ _ (Or.inl q)⟩
  apply codeAny_call_function room.depth (kin _ _ lk) rfl S.co S.gen rfl (PySem.W.codeRec_of kin hcd) (bnd _ _ _ _ _)
  apply wpAny_newFunctionEnv_cells S.kind kinds
  rintro e2 rfl s1 entered
  refine ⟨nolim.keeps entered.toInCall.keep, codeAny_func ?_⟩
  obtain ⟨t, ht, hq⟩ := walk cdv A outer s H vs Q E (room.deeper _) (guards_deeper gd) want
  have I := inv_start (CX := L2.CX P w) (E := E) S room.hd env (len _ _ _ _ want) rel entered
  apply wpAny_mono (ht.run [] s1 (start N vs) H _ I hq) ?_ (fun e s' z => z)
  intro fl s' z
  cases fl with
  | ret u => obtain ⟨v, σ', H', J, rv, q⟩ := z; exact ⟨v, H', J.os, J.bare, J.base, J.hok, rv, q⟩
  | next => obtain ⟨σ', H', J, q⟩ := z; exact ⟨V.non, H', J.os, J.bare, J.base, J.hok, rfl, q⟩
  | brk => obtain ⟨_, _, _, q⟩ := z; exact q.elim
  | cont => obtain ⟨_, _, _, q⟩ := z; exact q.elim
def FncG (P : Program) (w : World) (K : PySem.W.Frag) (mg : Str → Option Value) (base : Heap) (k : Nat) (x : Str) (ps : List Str) (sp : Sp) : Prop :=
  ∃ (f : Addr) (fd : FuncData), mg x = some (.ref f) ∧ PySem.W.keepIn K (.ref f) = true ∧ Binds K fd ps [] ∧ FnG P w K mg base k f fd ps sp
section
variable {X : Cx} {k : Nat} {x : Str} {ps : List Str} {sp : Sp} {e : Expr} {es : List Expr} {t : TA} {p pos : Pos}
theorem ocG (F : FncG X.prog X.w X.K X.mg X.base k x ps sp) (hr : Room k X.A) (gd : X.A.guards = some []) (ha : PA X (e :: es) t) (hg : Gl X x := by rfl) (hdb : (x == ("__debug__" : Str)) = false := by decide)
    (he : starEach (e :: es) X.env = (false, eval e X.env) :: starEach es X.env := by rfl) (hpl : (backTo pos (starEach es X.env)).any (·.1) = false := by rfl) :
    PE X (.Call (.Name x p) (e :: es) [] pos) (tCall sp [] E0 t) := by
  obtain ⟨f, fd, hm, hk, hb, G⟩ := F
  constructor
  intro pins s σ H Q I h
  apply wpAny_Call_Name_kw (ld_glob I hg hm ?_ hdb)
  apply PySem.W.callWith_K (h₀ := X.base) I.ok.mod.kin hk ?_ he hpl
  apply thn (ha.run pos pins s σ H _ I h)
  rintro us s1 ⟨vs, H1, I1, r, q⟩
  refine ⟨I1.kIn, ?_⟩
  have q2 : sp vs H1 Q E0 := by simpa using q
  have hl : us.length = ps.length := by rw [← r.length]; exact G.len _ _ _ _ q2
  have b := hb s1 us I1.kIn (by simpa using hl)
  rw [List.append_nil] at b
  apply wpAny_call
  apply codeAny_mono (G.run X.A X.stack s1 H1 ⟨us, []⟩ us vs Q E0 hr gd I1.env0 b r q2)
  intro res s' z
  cases res with
  | error e => exact passL pins σ H1 s1 e s' I1 z
  | ok fl =>
    cases fl with
    | ret u => exact I1.after z
    | next => exact z.elim
    | brk => exact z.elim
    | cont => exact z.elim
end
end OZ
set_option maxRecDepth 100000
set_option maxHeartbeats 1000000
namespace OZ
open PySem PySem.Spec PyProof.Rows L2
def kD : Key → PyData
  | .inl i => .int i
  | .inr x => .str x
mutual
inductive Dq (p : Addr) (H : Hp) : V → PyData → Prop
  | non : Dq p H .non .none
  | bl (b : Bool) : Dq p H (.bl b) (.bool b)
  | int (i : Int) : Dq p H (.int i) (.int i)
  | str (x : Str) : Dq p H (.str x) (.str x)
  | lst {a : Addr} {xs : List V} {ds : List PyData} : a ≠ p → H a = some (.lst xs) → DqAll p H xs ds → Dq p H (.ref a) (.list ds)
  | tup {a : Addr} {xs : List V} {ds : List PyData} : a ≠ p → H a = some (.tup xs) → DqAll p H xs ds → Dq p H (.ref a) (.tuple ds)
  | dic {a : Addr} {kvs : List (Key × V)} {ds : List (PyData × PyData)} : a ≠ p → H a = some (.dK kvs) → DqKv p H kvs ds → Dq p H (.ref a) (.dict ds)
inductive DqAll (p : Addr) (H : Hp) : List V → List PyData → Prop
  | nil : DqAll p H [] []
  | cons {v : V} {vs : List V} {d : PyData} {ds : List PyData} : Dq p H v d → DqAll p H vs ds → DqAll p H (v :: vs) (d :: ds)
inductive DqKv (p : Addr) (H : Hp) : List (Key × V) → List (PyData × PyData) → Prop
  | nil : DqKv p H [] []
  | cons {k : Key} {v : V} {r : List (Key × V)} {d : PyData} {ds : List (PyData × PyData)} : Dq p H v d → DqKv p H r ds → DqKv p H ((k, v) :: r) ((kD k, d) :: ds)
end
section
variable {p : Addr} {H H' : Hp}
mutual
theorem Dq.kp (k : Kp p H H') : ∀ {v : V} {d : PyData}, Dq p H v d → Dq p H' v d
  | _, _, .non => .non
  | _, _, .bl b => .bl b
  | _, _, .int i => .int i
  | _, _, .str x => .str x
  | _, _, .lst n h a => .lst n (k _ _ n h) (DqAll.kp k a)
  | _, _, .tup n h a => .tup n (k _ _ n h) (DqAll.kp k a)
  | _, _, .dic n h a => .dic n (k _ _ n h) (DqKv.kp k a)
theorem DqAll.kp (k : Kp p H H') : ∀ {v : List V} {d : List PyData}, DqAll p H v d → DqAll p H' v d
  | _, _, .nil => .nil
  | _, _, .cons h r => .cons (Dq.kp k h) (DqAll.kp k r)
theorem DqKv.kp (k : Kp p H H') : ∀ {v : List (Key × V)} {d : List (PyData × PyData)}, DqKv p H v d → DqKv p H' v d
  | _, _, .nil => .nil
  | _, _, .cons h r => .cons (Dq.kp k h) (DqKv.kp k r)
end
def tyN : PyData → String
  | .none => "NoneType" | .bool _ => "bool" | .int _ => "int" | .str _ => "str" | .list _ => "list" | .tuple _ => "tuple" | .dict _ => "dict"
theorem Dq.ty {K : PySem.W.Frag} {v : V} {d : PyData} (h : Dq p H v d) : TyX K H v (.type (tyN d)) := by
  cases h with
  | non => exact .base .non
  | bl b => exact .base (.bl b)
  | int i => exact .base (.int i)
  | str x => exact .base (.str x)
  | lst n h a => exact .base (.lst h)
  | tup n h a => exact .base (.tup h)
  | dic n h a => exact .base (.dK h)
end
section
variable {X : Cx} {pins : List (Addr × Obj)} {σ : L2.St} {H : Hp} {s : Shared} {p : Addr}
theorem sm_ne (sm : ∃ o, X.K.lookup sysModules = some o) (I : Inv X pins σ H s) {a : Addr} {o : HO} (h : H a = some o) : sysModules ≠ a := by
  obtain ⟨o', q⟩ := sm
  have z := (I.bs _ _ (I.ok.mod.kin _ _ q)).2
  intro e
  rw [e, h] at z
  cases z
theorem key_reads {h : Heap} {k : Key} {v : Value} (e : keyIs k v = true) : ∃ as, Reads h v (kD k) as ∧ sysModules ∉ as := by
  rcases keyIs_shape e with ⟨i, t, ek, ev⟩ | ⟨x, t, ek, ev⟩
  · rw [ek, ev]; exact ⟨[], .int i t, by simp⟩
  · rw [ek, ev]; exact ⟨[], .str x t, by simp⟩
mutual
theorem Dq.reads (sm : ∃ o, X.K.lookup sysModules = some o) (I : Inv X pins σ H s) : ∀ (d : PyData) (v : V) (u : Value), Dq p H v d → RelV v u → ∃ as, Reads s.heap u d as ∧ sysModules ∉ as
  | .none, _, _, h, r => by
    cases h; cases r
    exact ⟨[], .none, by simp⟩
  | .bool b, _, _, h, r => by
    cases h; cases r
    exact ⟨[], .bool b, by simp⟩
  | .int i, _, _, h, r => by
    cases h; obtain ⟨t, rfl⟩ := r
    exact ⟨[], .int i t, by simp⟩
  | .str x, _, _, h, r => by
    cases h; obtain ⟨t, rfl⟩ := r
    exact ⟨[], .str x t, by simp⟩
  | .list ds, _, _, h, r => by
    cases h with
    | lst n hs ha =>
      cases r
      obtain ⟨its, rv, ⟨o, n, ho, hc, _, hd⟩, _⟩ := I.list (SqL.of hs)
      obtain ⟨as, hr, hn⟩ := DqAll.reads sm I ds _ its ha rv
      exact ⟨_, Reads.list ho hc hd hr, by simp only [List.mem_cons, not_or]; exact ⟨sm_ne sm I hs, hn⟩⟩
  | .tuple ds, _, _, h, r => by
    cases h with
    | tup n hs ha =>
      cases r
      obtain ⟨its, rv, ⟨o, ho, hc, n, hd⟩, _⟩ := I.tuple (SqT.of hs)
      obtain ⟨as, hr, hn⟩ := DqAll.reads sm I ds _ its ha rv
      exact ⟨_, Reads.tuple ho hc hd hr, hn⟩
  | .dict ds, _, _, h, r => by
    cases h with
    | dic n hs ha =>
      cases r
      obtain ⟨_, _, vs, rel, o, es, ep, ho, hc, hd, _, hp, _⟩ := I.hok _ _ hs
      obtain ⟨as, bs, h1, h2, h3, h4⟩ := DqKv.reads sm I ds _ vs es.toList ha rel hp
      refine ⟨_, Reads.dict ho hc.1 hd h1 h2, ?_⟩
      simp only [List.cons_append, List.mem_cons, List.mem_append, not_or]
      exact ⟨sm_ne sm I hs, h3, h4⟩
theorem DqAll.reads (sm : ∃ o, X.K.lookup sysModules = some o) (I : Inv X pins σ H s) : ∀ (ds : List PyData) (vs : List V) (us : List Value), DqAll p H vs ds → Vals vs us → ∃ as, ReadsAll s.heap us ds as ∧ sysModules ∉ as
  | [], _, _, h, r => by
    cases h; cases r
    exact ⟨[], .nil, by simp⟩
  | d :: ds, _, _, h, r => by
    cases h with
    | cons h1 h2 =>
      cases r with
      | cons r1 r2 =>
        obtain ⟨as, q1, n1⟩ := Dq.reads sm I d _ _ h1 r1
        obtain ⟨bs, q2, n2⟩ := DqAll.reads sm I ds _ _ h2 r2
        exact ⟨as ++ bs, .cons q1 q2, by simp only [List.mem_append, not_or]; exact ⟨n1, n2⟩⟩
theorem DqKv.reads (sm : ∃ o, X.K.lookup sysModules = some o) (I : Inv X pins σ H s) : ∀ (ds : List (PyData × PyData)) (kvs : List (Key × V)) (vs : List (Key × Value)) (es : List DictEntry), DqKv p H kvs ds → KV kvs vs → Pairs (mixKind X.prog X.w) es vs →
    ∃ as bs, ReadsAll s.heap (es.map (·.key)) (ds.map (·.1)) as ∧ ReadsAll s.heap (es.map (·.val)) (ds.map (·.2)) bs ∧ sysModules ∉ as ∧ sysModules ∉ bs
  | [], _, _, _, h, r, hp => by
    cases h; cases r; cases hp
    exact ⟨[], [], .nil, .nil, by simp, by simp⟩
  | d :: ds, _, _, _, h, r, hp => by
    cases h with
    | cons h1 h2 =>
      cases r with
      | @cons _ kv' _ _ r1 r2 =>
        cases hp with
        | cons e1 e2 e3 =>
          obtain ⟨k', v'⟩ := kv'
          obtain ⟨rk, rv⟩ := r1
          dsimp only at rk rv e1 e2
          subst rk
          obtain ⟨bs, q2, n2⟩ := Dq.reads sm I _ _ _ h1 rv
          obtain ⟨as', bs', g1, g2, m1, m2⟩ := DqKv.reads sm I ds _ _ _ h2 r2 e3
          obtain ⟨as, q1, n1⟩ := key_reads (h := s.heap) (show keyIs _ _ = true from e1)
          refine ⟨as ++ as', bs ++ bs', .cons q1 g1, .cons (by subst e2; exact q2) g2, ?_, ?_⟩
          · simp only [List.mem_append, not_or]; exact ⟨n1, m1⟩
          · simp only [List.mem_append, not_or]; exact ⟨n2, m2⟩
end
end
structure Fit (d : PyData) (k m : Nat) : Prop where
  sh : d.showable = true
  lv : d.leavesShort 1000 = true
  dp : d.depth ≤ k
  wt : d.weight ≤ m
theorem Fit.len {d : PyData} {k m : Nat} (f : Fit d k m) (hm : m ≤ 10000) : d.shown.length ≤ sizeLine := by
  have h := PyData.shown_le 1000 (by decide) d f.lv
  have h2 : (1000 + 2) * d.weight ≤ 1002 * 10000 := Nat.mul_le_mul_left _ (Nat.le_trans f.wt hm)
  rw [sizeLine_eq]
  omega
def rRepr (p : Addr) : List V → Hp → VK → Prop := fun xs H Q => ∃ (x : V) (d : PyData), xs = [x] ∧ Dq p H x d ∧ Fit d 20 10000 ∧ Q (.str d.shown) H
theorem c_repr {X : Cx} {k : Nat} {p : Addr} (gd : X.A.guards = some []) (hr : Room k X.A) (sm : ∃ o, X.K.lookup sysModules = some o) : CallR X (.builtin "repr") (rRepr p) := by
  intro pins s σ H xs us Q I r h
  obtain ⟨x, d, rfl, hd, hf, q⟩ := h
  obtain ⟨u, rfl, ru⟩ := vals1 r
  have hsz := hf.len (Nat.le_refl _)
  obtain ⟨as, hrd, hns⟩ := Dq.reads sm I d x u hd ru
  have hu := hr.un
  cases hd with
  | non =>
    cases (show u = Value.none from ru)
    exact PySem.P.repr_of_none ⟨.str _, H, I.tok _, ⟨_, rfl⟩, q⟩
  | bl b =>
    cases (show u = Value.bool b from ru)
    refine PySem.P.repr_of_bool ⟨.str _, H, I.tok _, ⟨_, rfl⟩, ?_⟩
    cases b <;> exact q
  | int i =>
    obtain ⟨t, rfl⟩ := (show ∃ t, u = Value.int i t from ru)
    exact PySem.P.repr_of_int (of_decide_eq_true hf.sh) ⟨.str _, H, I.tok _, ⟨_, rfl⟩, q⟩
  | str z =>
    obtain ⟨t, rfl⟩ := (show ∃ t, u = Value.str z t from ru)
    exact PySem.P.repr_of_str (hsz := hsz) ⟨.str _, H, I.tok _, ⟨_, rfl⟩, q⟩
  | lst n h1 h2 =>
    cases (show u = Value.ref _ from ru)
    exact repr_of_reads' hrd hf.sh (fun _ => hns) gd (by have := hf.dp; omega) (fun _ _ e => e) (fun h' u tk hk => ⟨.str _, H, I.kept hk, ⟨_, rfl⟩, q⟩) hsz
  | tup n h1 h2 =>
    cases (show u = Value.ref _ from ru)
    exact repr_of_reads' hrd hf.sh (fun _ => hns) gd (by have := hf.dp; omega) (fun _ _ e => e) (fun h' u tk hk => ⟨.str _, H, I.kept hk, ⟨_, rfl⟩, q⟩) hsz
  | dic n h1 h2 =>
    cases (show u = Value.ref _ from ru)
    exact repr_of_reads' hrd hf.sh (fun _ => hns) gd (by have := hf.dp; omega) (fun _ _ e => e) (fun h' u tk hk => ⟨.str _, H, I.kept hk, ⟨_, rfl⟩, q⟩) hsz
end OZ
set_option maxRecDepth 100000
set_option maxHeartbeats 1000000
namespace OZ
open PySem PySem.Spec PyProof.Rows L2
def exk (a : Addr) (cls : Value) (d : Option Addr) : HO := .ext fun h => ∃ (oe : Obj) (vs : Array Value), h.get? a = some oe ∧ Zc cls d oe ∧ oe.data = .fields vs
theorem exk_ok {P : Program} {w : World} {H : Hp} {h : Heap} {a : Addr} {cls : Value} {d : Option Addr} {oe : Obj} {vs : Array Value} (e : h.get? a = some oe) (z : Zc cls d oe) (f : oe.data = .fields vs) : ObjOk P w H h a (exk a cls d) := by
  refine ⟨⟨oe, vs, e, z, f⟩, ⟨oe, e⟩, ?_⟩
  rintro h1 h2 ⟨o, v, q, r⟩ k
  exact ⟨o, v, k o q, r⟩
theorem exk_at {P : Program} {w : World} {H : Hp} {h : Heap} {a : Addr} {cls : Value} {d : Option Addr} (ok : HOk P w H h) (e : H a = some (exk a cls d)) : ∃ (oe : Obj) (vs : Array Value), h.get? a = some oe ∧ Zc cls d oe ∧ oe.data = .fields vs := by
  have x : ObjOk P w H h a (.ext fun h => ∃ (oe : Obj) (vs : Array Value), h.get? a = some oe ∧ Zc cls d oe ∧ oe.data = .fields vs) := ok a _ e
  exact x.1
section
variable {X : Cx} {pins : List (Addr × Obj)} {σ : L2.St} {H : Hp} {s : Shared}
theorem track {a : Addr} {oe : Obj} {vs : Array Value} {cls : Value} {d : Option Addr} (J : Inv X ((a, oe) :: pins) σ H s) (hz : Zc cls d oe) (hf : oe.data = .fields vs)
    (new : ∀ o, X.s_0.heap.get? a ≠ some o) (np : ∀ q ∈ X.pn ++ pins, q.1 ≠ a) : Inv X pins σ (upd H a (exk a cls d)) s := by
  obtain ⟨hget, hn, nL, nF, _⟩ := J.pin (a, oe) (List.mem_append_right _ List.mem_cons_self)
  dsimp only at hget hn nL nF
  have ne : ∀ {b : Addr} {o : HO}, H b = some o → b ≠ a := fun {b o} q => ne_of_none q hn
  have cellne : ∀ x c, X.env.cells.lookup x = some c → c ≠ a := by
    intro x c q z
    obtain ⟨v, o, ho, hd⟩ := J.cell x c q
    rw [z, hget] at ho
    cases ho
    rw [hf] at hd
    cases hd
  constructor
  · exact J.ok
  · exact J.os
  · exact J.bare
  · have B := J.base
    constructor
    · exact B.keep
    · exact B.slot
    · intro b o q n hx
      rw [upd_ne (fun z => new o (by rw [← z]; exact q))]
      exact B.free b o q n hx
    · exact B.there
    · intro b xs q
      have z := B.tups b xs q
      rw [upd_ne (ne z)]; exact z
    · intro b o u q
      have z := B.frzs b o u q
      rw [upd_ne (ne z)]; exact z
    · intro b ps q
      obtain ⟨more, z⟩ := B.tbls b ps q
      exact ⟨more, by rw [upd_ne (ne z)]; exact z⟩
  · exact J.loc
  · exact J.cell
  · rw [upd_ne (Ne.symm nL)]; exact J.free
  · intro x c q
    rw [upd_ne (cellne x c q)]; exact J.freeC x c q
  · intro q hq
    have hq2 : q ∈ X.pn ++ (a, oe) :: pins := by
      rcases List.mem_append.mp hq with z | z
      · exact List.mem_append_left _ z
      · exact List.mem_append_right _ (List.mem_cons_of_mem _ z)
    obtain ⟨h1, h2, h3⟩ := J.pin q hq2
    exact ⟨h1, by rw [upd_ne (np q hq)]; exact h2, h3⟩
  · intro b o q
    by_cases hb : b = a
    · subst hb
      rw [upd_same] at q
      cases q
      exact exk_ok hget hz hf
    · rw [upd_ne hb] at q
      refine (J.hok b o q).stay (fun _ _ _ z => z) ?_ ?_
      · intro c z; rw [upd_ne (ne z)]; exact z
      · intro c xs z; rw [upd_ne (ne z)]; exact z
  · exact J.len
end
def wKeep (K : PySem.W.Frag) (c : Value) (i : Nat) (ts : Addr → Value → Option Addr → TS) (Wout : WX) (D : Ends) : WX := fun cls d σ H =>
  ∃ b, PySem.W.exmOne K cls c = some b ∧
    (b = true → ∀ a, H a = none → ts a cls d ⟨fun σ' H' => D.nx (σ'.set i none) (upd H' a (exk a cls d)), fun v H' => D.rt v (upd H' a (exk a cls d)), fun σ' H' => D.bk (σ'.set i none) (upd H' a (exk a cls d)),
      fun σ' H' => D.ct (σ'.set i none) (upd H' a (exk a cls d))⟩ (σ.set i (some (.ref a))) H) ∧ (b = false → Wout cls d σ H)
section
variable {X : Cx} {x n : Str} {c : Value} {i : Nat} {body suite : List Stmt} {b₀ : Stmt} {np pos pos' : Pos} {tb : WX → TS} {ts : Addr → Value → Option Addr → TS} {Wout : WX}
theorem ps_try_keep (hs : X.stack = X.env :: X.outer) (hf : X.env.frame = some X.env.locals) (hex : X.ex = []) (hN : X.N.Nodup) (hi : X.N[i]? = some n) (hln : X.env.kindOf n = some .local) (hc : Names X x c) (tk : Takes X Wout)
    (hb : ∀ (W : WX) (pn : List (Addr × Obj)) (xe : Value → Shared → Prop), Takes (X.tr pn xe) W → PassesOwn (model X.prog X.w) X.A X.env xe → PSs (X.tr pn xe) body (tb W))
    (hsu : ∀ (a : Addr) (oe : Obj) (cls : Value) (d : Option Addr) (pn : List (Addr × Obj)), Zc cls d oe → (∃ vs, oe.data = .fields vs) → PSs (X.suite a ((a, oe) :: pn)) (b₀ :: suite) (ts a cls d)) :
    PS X (.Try body [.ExceptHandler (some (.Name x np)) (some n) (b₀ :: suite) pos'] [] [] pos) (fun D σ H => tb (wKeep X.K c i ts Wout D) D σ H) := by
  constructor
  intro pins s σ H D I h
  have ok := I.ok
  have fr : X.A.frames = some (X.env :: X.outer) := ok.frames.trans (by rw [hs])
  apply wpAny_Try_except
  have hbody := hb (wKeep X.K c i ts Wout D) (X.pn ++ pins) (fun e s₁ => wpAny (model X.prog X.w) X.A (noteFrame e X.env) (fun _ s₂ => wpAny (model X.prog X.w) X.A (setFlight e none)
    (fun _ s₃ => wpAny (model X.prog X.w) X.A (handleBy e X.env [.ExceptHandler (some (.Name x np)) (some n) (b₀ :: suite) pos']) (SP X pins D) X.xe s₃) X.xe s₂) X.xe s₁) ?kept PassesOwn.looking
  case kept =>
    rintro u s' ⟨a, B, sI, pins', σ', H', cls, d, rfl, J', nb, up, sky, na, os, ag, b, e1, yes, no⟩
    have J : Inv X pins σ' H' sI := J'.ofTry ok
    rw [hs] at sky
    show wpAny (model X.prog X.w) X.A (noteFrame (.ref a) X.env) _ _ _
    apply Sky.land Zc.steady fr hf sky
    intro h3 fl3 up3
    have J3 : Inv X pins σ' H' { s' with heap := h3 } := J.landed nb fl3.1 (up.trans up3) os ag
    obtain ⟨oe3, vs3, he3, hz3, hd3⟩ := fl3.there
    have nfr : a ∉ frs (X.env :: X.outer) := by
      intro hm
      obtain ⟨_, o', e', hnf⟩ := fl3.2.2.1.mem hm
      rw [he3] at e'
      cases e'
      exact hnf _ hd3
    have nL : a ≠ X.env.locals := fun z => nfr (List.mem_filterMap.mpr ⟨X.env, List.mem_cons_self, by rw [hf, z]⟩)
    have nF : a ∉ X.fs := by
      intro hm
      obtain ⟨e, he, q⟩ := List.mem_filterMap.mp hm
      exact nfr (List.mem_filterMap.mpr ⟨e, List.mem_cons_of_mem _ he, q⟩)
    have fresh : ∀ o, sI.heap.get? a ≠ some o := by
      intro o q
      have z := nb a o q (by rw [hs]; exact nfr)
      rw [fl3.2.1] at z
      cases z
    have new0 : ∀ o, X.s_0.heap.get? a ≠ some o := by
      intro o q
      obtain ⟨o', z⟩ := J.base.there a o q (by rw [hex]; simp)
      exact fresh o' z
    have nps : ∀ q ∈ X.pn ++ pins, q.1 ≠ a := by
      intro q hq z
      exact fresh q.2 (by rw [← z]; exact (J.pin q hq).1)
    have S3 := J3.suite he3 hd3 na nL nF
    apply wpAny_handleBy_cons (codeAny_handlers_test ?_) (by intro q; cases q)
    have LT : PySem.W.Looks (model X.prog X.w) h3 (typeOf (.ref a)) cls := fun A Q E s k q => wpAny_typeOf_ref (k _ _ he3) (by rw [hz3.1]; exact q)
    have LM := PySem.W.exm_one (M := model X.prog X.w) J3.kIn LT e1
    have name : ∀ {Q : Value → Shared → Prop} {E : Value → Shared → Prop}, Q c { s' with heap := h3 } → wpAny (model X.prog X.w) (X.A.mark (some (.ref a))) (eval (.Name x np) X.env) Q E { s' with heap := h3 } := by
      intro Q E q
      obtain ⟨hg, hdbg, hm | ⟨hm, hv, hnn⟩⟩ := hc
      · exact ld_glob (X := X.suite a ((a, oe3) :: (X.pn ++ pins))) S3 hg hm q hdbg
      · exact ld_blt (X := X.suite a ((a, oe3) :: (X.pn ++ pins))) S3 hg hm hv q hnn hdbg
    apply name
    apply LM.here
    cases b with
    | true =>
      apply codeAny_handlers_suite_as
      apply HandSPX.lands_againZ fl3
      intro h4 fl4 up4
      have J4 : Inv X pins σ' H' { s' with heap := h4 } := J.landed nb fl4.1 ((up.trans up3).trans up4) os ag
      obtain ⟨oe4, vs4, he4, hz4, hd4⟩ := fl4.there
      have S4 := J4.suite he4 hd4 na nL nF
      apply store_ok (X := X.suite a ((a, oe4) :: (X.pn ++ pins))) (v := .ref a) S4 hN hi (.inl hln) rfl ?_ (.inr hln)
      intro s5 S5
      apply wpAny_mono ((hsu a oe4 cls d (X.pn ++ pins) hz4 ⟨_, hd4⟩).run [] s5 _ H' _ S5 (yes rfl a na)) ?_ (fun _ _ z => z.elim)
      have leave : ∀ {s6 : Shared} {σ6 : L2.St} {H6 : Hp} {Q : Shared → Prop}, Inv (X.suite a ((a, oe4) :: (X.pn ++ pins))) [] σ6 H6 s6 → (∀ s7, Inv X pins (σ6.set i none) (upd H6 a (exk a cls d)) s7 → Q s7) →
          wpAny (model X.prog X.w) X.A (do bindName X.env n .none; unbindBehindTheSuite X.env n pos') (fun _ s7 => Q s7) X.xe s6 := by
        intro s6 σ6 H6 Q S6 hq
        have J6 : Inv X ((a, oe4) :: pins) σ6 H6 s6 := by
          refine ⟨ok, S6.os, S6.bare, S6.base, S6.loc, S6.cell, S6.free, S6.freeC, ?_, S6.hok, S6.len⟩
          intro q hq
          apply S6.pin q
          apply List.mem_append_left
          rcases List.mem_append.mp hq with z | z
          · exact List.mem_cons_of_mem _ (List.mem_append_left _ z)
          · rcases List.mem_cons.mp z with z | z
            · rw [z]; exact List.mem_cons_self
            · exact List.mem_cons_of_mem _ (List.mem_append_right _ z)
        exact gone_ok J6 hN hi hln fun s7 J7 => hq s7 (track J7 hz4 hd4 new0 nps)
      intro f s6 hsp
      cases f with
      | next => obtain ⟨σ6, H6, S6, q6⟩ := hsp; exact leave S6 fun s7 J7 => ⟨_, _, J7, q6⟩
      | brk => obtain ⟨σ6, H6, S6, q6⟩ := hsp; exact leave S6 fun s7 J7 => ⟨_, _, J7, q6⟩
      | cont => obtain ⟨σ6, H6, S6, q6⟩ := hsp; exact leave S6 fun s7 J7 => ⟨_, _, J7, q6⟩
      | ret u => obtain ⟨v6, σ6, H6, S6, r6, q6⟩ := hsp; exact leave S6 fun s7 J7 => ⟨_, _, _, J7, r6, q6⟩
    | false =>
      show wpAny _ X.A (handleBy (.ref a) X.env []) _ _ _
      apply wpAny_handleBy_nil
      obtain ⟨k1, k2, k3, oe, vs, T, oT, ts', he, hz, hd, h1, hr⟩ := id fl3
      unfold PySem.passOn
      apply wpAny_bind
      apply wpAny_field he hd h1
      rw [if_neg (show ¬ ((Value.ref T == Value.none) = true) from by simp)]
      have on : wpAny (model X.prog X.w) X.A (setFlight (.ref a) X.env.frame) (fun _ s4 => wpAny (model X.prog X.w) X.A (throw (.ref a) : Sem Flow) (SP X pins D) X.xe s4) X.xe { s' with heap := h3 } := by
        rw [hf]
        apply HandSPX.setFlight_upZ fl3
        intro h4 hh4 up4
        apply wpAny_throw
        apply tk
        exact ⟨a, B, sI, pins, σ', H', cls, d, rfl, J, nb, (up.trans up3).trans up4, .inr (.inr (by rw [hs]; exact hh4)), na, os, ag, no rfl⟩
      first
        | exact wpAny_bind (wpAny_pure (wpAny_bind on))
        | exact wpAny_bind on
  apply wpAny_mono (hbody.run [] s σ H D (I.toTry _) h) ?_ (fun e s1 z => z)
  intro f s1 z
  cases f with
  | next => obtain ⟨σ', H', J', q⟩ := z; exact wpAny_execs_nil ⟨σ', H', J'.ofTry ok, q⟩
  | brk => obtain ⟨σ', H', J', q⟩ := z; exact ⟨σ', H', J'.ofTry ok, q⟩
  | cont => obtain ⟨σ', H', J', q⟩ := z; exact ⟨σ', H', J'.ofTry ok, q⟩
  | ret u => obtain ⟨v, σ', H', J', r, q⟩ := z; exact ⟨v, σ', H', J'.ofTry ok, r, q⟩
end
end OZ
set_option maxRecDepth 100000
set_option maxHeartbeats 1000000
namespace OZ
open PySem PySem.Spec PyProof.Rows L2
def oexB (K : PySem.W.Frag) (C : Addr) : Bool :=
  match K.lookup C with
  | some ⟨.type "type", _, .cls cd, sl⟩ =>
    (match cd.mro, sl.toList with
    | .ref C' :: bm, [_, _, _, _, some (.builtin n), _] => C' == C && (n == "ValueError.__new__" && (!cd.hasDel && (cd.hasDict && PySem.HandSPX.refsVE bm)))
    | _, _ => false)
  | _ => false
theorem oexB_ok {K : PySem.W.Frag} {C : Addr} (q : oexB K C = true) : ∃ nm qn N bs bm sn sub ab col dd k0 k1 k2 k3 k5, K.lookup C = some (excClassObj nm qn C N bs bm true sn sub ab col dd k0 k1 k2 k3 k5 "ValueError.__new__") ∧ PySem.HandSPX.refsVE bm = true := by
  unfold oexB at q
  split at q
  next dd cd sl ho =>
    split at q
    next C' bm k0 k1 k2 k3 n k5 hm hs =>
      simp only [Bool.and_eq_true, beq_iff_eq, Bool.not_eq_true'] at q
      obtain ⟨rfl, rfl, h1, h2, h3⟩ := q
      obtain ⟨nm, bs, mro, ns, qn, hd, sn, sub, ab, col, del⟩ := cd
      dsimp only at hm h1 h2
      subst hm; subst h1; subst h2
      obtain ⟨l⟩ := sl
      dsimp only at hs
      subst hs
      exact ⟨nm, qn, ns, bs, bm, sn, sub, ab, col, dd, k0, k1, k2, k3, k5, ho, h3⟩
    next => cases q
  next => cases q
structure XC (K : PySem.W.Frag) (C : Addr) : Prop where
  oex : OexC K C
  ga : PySem.W.findIn K (.ref C) "__getattribute__" = some (some (.builtin "BaseException.__getattribute__"))
  gg : PySem.W.findIn K (.ref C) "__getattr__" = some none
  hd : PySem.W.hasDictIn K C = true
  ha : PySem.W.findIn K (.ref C) "__class__" = some (some (.builtin "object.__class__"))
  hn : PySem.W.specialIn K (.builtin "object.__class__") "__get__" = some (some (.builtin "getset_descriptor.__get__"))
  ht : PySem.W.takesIn K (.builtin "object.__class__") = some true
  hm : PySem.W.mroIn K C (.type "object") = some true
def xcB (K : PySem.W.Frag) (C : Addr) : Bool :=
  oexB K C && (decide (PySem.W.findIn K (.ref C) "__setattr__" = some (some (.builtin "object.__setattr__"))) && (decide (PySem.W.subIn K (.ref C) (.type "BaseException") = some true) && (decide (PySem.W.typeIn K (.ref C) = some (.type "type")) && (PySem.W.keepIn K (.ref C) &&
  (decide (PySem.W.findIn K (.ref C) "__getattribute__" = some (some (.builtin "BaseException.__getattribute__"))) && (decide (PySem.W.findIn K (.ref C) "__getattr__" = some none) && (PySem.W.hasDictIn K C && (decide (PySem.W.findIn K (.ref C) "__class__" = some (some (.builtin "object.__class__"))) &&
  (decide (PySem.W.specialIn K (.builtin "object.__class__") "__get__" = some (some (.builtin "getset_descriptor.__get__"))) && (decide (PySem.W.takesIn K (.builtin "object.__class__") = some true) && decide (PySem.W.mroIn K C (.type "object") = some true)))))))))))
theorem xcB_ok {K : PySem.W.Frag} {C : Addr} (h : xcB K C = true) : XC K C := by
  unfold xcB at h
  simp only [Bool.and_eq_true, decide_eq_true_eq] at h
  obtain ⟨h1, h2, h3, h4, h5, h6, h7, h8, h9, h10, h11, h12⟩ := h
  exact ⟨⟨oexB_ok h1, h2, h3, h4, h5⟩, h6, h7, h8, h9, h10, h11, h12⟩
theorem XC.cl {K : PySem.W.Frag} {C : Addr} (x : XC K C) : (PySem.W.clsIn K C).isSome = true := by
  obtain ⟨cd, h, _⟩ := PySem.W.any_some x.hd
  rw [h]; rfl
def ExAt (H : Hp) (a C : Addr) (fs : List (Str × V)) : Prop := (∃ d, H a = some (exk a (.ref C) (some d)) ∧ H d = some (.xd fs)) ∨ (fs = [] ∧ H a = some (exk a (.ref C) none)) ∨
  (∃ d, H a = some (exo a C (some d)) ∧ H d = some (exd d fs))
section
variable {X : Cx} {pins : List (Addr × Obj)} {σ : L2.St} {H : Hp} {s : Shared}
theorem ExAt.inst {a C : Addr} {fs : List (Str × V)} (I : Inv X pins σ H s) (h : ExAt H a C fs) : ∃ (oe : Obj) (od : Option Obj), PySem.W.InstAt s.heap a oe C od ∧
    (fs = [] ∨ ∃ (o : Obj) (mA : Str → Option Value), od = some o ∧ (∀ f, PySem.W.lookIn f o = some (mA f)) ∧ ∀ f, RelO (fs.lookup f) (mA f)) := by
  rcases h with ⟨d, h1, h2⟩ | ⟨h0, h1⟩ | ⟨d, h1, h2⟩
  · obtain ⟨oe, vs, e, z, f⟩ := exk_at I.hok h1
    have hx : ObjOk X.prog X.w H s.heap d (.xd fs) := I.hok d _ h2
    obtain ⟨mA, hns, hr⟩ := hx
    obtain ⟨od, ho, hl⟩ := lookIn_ns hns
    exact ⟨oe, some od, ⟨e, z.1, by unfold PySem.W.notCls; rw [f] <;> rfl, by rw [z.2]; exact ho⟩, .inr ⟨od, mA, rfl, hl, hr⟩⟩
  · obtain ⟨oe, vs, e, z, f⟩ := exk_at I.hok h1
    exact ⟨oe, none, ⟨e, z.1, by unfold PySem.W.notCls; rw [f] <;> rfl, by rw [z.2]; trivial⟩, .inl h0⟩
  · obtain ⟨t1, e⟩ := exo_at I.hok h1
    obtain ⟨mA, hns, hr⟩ := exd_at I.hok h2
    obtain ⟨od, ho, hl⟩ := lookIn_ns hns
    exact ⟨_, some od, ⟨e, rfl, rfl, ho⟩, .inr ⟨od, mA, rfl, hl, hr⟩⟩
def rIsA (K : PySem.W.Frag) : List V → Hp → VK → Prop := fun xs H Q => rIsi K xs H Q ∨
  ∃ (a C : Addr) (fs : List (Str × V)) (c : V) (u : Value) (b : Bool), xs = [.ref a, c] ∧ ExAt H a C fs ∧ XC K C ∧ ClsV c u ∧ PySem.W.kitOne K (.ref C) u = some b ∧ Q (.bl b) H
theorem c_isA : CallR X (.builtin "isinstance") (rIsA X.K) := by
  intro pins s σ H xs us Q I r h
  rcases h with h | ⟨a, C, fs, c, u, b, rfl, hx, xc, cv, e, q⟩
  · exact call_isi pins s σ H xs us Q I r h
  · obtain ⟨u1, u2, rfl, r1, r2⟩ := vals2 r
    have e2 := cv.eq r2
    subst e2
    cases (show u1 = Value.ref a from r1)
    obtain ⟨oe, od, J, _⟩ := hx.inst I
    exact PySem.W.kia_one (PySem.W.kitx_exc (gt := none) xc.cl xc.ga xc.gg xc.oex.exC xc.ha xc.hn xc.ht xc.hm) I.kIn J e (fun z => nomatch z) fun tk => ⟨.bl b, H, I.tok tk, rfl, q⟩
def rAtt (K : PySem.W.Frag) (f : Str) : V → Hp → VK → Prop := fun x H1 Q => (∃ a C dx fs v, x = .ref a ∧ H1 a = some (.ins C dx fs) ∧ Cls K C ∧ NoAttr K C f ∧ fs.lookup f = some v ∧ Q v H1) ∨
  ∃ a C fs v, x = .ref a ∧ ExAt H1 a C fs ∧ XC K C ∧ NoAttr K C f ∧ fs.lookup f = some v ∧ Q v H1
def tAtt (K : PySem.W.Frag) (ta : TE) (f : Str) : TE := fun σ H Q => ta σ H fun x H1 => rAtt K f x H1 Q
theorem y_att {K : PySem.W.Frag} {ta : TE} {f : Str} {Q : VK} (h : ta σ H fun x H1 => rAtt K f x H1 Q) : tAtt K ta f σ H Q := h
theorem y_attI {K : PySem.W.Frag} {f : Str} {Q : VK} {a C dx : Addr} {fs : List (Str × V)} {v : V} (h1 : H a = some (.ins C dx fs)) (h2 : Cls K C) (h3 : NoAttr K C f) (h4 : fs.lookup f = some v) (h : Q v H) : rAtt K f (.ref a) H Q :=
  .inl ⟨a, C, dx, fs, v, rfl, h1, h2, h3, h4, h⟩
theorem y_attX {K : PySem.W.Frag} {f : Str} {Q : VK} {a C : Addr} {fs : List (Str × V)} {v : V} (h1 : ExAt H a C fs) (h2 : XC K C) (h3 : NoAttr K C f) (h4 : fs.lookup f = some v) (h : Q v H) : rAtt K f (.ref a) H Q :=
  .inr ⟨a, C, fs, v, rfl, h1, h2, h3, h4, h⟩
theorem pe_att {e : Expr} {ta : TE} {f : Str} {pos : Pos} (he : PE X e ta) (hb : attributeBase e f X.env (eval e X.env) = eval e X.env := by rfl) : PE X (.Attribute e f pos) (tAtt X.K ta f) := by
  constructor
  intro pins s σ H Q I h
  apply attr_of hb
  apply thn (he.run pins s σ H _ I h)
  rintro u s1 ⟨x, H1, I1, rx, q⟩
  rcases q with q | ⟨a, C, fs, v, rfl, hx, xc, na, l, q⟩
  · obtain ⟨a, C, dx, fs, v, rfl, h1, h2, h3, h4, h5⟩ := q
    cases (show u = Value.ref a from rx)
    exact getattr_ok I1 h1 h2 h3 h4 (fun u2 s2 I2 ru => ⟨v, H1, I2, ru, h5⟩)
  · cases (show u = Value.ref a from rx)
    obtain ⟨oe, od, J, hf⟩ := hx.inst I1
    rcases hf with rfl | ⟨o, mA, rfl, hl, hr⟩
    · cases l
    · obtain ⟨w, hw, rw'⟩ := RelO.some_of (v := v) (o := mA f) (by rw [← l]; exact hr f)
      exact HandSPX.exc_get I1.kIn J xc.ga xc.gg xc.oex.exC (PySem.W.findObj_own xc.hd na rfl (by rw [hl, hw])) (handed_of rw') ⟨v, H1, I1.tok _, rw', q⟩
end
end OZ
set_option maxRecDepth 100000
set_option maxHeartbeats 2000000
namespace OZ
open PySem PySem.Spec PyProof.Rows L2 LamX
structure Entry (P : Program) (w : World) (K : PySem.W.Frag) (cs : List (Addr × Addr)) (a : Addr) (ns : List Int) (h : Heap) (H : Hp) : Prop where
  tab : ∀ q ∈ cs, H q.2 = some (.tbl #[])
  only : ∀ b, H b = none ∨ b ∈ cs.map (·.2) ∨ ∃ o xs, H b = some (.frz o (.lst xs))
  sq : SqL K H a (ns.map V.int)
  ok : HOk P w H h
  at_ : ∀ b, H b ≠ none → b = a ∨ b ∈ cs.map (·.2)
  notK : H a ≠ none → K.lookup a = none
section
variable {P : Program} {w : World} {K : PySem.W.Frag} {mg mb : Str → Option Value} {k : Nat} {fa a : Addr} {cs : List (Addr × Addr)} {fd : FuncData} {x : Str} {sp : Sp} {s₁ : Shared} {vs : List Value} {ns : List Int}
theorem entry_of (KX : K.In s₁.heap) (hT : ∀ q ∈ cs, s₁.heap.get? q.2 = some { cls := .none, data := .fields #[] }) (ha : s₁.heap.get? a = some { cls := .type "list", data := .seq vs.toArray }) (hi : IntsAre vs ns) (hl : ns.length ≤ sizeLine) :
    ∃ H, Entry P w K cs a ns s₁.heap H := by
  have rel := vals_ints hi
  have len := hi.length
  have tabs : ∀ b : Addr, b ∈ cs.map (·.2) → s₁.heap.get? b = some { cls := .none, data := .fields #[] } := by
    intro b hb
    obtain ⟨q, hq, rfl⟩ := List.mem_map.mp hb
    exact hT q hq
  have mem : ∀ q ∈ cs, q.2 ∈ cs.map (·.2) := fun q hq => List.mem_map.mpr ⟨q, hq, rfl⟩
  have notTab : a ∉ cs.map (·.2) := by
    intro z
    have q := tabs a z
    rw [ha] at q
    have q2 := congrArg Obj.data (Option.some.inj q)
    cases q2
  by_cases hk : K.lookup a = none
  · refine ⟨fun b => if b = a then some (.frz { cls := .type "list", data := .seq vs.toArray } (.lst (ns.map V.int))) else if b ∈ cs.map (·.2) then some (.tbl #[]) else none, ?_⟩
    constructor
    · intro q hq
      have n : ¬ q.2 = a := fun z => notTab (z ▸ mem q hq)
      show (if q.2 = a then _ else _) = _
      rw [if_neg n, if_pos (mem q hq)]
    · intro b
      show (if b = a then _ else _) = _ ∨ _ ∨ _
      by_cases hb : b = a
      · exact Or.inr (Or.inr ⟨_, _, if_pos hb⟩)
      · by_cases hb2 : b ∈ cs.map (·.2)
        · exact Or.inr (Or.inl hb2)
        · exact Or.inl (by rw [if_neg hb, if_neg hb2])
    · exact Or.inl (Or.inr ⟨{ cls := .type "list", data := .seq vs.toArray }, if_pos rfl⟩)
    · intro b u z
      have z2 : (if b = a then some (HO.frz { cls := .type "list", data := .seq vs.toArray } (.lst (ns.map V.int))) else if b ∈ cs.map (·.2) then some (.tbl #[]) else none) = some u := z
      by_cases hb : b = a
      · rw [if_pos hb] at z2
        cases z2
        subst hb
        exact ⟨ha, by rw [List.length_map]; exact hl, vs, _, rel, ha⟩
      · rw [if_neg hb] at z2
        by_cases hb2 : b ∈ cs.map (·.2)
        · rw [if_pos hb2] at z2
          cases z2
          exact tabs b hb2
        · rw [if_neg hb2] at z2
          cases z2
    · intro b z
      by_cases hb : b = a
      · exact Or.inl hb
      · by_cases hb2 : b ∈ cs.map (·.2)
        · exact Or.inr hb2
        · exact absurd (show (if b = a then _ else _) = none by rw [if_neg hb, if_neg hb2]) z
    · exact fun _ => hk
  · obtain ⟨o, hk⟩ := Option.ne_none_iff_exists'.mp hk
    have e := KX a o hk
    rw [ha] at e
    cases e
    refine ⟨fun b => if b ∈ cs.map (·.2) then some (.tbl #[]) else none, ?_⟩
    constructor
    · exact fun q hq => if_pos (mem q hq)
    · intro b
      by_cases hb : b ∈ cs.map (·.2)
      · exact Or.inr (Or.inl hb)
      · exact Or.inl (if_neg hb)
    · exact Or.inr ⟨_, vs.toArray, _, hk, rfl, rfl, rfl, by rw [List.size_toArray, len]; exact hl, by simpa using rel⟩
    · intro b u z
      by_cases hb : b ∈ cs.map (·.2)
      · have z2 := (if_pos hb).symm.trans z
        cases z2
        exact tabs b hb
      · have z2 := (if_neg hb).symm.trans z
        cases z2
    · intro b z
      by_cases hb : b ∈ cs.map (·.2)
      · exact Or.inr hb
      · exact absurd (if_neg hb) z
    · intro z
      exact absurd (show (if a ∈ cs.map (·.2) then some (HO.tbl #[]) else none) = none from if_neg notTab) z
theorem lawG_call (KX : K.In s₁.heap) (hns : s₁.heap.Ns mainGlobals mg) (hb : s₁.heap.Ns builtinsNs mb) (hbb : ∀ x : Str, x ≠ "__name__" → mb x = bootBuiltins x) (hlim : s₁.heap.NoLimit) (hg : s₁.gens = #[])
    (hT : ∀ q ∈ cs, s₁.heap.get? q.2 = some { cls := .none, data := .fields #[] }) (nT : ∀ q ∈ cs, K.lookup q.2 = none) (C : ∀ q ∈ cs, PySem.W.CodeHd s₁.heap q.1 q.2)
    (hbm : ∃ (bm : Addr) (ob : Obj), mg "__builtins__" = some (.ref bm) ∧ bm ≠ builtinsNs ∧ s₁.heap.get? bm = some ob ∧ ob.cls = .type "module" ∧ ob.dict = some builtinsNs ∧ ob.data = .plain)
    (ha : s₁.heap.get? a = some { cls := .type "list", data := .seq vs.toArray }) (hi : IntsAre vs ns) (hl : ns.length ≤ sizeLine) (hr : Room k callerA)
    (F : ∀ base : Heap, K.In base → base.Ns mainGlobals mg → (∀ q ∈ cs, TabB base mg q.1 q.2) → FnG P w K mg base k fa fd [x] sp) (hbind : ∀ (s : Shared) (u : Value), BindsTo s fd ⟨[u], []⟩ [(x, u)])
    (hsp : ∀ H : Hp, (∀ q ∈ cs, H q.2 = some (.tbl #[])) → SqL K H a (ns.map V.int) → sp [.ref a] H (fun v _ => v = .bl true) fun _ _ _ => False) :
    codeAny (model P w) callerA (.call (.ref fa) ⟨[.ref a], []⟩) (fun r s' => r = .ok (.ret (.bool true)) ∧ OldK s₁.heap s'.heap ∧ s'.os = s₁.os ∧ AllBare s'.gens) s₁ := by
  obtain ⟨H, EN⟩ := entry_of (P := P) (w := w) (cs := cs) KX hT ha hi hl
  have tabs : ∀ b : Addr, b ∈ cs.map (·.2) → s₁.heap.get? b = some { cls := .none, data := .fields #[] } := by
    intro b hb
    obtain ⟨q, hq, rfl⟩ := List.mem_map.mp hb
    exact hT q hq
  have plain : ∀ {b : Addr} {o : Obj}, s₁.heap.get? b = some o → (∀ vs n, o.data ≠ .seq vs n) → o.data ≠ .fields #[] → (hidT s₁.heap H).get? b = some o := by
    intro b o e h1 h2
    apply hidT_get e
    cases q : H b with
    | none => rfl
    | some u =>
      exfalso
      rcases EN.at_ b (by rw [q]; simp) with e' | e'
      · rw [e', ha] at e
        cases e
        exact h1 _ _ rfl
      · rw [tabs b e'] at e
        cases e
        exact h2 rfl
  have nsT : ∀ {b : Addr} {m : Str → Option Value}, s₁.heap.Ns b m → (hidT s₁.heap H).Ns b m := by
    rintro b m ⟨o, es, ep, e, d, r⟩
    refine ⟨o, es, ep, plain e ?_ ?_, d, r⟩
    · intro vs n z; rw [d] at z; cases z
    · intro z; rw [d] at z; cases z
  have kinB : K.In (hidT s₁.heap H) := by
    intro b o e
    apply hidT_get (KX b o e)
    cases q : H b with
    | none => rfl
    | some u =>
      exfalso
      rcases EN.at_ b (by rw [q]; simp) with e' | e'
      · rw [e'] at e q
        rw [EN.notK (by rw [q]; simp)] at e
        cases e
      · obtain ⟨r, hr, er⟩ := List.mem_map.mp e'
        rw [← er, nT r hr] at e
        cases e
  have md : L2.Mod K mg (hidT s₁.heap H) := by
    obtain ⟨mc, h1, h2⟩ := hlim
    exact ⟨kinB, nsT hns, ⟨mb, nsT hb, hbb⟩, ⟨mc, nsT h1, h2⟩⟩
  have tb : ∀ q ∈ cs, TabB (hidT s₁.heap H) mg q.1 q.2 := by
    intro q hq
    have hTq := hT q hq
    constructor
    · obtain ⟨o, us, file, tf, flags, tg, inF, text, tt, e1, r1, r2, r3, r4⟩ := C q hq
      refine ⟨o, us, file, tf, flags, tg, inF, text, tt, plain e1 ?_ ?_, r1, r2, r3, r4⟩
      · intro vs n z; rw [r2] at z; cases z
      · intro z; rw [r2] at z; cases z; simp at r3
    · obtain ⟨bm, ob, b1, b2, b3, b4, b5, b6⟩ := hbm
      refine ⟨bm, ob, b1, b2, ?_, ?_, plain b3 ?_ ?_, b4, b5, b6⟩
      · intro z
        obtain ⟨o, es, ep, e, hd, _⟩ := hns
        rw [z, e] at b3; cases b3
        rw [hd] at b6; cases b6
      · intro z
        rw [z, hTq] at b3; cases b3; cases b6
      · intro vs n z; rw [b6] at z; cases z
      · intro z; rw [b6] at z; cases z
    · intro z
      obtain ⟨o, es, ep, e, hd, _⟩ := hns
      rw [z, hTq] at e; cases e; cases hd
  have env : Env0 P w K mg (hidT s₁.heap H) callerA [] s₁ H := by
    refine ⟨rfl, md, fun b o e => of_hidT e, Nat.le_of_eq (hidT_size _ _), trivial, ?_, EN.ok, .of_eq hg⟩
    intro b z
    exact absurd (show b ∈ ([] : List Addr) from z) (by simp)
  have go := (F _ kinB (nsT hns) tb).run callerA [] s₁ H ⟨[.ref a], []⟩ [.ref a] [.ref a] (fun v _ => v = .bl true) (fun _ _ _ => False) hr rfl env (hbind s₁ (.ref a)) (.cons rfl .nil) (hsp H EN.tab EN.sq)
  apply codeAny_mono go
  intro r s' z
  cases r with
  | error e =>
    obtain ⟨_, _, _, _, _, _, _, _, _, _, _, _, q⟩ := z
    exact q.elim
  | ok fl =>
    cases fl with
    | next => exact z.elim
    | brk => exact z.elim
    | cont => exact z.elim
    | ret u =>
      obtain ⟨v, H', os, bare, un, ok', rv, q⟩ := z
      have q2 : v = .bl true := q
      subst q2
      cases (show u = Value.bool true from rv)
      have kept : ∀ b o, b ∉ cs.map (·.2) → s₁.heap.get? b = some o → s'.heap.get? b = some o := by
        intro b o nb e
        rcases EN.only b with y | y | ⟨ob, xs, y⟩
        · apply un.keep b o e y
          · intro y2; exact absurd (show b ∈ ([] : List Addr) from y2) (by simp)
          · simp
        · exact absurd y nb
        · obtain ⟨e1, _⟩ := EN.ok b _ y
          obtain ⟨e2, _⟩ := ok' b _ (un.frzs b ob _ y)
          rw [e] at e1; cases e1
          exact e2
      have grown : ∀ q ∈ cs, ∃ more : Array Value, s'.heap.get? q.2 = some { cls := .none, data := .fields more } := by
        intro q hq
        obtain ⟨more, y⟩ := un.tbls q.2 #[] (EN.tab q hq)
        exact ⟨_, ok' q.2 _ y⟩
      refine ⟨rfl, ⟨?_, ?_⟩, os, bare⟩
      · intro b o e
        by_cases hb : b ∈ cs.map (·.2)
        · obtain ⟨q, hq, rfl⟩ := List.mem_map.mp hb
          obtain ⟨more, hm⟩ := grown q hq
          rw [hT q hq] at e
          cases e
          exact Or.inr (Or.inl ⟨((C q hq).tab (hT q hq)).isCodeTable, rfl, #[], more, rfl, by rw [Array.empty_append]; exact hm⟩)
        · exact Or.inl (kept b o hb e)
      · intro b o e
        by_cases hb : b ∈ cs.map (·.2)
        · obtain ⟨q, hq, rfl⟩ := List.mem_map.mp hb
          obtain ⟨more, hm⟩ := grown q hq
          exact ⟨_, hm⟩
        · exact ⟨o, kept b o hb e⟩
end
def LawG (l : PySem.W.OpenLaw) (w : World) (K : PySem.W.Frag) (k n : Nat) (x : Str) (mg : Str → Option Value) (fa : Addr) (h : Heap) : Prop :=
  ∃ (fd : FuncData) (cs : List (Addr × Addr)) (sp : Sp), (∀ q ∈ cs, h.get? q.2 = some { cls := .none, data := .fields #[] }) ∧ (∀ q ∈ cs, K.lookup q.2 = none) ∧ (∀ q ∈ cs, PySem.W.CodeHd h q.1 q.2) ∧
    (∀ (s : Shared) (u : Value), BindsTo s fd ⟨[u], []⟩ [(x, u)]) ∧
    (∀ (H : Hp) (a : Addr) (ns : List Int), ns.length ≤ n → (∀ q ∈ cs, H q.2 = some (.tbl #[])) → SqL K H a (ns.map V.int) → sp [.ref a] H (fun v _ => v = .bl true) fun _ _ _ => False) ∧
    ∀ base : Heap, K.In base → base.Ns mainGlobals mg → (∀ q ∈ cs, TabB base mg q.1 q.2) → FnG l.prog w K mg base k fa fd [x] sp
theorem walkG {l : PySem.W.OpenLaw} {n k : Nat} {q : Program} {loose : List Str} {XP : (Str → Option Value) → Heap → Prop} {YP : World → Heap → Prop} {d : DefRec} {x : Str}
    (hn : l.most = some n) (hn2 : n ≤ sizeLine) (hdf : d.params.defaults = []) (hr : Room k callerA)
    (F : ∀ (w : World) (mg : Str → Option Value) (fa : Addr) (h : Heap), YP w h → h.Ns mainGlobals mg → mg d.name = some (.ref fa) → ∃ K : PySem.W.Frag, K.In h ∧ LawG l w K k n x mg fa h) :
    PySem.W.WalkO q loose XP YP l.row.toRowW d [] (fun f vs => PySem.call f vs) := by
  apply Att.attach_callB hn hdf
  intro w s₀ s₁ mg mb fa o pm cd doc a vs ns G Y ho hd hcd hmg hobj hints hlen _ hg
  obtain ⟨K, KX, fd, cs, sp, hT, nT, C, hb, hsp, hF⟩ := F w mg fa _ Y G.T.g hmg
  exact lawG_call KX G.T.g G.T.b G.T.builtins G.T.nolimit hg hT nT C G.T.bmain hobj hints (Nat.le_trans hlen hn2) hr hF hb (fun H hH hS => hsp H a ns hlen hH hS)
def seenAt (g : Addr → Option Obj) (n : Nat) : PySem.W.Frag := He.frT g (sysModules :: He.asD g n)
structure Told (fn : List He.DefD) (tf : List He.Defn) (ex : PySem.W.Frag → Bool) (h : Heap) (K : PySem.W.Frag) : Prop where
  d : He.SaysD [] fn K
  more : ex K = true
  hd : ∀ q ∈ tf, PySem.W.codeHdIn K (He.cT K q).1 (He.cT K q).2 = true
  out : ∀ q ∈ tf, K.lookup (He.cT K q).2 = none
  empty : ∀ q ∈ tf, h.get? (He.cT K q).2 = some { cls := .none, data := .fields #[] }
abbrev AlZ : Type := He.AlD × Bool
def obsZ (n : Nat) (fn : List He.DefD) (tf : List He.Defn) (ex : PySem.W.Frag → Bool) (g : Addr → Option Obj) : AlZ := (He.obsD [] fn (seenAt g n), ex (seenAt g n) && He.tabsB g tf (seenAt g n))
def valZ (fn : List He.DefD) : AlZ := (He.valD fn, true)
theorem told_of {n : Nat} {fn : List He.DefD} {tf : List He.Defn} {ex : PySem.W.Frag → Bool} {h : Heap} (e : obsZ n fn tf ex h.get? = valZ fn) : Told fn tf ex h (seenAt h.get? n) := by
  have e1 : He.obsD [] fn (seenAt h.get? n) = He.valD fn := congrArg (fun z : AlZ => z.1) e
  have e2 : (ex (seenAt h.get? n) && He.tabsB h.get? tf (seenAt h.get? n)) = true := congrArg (fun z : AlZ => z.2) e
  obtain ⟨h1, h2⟩ := Bool.and_eq_true_iff.mp e2
  have one : ∀ q ∈ tf, PySem.W.codeHdIn (seenAt h.get? n) (He.cT (seenAt h.get? n) q).1 (He.cT (seenAt h.get? n) q).2 = true ∧ ∃ o, h.get? (He.cT (seenAt h.get? n) q).2 = some o ∧ He.emptyTab o = true := by
    intro q hq
    obtain ⟨h3, h4⟩ := Bool.and_eq_true_iff.mp (List.all_eq_true.mp h2 q hq)
    refine ⟨h3, ?_⟩
    cases z : h.get? (He.cT (seenAt h.get? n) q).2 with
    | none => rw [z] at h4; cases h4
    | some o => rw [z] at h4; exact ⟨o, rfl, h4⟩
  constructor
  · exact e1
  · exact h1
  · exact fun q hq => (one q hq).1
  · intro q hq
    obtain ⟨_, o, z, y⟩ := one q hq
    exact He.frT_none z y
  · intro q hq
    obtain ⟨_, o, z, y⟩ := one q hq
    rw [z, He.emptyTab_eq y]
def hookZ (n : Nat) (fn : List He.DefD) (tf : List He.Defn) (ex : PySem.W.Frag → Bool) : PySem.W.Hook where
  α := AlZ
  obs := fun s => obsZ n fn tf ex s.heap.get?
  val := fun _ => valZ fn
  says := fun _ h => ∃ K : PySem.W.Frag, K.In h ∧ Told fn tf ex h K
  of := fun _ _ e => ⟨_, He.frT_in, told_of e⟩
  keeps := fun _ _ _ ⟨K, hK, c⟩ kp => ⟨K, PySem.W.Frag.In.keeps hK kp, ⟨c.d, c.more, c.hd, c.out, fun q hq => kp _ _ (c.empty q hq)⟩⟩
theorem obsZ_eq {n : Nat} {fn : List He.DefD} {tf : List He.Defn} {ex : PySem.W.Frag → Bool} {g : Addr → Option Obj} {s : Shared} (h : ∀ a, g a = s.heap.get? a) : obsZ n fn tf ex g = (hookZ n fn tf ex).obs s := by
  have e : g = s.heap.get? := funext h
  subst e
  rfl
end OZ
set_option maxRecDepth 100000
set_option maxHeartbeats 1000000
namespace OZ
open PySem PySem.Spec PyProof.Rows L2
def FncK (P : Program) (w : World) (K : PySem.W.Frag) (mg : Str → Option Value) (base : Heap) (k : Nat) (x : Str) (ps ks : List Str) (gV : List V → List V → List V) (sp : Sp) : Prop :=
  ∃ (f : Addr) (fd : FuncData) (g : List Value → List Value → List Value), mg x = some (.ref f) ∧ PySem.W.keepIn K (.ref f) = true ∧ KBn K fd ps 0 ks g gV ∧ FnOk P w K mg base (L2.CX P w) k f fd ps sp
def tCallKw (m : Nat) (sp : Sp) (gV : List V → List V → List V) (E : L2.St → XK) (tk : TA) : TE := fun σ H Q => tk σ H fun zs H2 => zs.length = m ∧ sp (gV [] zs) H2 Q (E σ)
theorem y_callKw {m : Nat} {sp : Sp} {gV : List V → List V → List V} {E : L2.St → XK} {tk : TA} {σ : L2.St} {H : Hp} {Q : VK} (h : tk σ H fun zs H2 => zs.length = m ∧ sp (gV [] zs) H2 Q (E σ)) : tCallKw m sp gV E tk σ H Q := h
section
variable {X : Cx} {k : Nat} {x : Str} {ps ks : List Str} {gV : List V → List V → List V} {sp : Sp} {kws : List Keyword} {tk : TA} {p pos : Pos}
theorem ock0E {E : L2.St → XK} (F : FncK X.prog X.w X.K X.mg X.base k x ps ks gV sp) (hr : Room k X.A) (hx : ∀ σ, PassesAt (L2.CX X.prog X.w) X σ (E σ)) (hkw : PK X kws tk) (hg : Gl X x)
    (hall : (backToKw pos (keywordEach kws X.env)).all (·.1.isSome) = true) (hks : (backToKw pos (keywordEach kws X.env)).filterMap (·.1) = ks)
    (hdb : (x == ("__debug__" : Str)) = false) (hpl : ((backTo pos (starEach [] X.env)).any (·.1) || (backToKw pos (keywordEach kws X.env)).any (·.1.isNone)) = false) :
    PE X (.Call (.Name x p) [] kws pos) (tCallKw ks.length sp gV E tk) := by
  obtain ⟨f, fd, g, hm, hk, hb, G⟩ := F
  constructor
  intro pins s σ H Q I h
  apply wpAny_Call_Name_kw (ld_glob I hg hm ?_ hdb)
  apply PySem.W.callWith_KW0 (h₀ := X.base) I.ok.mod.kin hk hall ?_ hpl
  apply thn (hkw.run pos pins s σ H _ I h)
  rintro ws s2 ⟨zs, H2, I2, rz, l2, q2⟩
  refine ⟨I2.kIn, ?_⟩
  rw [hks]
  have r2 := hb.rel (vs := []) (us := []) .nil rz
  show wpAny (model X.prog X.w) X.A (call (.ref f) [] (ks.zip ws)) _ _ _
  apply wpAny_call
  apply codeAny_mono (G.run X.A X.stack s2 H2 ⟨[], ks.zip ws⟩ _ _ Q (E σ) hr I2.env0 (hb.to s2 [] ws I2.kIn rfl (rz.length.symm.trans l2)) r2 q2)
  intro r s' z
  cases r with
  | error e => exact hx σ pins H2 s2 e s' I2 z
  | ok fl =>
    cases fl with
    | ret u => exact I2.after z
    | next => exact z.elim
    | brk => exact z.elim
    | cont => exact z.elim
theorem ock0 (F : FncK X.prog X.w X.K X.mg X.base k x ps ks gV sp) (hr : Room k X.A) (hkw : PK X kws tk) (hg : Gl X x := by rfl)
    (hall : (backToKw pos (keywordEach kws X.env)).all (·.1.isSome) = true := by rfl) (hks : (backToKw pos (keywordEach kws X.env)).filterMap (·.1) = ks := by rfl)
    (hdb : (x == ("__debug__" : Str)) = false := by decide) (hpl : ((backTo pos (starEach [] X.env)).any (·.1) || (backToKw pos (keywordEach kws X.env)).any (·.1.isNone)) = false := by rfl) :
    PE X (.Call (.Name x p) [] kws pos) (tCallKw ks.length sp gV (fun _ => E0) tk) :=
  ock0E F hr (fun σ pins H s e s' I c => passL pins σ H s e s' I c) hkw hg hall hks hdb hpl
theorem ock0X {W : WX} (F : FncK X.prog X.w X.K X.mg X.base k x ps ks gV sp) (hr : Room k X.A) (tks : Takes X W) (hkw : PK X kws tk) (hg : Gl X x := by rfl)
    (hall : (backToKw pos (keywordEach kws X.env)).all (·.1.isSome) = true := by rfl) (hks : (backToKw pos (keywordEach kws X.env)).filterMap (·.1) = ks := by rfl)
    (hdb : (x == ("__debug__" : Str)) = false := by decide) (hpl : ((backTo pos (starEach [] X.env)).any (·.1) || (backToKw pos (keywordEach kws X.env)).any (·.1.isNone)) = false := by rfl) :
    PE X (.Call (.Name x p) [] kws pos) (tCallKw ks.length sp gV (WE W) tk) :=
  ock0E F hr (fun σ => passAt tks σ) hkw hg hall hks hdb hpl
end
theorem ob_ty {X : Cx} {x : Str} {T : String} {pos : Pos} (hm : X.mg x = none) (hv : bootBuiltins x = some (.type T)) (hg : Gl X x := by rfl) (hn : x ≠ "__name__" := by decide) (hd : (x == ("__debug__" : Str)) = false := by decide) :
    PE X (.Name x pos) (tC (.ty T)) := pe_bltn hg hm hv rfl hn hd
def XMk (P : Program) (w : World) (K : PySem.W.Frag) (mg : Str → Option Value) (base : Heap) (x : Str) (C : Addr) (ps : List Str) (sp : Sp) : Prop :=
  mg x = some (.ref C) ∧ XC K C ∧ ∃ (fI : Addr) (fd : FuncData), PySem.W.findIn K (.ref C) "__init__" = some (some (.ref fI)) ∧ PySem.W.typeIn K (.ref fI) = some (.type "function") ∧ Binds K fd ps [] ∧ FnOk P w K mg base (L2.CX P w) 1 fI fd ps sp
theorem raiseX {X : Cx} {W : WX} {x : Str} {C : Addr} {ps : List Str} {sp : Sp} {e : Expr} {es : List Expr} {ta : TA} {p pos pos2 : Pos} (M : XMk X.prog X.w X.K X.mg X.base x C ps sp) (hr : Room 2 X.A) (hc : X.calm = true) (tk : Takes X W) (ha : PA X (e :: es) ta)
    (hg : Gl X x := by rfl) (hdb : (x == ("__debug__" : Str)) = false := by decide) (he : starEach (e :: es) X.env = (false, eval e X.env) :: starEach es X.env := by rfl) (hpl : (backTo pos (starEach es X.env)).any (·.1) = false := by rfl) :
    PS X (.Raise (some (.Call (.Name x p) (e :: es) [] pos)) none pos2) (fun _ σ H => tMkO C sp [] ta σ H fun cls d H' => W cls d σ H') := by
  obtain ⟨hm, xc, fI, fd, iC, tI, hb, G⟩ := M
  exact ps_raise hc tk (pmk_oex xc.oex iC tI G hr hb .nil passL hg hm ha hdb he hpl)
def spX1 (f : Str) (C : Addr) : Sp := fun vs H Q _ => ∃ (a : Addr) (v : V), vs = [.ref a, v] ∧ H a = some (exo a C none) ∧ ∀ dx, H dx = none → dx ≠ a → Q .non (upd (upd H dx (exd dx [(f, v)])) a (exo a C (some dx)))
def spX2 (f g : Str) (C : Addr) : Sp := fun vs H Q _ => ∃ (a : Addr) (v u : V), vs = [.ref a, v, u] ∧ H a = some (exo a C none) ∧
  ∀ dx, H dx = none → dx ≠ a → Q .non (upd (upd (upd H dx (exd dx [(f, v)])) a (exo a C (some dx))) dx (exd dx [(g, u), (f, v)]))
section
variable {P : Program} {w : World} {K : PySem.W.Frag} {mg : Str → Option Value} {base : Heap}
def iBody1 (f : Str) (q1 q2 q3 q4 : Pos) : List Stmt := [.Assign [.Attribute (.Name "self" q1) f q2] (.Name f q3) q4]
def iBody2 (f g : Str) (q1 q2 q3 q4 r1 r2 r3 r4 : Pos) : List Stmt := [.Assign [.Attribute (.Name "self" q1) f q2] (.Name f q3) q4, .Assign [.Attribute (.Name "self" r1) g r2] (.Name g r3) r4]
end
theorem del_upds {H : Hp} {a d : Addr} {o u v w : HO} (ha : H a = none) : upd (del (upd (upd (upd H a o) d u) a v) a) d w = upd H d w := by
  funext b
  by_cases hb : b = d
  · rw [hb, upd_same, upd_same]
  · rw [upd_ne hb, upd_ne hb]
    by_cases hba : b = a
    · rw [hba, del_same, ha]
    · rw [del_ne hba, upd_ne hba, upd_ne hb, upd_ne hba]
theorem y_mk1 {f : Str} {C : Addr} {H : Hp} {v : V} {Q : XK} (h : ∀ d, H d = none → Q (.ref C) (some d) (upd H d (.xd [(f, v)]))) :
    [v].length ≤ 1000 ∧ ∀ a, H a = none → spX1 f C (.ref a :: ([v] ++ [])) (upd H a (exo a C none)) (fun v H2 => v = .non ∧ ∃ (d : Addr) (fs : List (Str × V)), H2 a = some (exo a C (some d)) ∧ H2 d = some (exd d fs) ∧ H d = none ∧ Q (.ref C) (some d) (upd (del H2 a) d (.xd fs))) (fun _ _ _ => False) := by
  refine ⟨by show 1 ≤ 1000; decide, fun a ha => ⟨a, v, rfl, upd_same, fun d hd nda => ⟨rfl, d, [(f, v)], upd_same, ?_, free_upd hd, ?_⟩⟩⟩
  · rw [upd_ne nda, upd_same]
  · rw [del_upds ha]
    exact h d (free_upd hd)
theorem y_mkO {C : Addr} {sp : Sp} {dvs : List V} {ta : TA} {σ : L2.St} {H : Hp} {Q : XK} (h : ta σ H fun vs H1 => vs.length ≤ 1000 ∧ ∀ a, H1 a = none → sp (.ref a :: (vs ++ dvs)) (upd H1 a (exo a C none))
  (fun v H2 => v = .non ∧ ∃ (d : Addr) (fs : List (Str × V)), H2 a = some (exo a C (some d)) ∧ H2 d = some (exd d fs) ∧ H1 d = none ∧ Q (.ref C) (some d) (upd (del H2 a) d (.xd fs))) (fun _ _ _ => False)) : tMkO C sp dvs ta σ H Q := h
theorem take_more {α : Type} {l : List α} {i : Nat} {x : α} (h : l[i]? = some x) : l.take (i + 1) = l.take i ++ [x] := by
  rw [List.take_add_one, h]
  rfl
theorem ix_ltN {xs : List Nat} {i : Int} {v : Nat} {j : Nat} (h : xs[j]? = some v) (e : i = (j : Int)) : atI xs i = some v := by rw [e]; exact atI_nat h
theorem kb_of {K : PySem.W.Frag} {x qual : Str} {params : Arguments} {body : List Stmt} {scope : Scope} {f : Addr} {fd : FuncData} {ps ks : List Str} (F : FunD K x qual params body scope [] [] f fd)
    (h : ∀ (kV doc pm : Value) (an : Option Addr) (cdv ct : Value) (ws : List Value), ws.length = ks.length → bindArgs (PySem.W.fnOf x qual params body scope .none kV doc pm an cdv ct) ⟨[], ks.zip ws⟩ = pure (ps.zip ws)) : KBn K fd ps 0 ks (fun _ ws => ws) (fun _ zs => zs) := by
  obtain ⟨oc, od, dV, kV, doc, pm, an, cdv, ct, osl, rfl, lk, hcd, hD, hK⟩ := F.ex
  rcases hD with ⟨_, rfl⟩ | ⟨z, _⟩
  · constructor
    · intro s us ws _ hu hw
      cases us with
      | nil => exact .of_eq (h kV doc pm an cdv ct ws hw)
      | cons a r => cases hu
    · intro vs us zs ws r1 r2
      exact r2
  · exact absurd rfl z
end OZ
set_option maxRecDepth 100000
set_option maxHeartbeats 4000000
namespace PySem
namespace OZX
open PySem.W PySem.Calls PyProof.Rows PySem.HandSPX
section
variable {M : Model} {A : Around} {E : Value → Shared → Prop} {h : Heap} {g : Array GenState} {d : Drawn} {t : Nat} {os : OsState}
variable {nm q : Str} {C N : Addr} {bs bm bmB : List Value} {hdct : Bool} {sn : List Str} {sub : List Value} {ab : Bool} {col : Option Bool} {dd : Option Addr} {k0 k1 k2 k3 k5 : Option Value} {B newId initId : String} {kw : List (Str × Value)}
theorem ckn (F : ExcBaseFacts B newId initId bmB) (hT : ∀ X : String, bm.contains (.type X) = bmB.contains (.type X)) {rest : List Value} {Q : Unit → Shared → Prop} (hC : h.get? C = some (excClassObj nm q C N bs bm hdct sn sub ab col dd k0 k1 k2 k3 k5 newId))
    (hq : Q () ⟨h, g, d, t, os⟩) : wpAny M A (checkBuiltinCall newId ⟨.ref C :: rest, kw⟩) Q E ⟨h, g, d, t, os⟩ := by
  have c1 : (Value.ref C :: bm).contains (.type B) = true := by rw [List.contains_cons, hT, F.hasB, Bool.or_true]
  have c2 := F.noStar
  simp only [checkBuiltinCall, F.newKind, F.newSplit, F.newRow]
  repeat (first
    | refine wpAny_loadPart_at hC ?_
    | (refine wpAny_isSubtype_exc hC ?_; rw [c1])
    | refine wpAny_staticBase_exc hC ?_
    | refine wpAny_madeBy_exc hC ?_
    | simp only [bne_self_eq_false, Bool.false_eq_true, if_false]
    | wp_step)
  exact hq
theorem ctc {rest : List Value} {Q : Unit → Shared → Prop} (hC : h.get? C = some (excClassObj nm q C N bs bm hdct sn sub ab col dd k0 k1 k2 k3 k5 newId)) (hq : Q () ⟨h, g, d, t, os⟩) :
    wpAny M A (checkBuiltinCall "type.__call__" ⟨.ref C :: rest, kw⟩) Q E ⟨h, g, d, t, os⟩ := by
  have f3 := tc_sub
  have h1 : (⟨h, g, d, t, os⟩ : Shared).TypeIs (.ref C) "type" := ⟨_, hC, rfl⟩
  simp only [checkBuiltinCall, tc_kind, tc_split]
  repeat (any_goals (first
    | assumption
    | with_reducible refine wpAny_loadPart_at hC ?_
    | with_reducible refine wpAny_onRaise ?_
    | with_reducible refine wpAny_map ?_
    | wp_step))
end
section
variable {prog : Program} {w : World} {A : Around} {E : Value → Shared → Prop} {R : Result → Shared → Prop} {h : Heap} {g : Array GenState} {d : Drawn} {t : Nat} {os : OsState}
variable {nm q : Str} {C N : Addr} {bs bm bmB : List Value} {hdct : Bool} {sn : List Str} {sub : List Value} {ab : Bool} {col : Option Bool} {dd : Option Addr} {k0 k1 k2 k3 k5 : Option Value} {B newId initId : String} {kw : List (Str × Value)}
theorem newk (F : ExcBaseFacts B newId initId bmB) (hT : ∀ X : String, bm.contains (.type X) = bmB.contains (.type X)) {rest : List Value} (hC : h.get? C = some (excClassObj nm q C N bs bm hdct sn sub ab col dd k0 k1 k2 k3 k5 newId))
    (hq : R (.ok (.ret (.ref (h.objs.size + 1)))) ⟨(h.push (W.kdv_tup rest)).push (excO C h.objs.size), g, d, t, os⟩) (hrest : rest.length ≤ sizeLine) : codeAny (model prog w) A (.builtin newId ⟨.ref C :: rest, kw⟩) R ⟨h, g, d, t, os⟩ := by
  have c0 := F.ends
  have c1 : (Value.ref C :: bm).contains (.type B) = true := by rw [List.contains_cons, hT, F.hasB, Bool.or_true]
  have c2 : (Value.ref C :: bm).contains (.type "AttributeError") = false := by rw [List.contains_cons, hT, F.noAttr]; rfl
  have c3 : (Value.ref C :: bm).contains (.type "NameError") = false := by rw [List.contains_cons, hT, F.noName]; rfl
  apply codeAny_builtinAt F.entry
  unfold Builtin.«BaseException.__new__»
  apply wpAt_bind
  show wpAt _ _ _ (stack >>= _) _ _ _
  apply wpAt_bind
  refine wpAt_stack fun p below => wpAt_of_wpAny ?_
  wp_walk
  apply wpAt_of_wpAny
  rw [F.owner]
  repeat (first
    | with_reducible refine wpAny_madeHere_exc F.canon hC ?_
    | with_reducible refine wpAny_loadPart_at hC ?_
    | (with_reducible refine wpAny_isSubtype_exc hC ?_; first | rw [c1] | rw [c2] | rw [c3])
    | wp_step)
  show R _ _
  rw [Heap.size_push]
  exact hq
theorem typk (F : ExcBaseFacts B newId initId bmB) (hT : ∀ X : String, bm.contains (.type X) = bmB.contains (.type X)) {rest : List Value} {fI : Addr} {Q : Fin → Shared → Prop} (hC : h.get? C = some (excClassObj nm q C N bs bm hdct sn sub ab col dd k0 k1 k2 k3 k5 newId))
    (hi : W.Looks (model prog w) h (typeLookup (.ref C) "__init__") (some (.ref fI))) (hb : ∀ self, W.Looks (model prog w) h (bindSpecial (.ref fI) self) (.ref fI, [self])) (hrest : rest.length ≤ sizeLine)
    (hq : codeAny (model prog w) A (.call (.ref fI) ⟨.ref (h.objs.size + 1) :: rest, kw⟩) (fun r s' => match r with | .ok (.ret v) => v = .none ∧ Q (.done (.ret (.ref (h.objs.size + 1)))) s' | .ok _ => False | .error e => E e s') ⟨(h.push (W.kdv_tup rest)).push (excO C h.objs.size), g, d, t, os⟩) :
    wpAny (model prog w) A (Builtin.«type.__call__» ⟨.ref C :: rest, kw⟩) Q E ⟨h, g, d, t, os⟩ := by
  repeat (first
    | with_reducible refine wpAny_loadPart_at hC ?_
    | with_reducible refine wpAny_madeBy_exc hC ?_
    | wp_step)
  apply codeAny_call_builtin_code (Code.quiet_builtin _ F.quiet) (ckn F hT hC ?_)
  refine newk F hT hC ?_ hrest
  show wpAny _ _ _ _ _ _
  have k : ∀ b o, h.get? b = some o → ((h.push (W.kdv_tup rest)).push (excO C h.objs.size)).get? b = some o := fun b o e => Heap.get?_push_of_some _ (Heap.get?_push_of_some _ e)
  have hC1 := k _ _ hC
  have hg : ((h.push (W.kdv_tup rest)).push (excO C h.objs.size)).get? (h.objs.size + 1) = some (excO C h.objs.size) := by heap_get
  have c1 : (Value.ref C :: bm).contains (.ref C) = true := by simp
  have i1 := hi.keeps k
  have b1 := (hb (.ref (h.objs.size + 1))).keeps k
  unfold isInstance
  repeat (first
    | with_reducible refine wpAny_loadPart_at hg ?_
    | (with_reducible refine wpAny_isSubtype_exc hC1 ?_; rw [c1])
    | wp_step)
  show wpAny _ _ (typeLookup (.ref C) _) _ _ _
  apply i1.at
  apply wpAny_holding
  apply wpAny_bind
  apply b1.at
  apply wpAny_bind
  apply wpAny_call
  refine codeAny_mono hq fun r s' z => ?_
  rcases r with e | (v | _ | _ | _) <;> first | exact z | exact z.elim | skip
  obtain ⟨rfl, z⟩ := z
  first
    | exact wpAny_pure (wpAny_pure z)
    | (wp_walk; exact z)
theorem callk (F : ExcBaseFacts B newId initId bmB) (hT : ∀ X : String, bm.contains (.type X) = bmB.contains (.type X)) {rest : List Value} {fI : Addr} (hC : h.get? C = some (excClassObj nm q C N bs bm hdct sn sub ab col dd k0 k1 k2 k3 k5 newId))
    (hi : W.Looks (model prog w) h (typeLookup (.ref C) "__init__") (some (.ref fI))) (hb : ∀ self, W.Looks (model prog w) h (bindSpecial (.ref fI) self) (.ref fI, [self])) (hrest : rest.length ≤ sizeLine)
    (hq : codeAny (model prog w) (A.under (.builtin "type.__call__" ⟨.ref C :: rest, kw⟩)) (.call (.ref fI) ⟨.ref (h.objs.size + 1) :: rest, kw⟩) (W.InitBack (h.objs.size + 1) R) ⟨(h.push (W.kdv_tup rest)).push (excO C h.objs.size), g, d, t, os⟩) :
    codeAny (model prog w) A (.call (.ref C) ⟨rest, kw⟩) R ⟨h, g, d, t, os⟩ := by
  have f1 := tc_lookup
  have f2 := tc_bind (.ref C)
  have h1 : (⟨h, g, d, t, os⟩ : Shared).TypeIs (.ref C) "type" := ⟨_, hC, rfl⟩
  apply codeAny_of_tree
  show wpAny _ _ (callAny (.ref C) _) _ _ _
  repeat (any_goals (first
    | assumption
    | with_reducible refine wpAny_loadPart_at hC ?_
    | wp_step))
  refine ⟨rfl, ?_⟩
  apply codeAny_call_builtin_at (Code.quiet_builtin _ (by decide +kernel)) entry_typeCall
  apply ctc hC
  apply typk F hT hC hi hb hrest
  refine codeAny_mono hq fun r s' z => ?_
  rcases r with e | (v | _ | _ | _) <;> exact z
end
end OZX
end PySem
set_option maxRecDepth 100000
set_option maxHeartbeats 4000000
namespace OZ
open PySem PySem.Spec PyProof.Rows L2
def NewX (C : Addr) (fs : List (Str × V)) (H : Hp) (Q : VK) : Prop := ∀ (a : Addr) (H' : Hp), H a = none → Same H H' → ExAt H' a C fs → Q (.ref a) H'
def tXv (C : Addr) (g : List V → List (Str × V)) (n : Nat) (ta : TA) : TE := fun σ H Q => ta σ H fun vs H1 => vs.length = n ∧ NewX C (g vs) H1 Q
def tXv0 (C : Addr) : TE := fun _ H Q => NewX C [] H Q
structure Xv (P : Program) (w : World) (K : PySem.W.Frag) (mg : Str → Option Value) (base : Heap) (x : Str) (C : Addr) (n : Nat) (ks : List Str) (g : List V → List (Str × V)) : Prop where
  nm : mg x = some (.ref C)
  xc : XC K C
  mkd : ∃ (fI : Addr) (fd : FuncData) (ps : List Str) (sp : Sp) (pm : List Value → List Value) (pV : List V → List V), PySem.W.findIn K (.ref C) "__init__" = some (some (.ref fI)) ∧ PySem.W.typeIn K (.ref fI) = some (.type "function") ∧ FnOk P w K mg base (L2.CX P w) 1 fI fd ps sp ∧
    (∀ (s : Shared) (a : Value) (us ws : List Value), K.In s.heap → (us.length = n ∧ ks = [] ∧ ws = []) ∨ (us = [] ∧ ks ≠ [] ∧ ws.length = n ∧ ks.length = n) → BindsTo s fd ⟨a :: us, ks.zip ws⟩ (ps.zip (a :: pm (us ++ ws)))) ∧
    (∀ vs us, Vals vs us → Vals (pV vs) (pm us)) ∧
    (∀ (vs : List V) (H : Hp) (a : Addr) (Q : VK), vs.length = n → H a = none → (∀ H', Same H H' → ExAt H' a C (g vs) → Q .non H') → sp (.ref a :: pV vs) (upd H a (exo a C none)) Q fun _ _ _ => False)
section
variable {X : Cx} {x : Str} {C : Addr} {n : Nat} {ks : List Str} {g : List V → List (Str × V)} {e : Expr} {es : List Expr} {ta tk : TA} {kws : List Keyword} {p pos : Pos}
theorem run_xv {pins : List (Addr × Obj)} {σ : L2.St} {H : Hp} {s : Shared} {Q : VK} {us ws : List Value} {vs : List V} (M : Xv X.prog X.w X.K X.mg X.base x C n ks g) (hr : Room 2 X.A) (I : Inv X pins σ H s) (r : Vals vs (us ++ ws))
    (hl : (us.length = n ∧ ks = [] ∧ ws = []) ∨ (us = [] ∧ ks ≠ [] ∧ ws.length = n ∧ ks.length = n)) (hz : us.length ≤ 1000) (h : NewX C (g vs) H Q) : wpAny (model X.prog X.w) X.A (call (.ref C) us (ks.zip ws)) (EP X pins σ Q) X.xe s := by
  obtain ⟨nmx, xc, fI, fd, ps, sp, pm, pV, iC, tI, G, hb, hp, hs⟩ := M
  obtain ⟨nm, q, N, bs, bm, sn, sub, ab, col, dd, k0, k1, k2, k3, k5, hC, hbm⟩ := xc.oex.cls
  obtain ⟨hp0, g0, dr, tk0, os⟩ := s
  have lv : vs.length = n := by
    have e := r.length
    rw [List.length_append] at e
    rcases hl with ⟨e1, _, e3⟩ | ⟨e1, _, e3, _⟩
    · rw [e3] at e; simp only [List.length_nil] at e; omega
    · rw [e1] at e; simp only [List.length_nil] at e; omega
  have hsz : hp0.objs.size ≤ hp0.objs.size + 1 := Nat.le_succ _
  have hn : H (hp0.objs.size + 1) = none := I.hok.fresh hsz
  have hq := hs vs H (hp0.objs.size + 1) (fun v H2 => v = .non ∧ Q (.ref (hp0.objs.size + 1)) H2) lv hn (fun H' s1 e1 => ⟨rfl, h _ H' hn s1 e1⟩)
  have kk : ∀ b o, hp0.get? b = some o → ((hp0.push (PySem.W.kdv_tup us)).push (PySem.HandSPX.excO C hp0.objs.size)).get? b = some o := fun b o e => Heap.get?_push_of_some _ (Heap.get?_push_of_some _ e)
  have hget : ((hp0.push (PySem.W.kdv_tup us)).push (PySem.HandSPX.excO C hp0.objs.size)).get? (hp0.objs.size + 1) = some (PySem.HandSPX.excO C hp0.objs.size) := by heap_get
  have I2 : Inv X pins σ (upd H (hp0.objs.size + 1) (exo (hp0.objs.size + 1) C none)) ⟨(hp0.push (PySem.W.kdv_tup us)).push (PySem.HandSPX.excO C hp0.objs.size), g0, dr, tk0, os⟩ :=
    I.laid (t' := tk0) (a := hp0.objs.size + 1) (o := exo (hp0.objs.size + 1) C none) (h' := (hp0.push (PySem.W.kdv_tup us)).push (PySem.HandSPX.excO C hp0.objs.size)) kk hsz (exo_ok hget)
  have r2 : Vals (V.ref (hp0.objs.size + 1) :: pV vs) (Value.ref (hp0.objs.size + 1) :: pm (us ++ ws)) := .cons rfl (hp _ _ r)
  have hus : us.length ≤ sizeLine := by
    rw [sizeLine_eq]
    omega
  apply wpAny_call
  refine PySem.OZX.callk F.excBase_ValueError (fun Y => PySem.HandSPX.refsVE_contains Y bm hbm) (I.kIn _ _ hC) (PySem.W.looks_findIn I.kIn iC) (fun self => PySem.W.bind_fn I.kIn self tI) hus ?_
  apply codeAny_mono (G.run _ X.stack _ _ ⟨Value.ref (hp0.objs.size + 1) :: us, ks.zip ws⟩ (Value.ref (hp0.objs.size + 1) :: pm (us ++ ws)) _ _ (fun _ _ _ => False) (hr.make C us (ks.zip ws)) (I2.env0.make C us (ks.zip ws)) (hb _ _ us ws I2.kIn hl) r2 hq)
  intro r s' hq'
  cases r with
  | error er => exact passL pins σ _ _ er s' I2 hq'
  | ok fl =>
    cases fl with
    | ret u =>
      obtain ⟨v, H', I3, rv, ev, q3⟩ := I2.after hq'
      subst ev
      exact ⟨rv, ⟨V.ref (hp0.objs.size + 1), H', I3, rfl, q3⟩⟩
    | next => exact hq'.elim
    | brk => exact hq'.elim
    | cont => exact hq'.elim
theorem xv (M : Xv X.prog X.w X.K X.mg X.base x C n [] g) (hr : Room 2 X.A) (ha : PA X (e :: es) ta) (hz : n ≤ 1000 := by decide) (hg : Gl X x := by rfl) (hdb : (x == ("__debug__" : Str)) = false := by decide)
    (he : starEach (e :: es) X.env = (false, eval e X.env) :: starEach es X.env := by rfl) (hpl : (backTo pos (starEach es X.env)).any (·.1) = false := by rfl) : PE X (.Call (.Name x p) (e :: es) [] pos) (tXv C g n ta) := by
  constructor
  intro pins s σ H Q I h
  apply wpAny_Call_Name_kw (ld_glob I hg M.nm ?_ hdb)
  refine PySem.W.callWith_K (h₀ := X.base) I.ok.mod.kin M.xc.oex.kC (thn (ha.run pos pins s σ H _ I h) ?_) he hpl
  rintro us s1 ⟨vs, H1, I1, r1, hl, q1⟩
  have el : us.length = n := r1.length.symm.trans hl
  exact ⟨I1.kIn, run_xv (ws := []) M hr I1 (by rw [List.append_nil]; exact r1) (.inl ⟨el, rfl, rfl⟩) (Nat.le_trans (Nat.le_of_eq el) hz) q1⟩
theorem xvK (M : Xv X.prog X.w X.K X.mg X.base x C n ks g) (hr : Room 2 X.A) (hkw : PK X kws tk) (hks : (backToKw pos (keywordEach kws X.env)).filterMap (·.1) = ks := by rfl) (h1 : ks ≠ [] := by decide) (h2 : ks.length = n := by decide) (hg : Gl X x := by rfl)
    (hall : (backToKw pos (keywordEach kws X.env)).all (·.1.isSome) = true := by rfl) (hdb : (x == ("__debug__" : Str)) = false := by decide)
    (hpl : ((backTo pos (starEach [] X.env)).any (·.1) || (backToKw pos (keywordEach kws X.env)).any (·.1.isNone)) = false := by rfl) : PE X (.Call (.Name x p) [] kws pos) (tXv C g n tk) := by
  constructor
  intro pins s σ H Q I h
  apply wpAny_Call_Name_kw (ld_glob I hg M.nm ?_ hdb)
  apply PySem.W.callWith_KW0 (h₀ := X.base) I.ok.mod.kin M.xc.oex.kC hall ?_ hpl
  apply thn (hkw.run pos pins s σ H _ I h)
  rintro ws s2 ⟨zs, H2, I2, rz, l2, q2⟩
  refine ⟨I2.kIn, ?_⟩
  rw [hks]
  exact run_xv (us := []) M hr I2 rz (.inr ⟨rfl, h1, rz.length.symm.trans l2, h2⟩) (by decide) q2
theorem xv0 (q : PySem.W.excIn X.K C [.type "ValueError", .type "Exception", .type "BaseException", .type "object"] "ValueError.__new__" = true) (gC : X.mg x = some (.ref C)) (kC : PySem.W.keepIn X.K (.ref C) = true) (hg : Gl X x := by rfl) (hdb : (x == ("__debug__" : Str)) = false := by decide) :
    PE X (.Call (.Name x p) [] [] pos) (tXv0 C) := by
  constructor
  intro pins s σ H Q I h
  apply wpAny_Call_Name_kw (ld_glob I hg gC ?_ hdb)
  apply PySem.W.callWith_K0 I.kIn kC
  obtain ⟨bm, N, nm, qn, bs, hdct, sn, sub, ab, col, dd, k0, k1, k2, k3, k5, mN, hC, hN, hni, T⟩ := exc_obj I.kIn q
  show wpAny _ _ (call (.ref C) []) _ _ _
  refine wpAny_call_exc_subT F.excBase_ValueError T hC hN hni (fun h' a hm => ?_) (by decide)
  have hn : H a = none := I.hok.gone hm.new
  obtain ⟨t, ht, _, _⟩ := hm.there
  exact ⟨.ref a, upd H a (exk a (.ref C) none), I.laidN hm.keeps hm.new hn (exk_ok ht ⟨rfl, rfl⟩ rfl), rfl, h a _ hn (fun b o e => upd_old hn e) (.inr (.inl ⟨rfl, upd_same⟩))⟩
end
section
variable {σ : L2.St} {H : Hp} {Q : VK} {K : PySem.W.Frag}
theorem y_xv {C : Addr} {g : List V → List (Str × V)} {n : Nat} {ta : TA} (h : ta σ H fun vs H1 => vs.length = n ∧ NewX C (g vs) H1 Q) : tXv C g n ta σ H Q := h
theorem y_xv0 {C : Addr} (h : NewX C [] H Q) : tXv0 C σ H Q := h
theorem y_bm {T : String} {r : V → List V → Hp → VK → Prop} {to : TE} {t : TA} (h : to σ H fun x H1 => tyV K T x H1 ∧ t σ H1 fun xs H2 => r x xs H2 Q) : tBM K T r to t σ H Q := h
theorem y_tyL {p : Addr} {xs : List V} {A : Prop} (hp : H p = some (.lst xs)) (h : A) : tyV K "list" (.ref p) H ∧ A := ⟨.inl ⟨rfl, xs, SqL.of hp⟩, h⟩
theorem y_app {l : Addr} {xs : List V} {y : V} (hp : H l = some (.lst xs)) (hz : xs.length ≤ 1000) (h : Q .non (upd H l (.lst (xs ++ [y])))) : rAppend (.ref l) [y] H Q := ⟨l, xs, y, rfl, rfl, hp, Nat.lt_of_le_of_lt hz (by decide), h⟩
theorem y_cat {l b : Addr} {xs zs : List V} (h1 : H l = some (.lst xs)) (h2 : H b = some (.lst zs)) (hz : xs.length + zs.length ≤ 1000) (h : ∀ p, H p = none → Q (.ref p) (upd H p (.lst (xs ++ zs)))) : rCat (.ref l) (.ref b) H Q := ⟨l, b, xs, zs, rfl, rfl, h1, h2, Nat.le_trans hz (by decide), h⟩
theorem y_slL {a : Addr} {xs : List V} {lo hi : Option Int} (h1 : H a = some (.lst xs)) (h : ∀ p, H p = none → Q (.ref p) (upd H p (.lst (cutV xs lo hi)))) : rSlL K (.ref a) lo hi H Q := ⟨a, xs, rfl, SqL.of h1, h⟩
theorem y_in {x : V} {p : Addr} {xs : List V} {neg : Bool} (hp : H p = some (.tup xs)) (fx : flatV x = true) (fs : xs.all flatV = true) (h : Q (.bl (if neg then !inV x xs else inV x xs)) H) : rIn K neg x (.ref p) H Q := ⟨p, xs, rfl, .inr (SqT.of hp), fx, fs, h⟩
theorem ExAt.same {H' : Hp} {a C : Addr} {fs : List (Str × V)} (s : Same H H') (h : ExAt H a C fs) : ExAt H' a C fs := by
  rcases h with ⟨d, h1, h2⟩ | ⟨h0, h1⟩ | ⟨d, h1, h2⟩
  · exact .inl ⟨d, s _ _ h1, s _ _ h2⟩
  · exact .inr (.inl ⟨h0, s _ _ h1⟩)
  · exact .inr (.inr ⟨d, s _ _ h1, s _ _ h2⟩)
theorem ExAt.new {a C p : Addr} {o : HO} {fs : List (Str × V)} (n : H p = none) (h : ExAt H a C fs) : ExAt (upd H p o) a C fs := h.same fun b o e => upd_old n e
theorem ExAt.lst {a C l : Addr} {o : HO} {xs : List V} {fs : List (Str × V)} (hl : H l = some (.lst xs)) (h : ExAt H a C fs) : ExAt (upd H l o) a C fs := by
  have ne : ∀ {b : Addr} {φ : Heap → Prop}, H b = some (.ext φ) → b ≠ l := fun {b φ} e z => by
    rw [z, hl] at e; cases e
  have ne2 : ∀ {b : Addr} {gs : List (Str × V)}, H b = some (.xd gs) → b ≠ l := fun {b gs} e z => by
    rw [z, hl] at e; cases e
  rcases h with ⟨d, h1, h2⟩ | ⟨h0, h1⟩ | ⟨d, h1, h2⟩
  · exact .inl ⟨d, upd_oth (ne h1) h1, upd_oth (ne2 h2) h2⟩
  · exact .inr (.inl ⟨h0, upd_oth (ne h1) h1⟩)
  · exact .inr (.inr ⟨d, upd_oth (ne h1) h1, upd_oth (ne h2) h2⟩)
theorem same_new {p : Addr} {o : HO} {H0 : Hp} (s : Same H0 H) (n : H p = none) : Same H0 (upd H p o) := fun b u e => upd_old n (s b u e)
end
def rReprE : List V → Hp → VK → Prop := fun xs H Q => ∃ p, rRepr p xs H Q
theorem c_reprE {X : Cx} {k : Nat} (gd : X.A.guards = some []) (hr : Room k X.A) (sm : ∃ o, X.K.lookup sysModules = some o) : CallR X (.builtin "repr") rReprE := by
  intro pins s σ H xs us Q I r h
  obtain ⟨p, h⟩ := h
  exact c_repr (p := p) gd hr sm pins s σ H xs us Q I r h
theorem same0 {H : Hp} : Same H H := fun _ _ e => e
theorem y_chI {σ : L2.St} {H : Hp} {Q : VK} {i : Nat} {a b c : Int} (hv : σ[i]? = some (some (.int b))) (h : Q (.bl (decide (a ≤ b ∧ b < c))) H) :
    tChain (rI0 fun i j => .bl (decide (i ≤ j))) (rI0 fun i j => .bl (decide (i < j))) (tC (.int a)) (tVar i) (tC (.int c)) σ H Q := by
  refine ⟨_, hv, a, b, rfl, rfl, _, rfl, ?_⟩
  by_cases h1 : a ≤ b
  · rw [decide_eq_true h1]
    refine iteT ⟨b, c, rfl, rfl, ?_⟩
    have e : decide (b < c) = decide (a ≤ b ∧ b < c) := decide_eq_decide.mpr ⟨fun z => ⟨h1, z⟩, fun z => z.2⟩
    show Q (.bl (decide (b < c))) H
    rw [e]; exact h
  · rw [decide_eq_false h1]
    refine iteF ?_
    have e : decide (a ≤ b ∧ b < c) = false := decide_eq_false fun z => h1 z.1
    rw [e] at h; exact h
section
variable {σ : L2.St} {H H' : Hp} {Q : VK} {K : PySem.W.Frag}
def NewL (xs : List V) (H : Hp) (Q : VK) : Prop := xs.length ≤ sizeLine ∧ ∀ p, H p = none → Q (.ref p) (upd H p (.lst xs))
def NewT (xs : List V) (H : Hp) (Q : VK) : Prop := xs.length ≤ sizeLine ∧ ∀ p, H p = none → Q (.ref p) (upd H p (.tup xs))
theorem z_lst {tA : TA} (h : tA σ H fun xs H1 => NewL xs H1 Q) : tLst tA σ H Q := h
theorem z_tup {tA : TA} (h : tA σ H fun xs H1 => NewT xs H1 Q) : tTup tA σ H Q := h
theorem z_newL {xs : List V} (hl : xs.length ≤ 1000) (h : ∀ p H', H p = none → Same H H' → H' p = some (.lst xs) → Q (.ref p) H') : NewL xs H Q := ⟨Nat.le_trans hl (by decide), fun p n => h p _ n (fun b o e => upd_old n e) upd_same⟩
theorem z_newT {xs : List V} (hl : xs.length ≤ 1000) (h : ∀ p H', H p = none → Same H H' → H' p = some (.tup xs) → Q (.ref p) H') : NewT xs H Q := ⟨Nat.le_trans hl (by decide), fun p n => h p _ n (fun b o e => upd_old n e) upd_same⟩
theorem z_cat {l b : Addr} {xs zs : List V} (h1 : H l = some (.lst xs)) (h2 : H b = some (.lst zs)) (hz : xs.length + zs.length ≤ 1000) (h : ∀ p H', H p = none → Same H H' → H' p = some (.lst (xs ++ zs)) → Q (.ref p) H') : rCat (.ref l) (.ref b) H Q :=
  y_cat h1 h2 hz fun p n => h p _ n (fun b o e => upd_old n e) upd_same
theorem z_slL {a : Addr} {xs : List V} {lo hi : Option Int} (h1 : H a = some (.lst xs)) (h : ∀ p H', H p = none → Same H H' → H' p = some (.lst (cutV xs lo hi)) → Q (.ref p) H') : rSlL K (.ref a) lo hi H Q :=
  y_slL h1 fun p n => h p _ n (fun b o e => upd_old n e) upd_same
theorem z_slT {a : Addr} {xs : List V} {lo hi : Option Int} (h1 : H a = some (.tup xs)) (h2 : ¬ (HT.sIx xs.length 0 lo = 0 ∧ HT.sIx xs.length xs.length hi = xs.length)) (h : ∀ p H', H p = none → Same H H' → H' p = some (.tup (cutV xs lo hi)) → Q (.ref p) H') : rSlT K (.ref a) lo hi H Q :=
  ⟨a, xs, rfl, SqT.of h1, h2, fun p n => h p _ n (fun b o e => upd_old n e) upd_same⟩
theorem sat {a : Addr} {o : HO} (s : Same H H') (h : H a = some o) : H' a = some o := s a o h
theorem sfree {a : Addr} (s : Same H H') (h : H' a = none) : H a = none := s.free h
end
theorem y_pp {tk tv : TE} {r : List (TE × TE)} {σ : L2.St} {H : Hp} {Q : List (V × V) → Hp → Prop} (h : tk σ H fun x H1 => tv σ H1 fun y H2 => tPairs r σ H2 fun ps H3 => Q ((x, y) :: ps) H3) : tPairs ((tk, tv) :: r) σ H Q := h
theorem y_pp0 {σ : L2.St} {H : Hp} {Q : List (V × V) → Hp → Prop} (h : Q [] H) : tPairs [] σ H Q := h
theorem Kp.same {p : Addr} {H H1 H2 : Hp} (a : Kp p H H1) (b : Same H1 H2) : Kp p H H2 := a.trans (Kp.of b)
end OZ
set_option maxRecDepth 100000
namespace OZ
open PySem PySem.Spec PyProof.Rows L2
section
variable {σ : L2.St} {H : Hp} {D : Ends} {K : PySem.W.Frag} {wi : TI} {g : TG} {tb : TS} {tl : TE} {ta : TA} {R : It → Hp → Prop}
def ForB (J : It) (g : TG) (tb : TS) (D : Ends) (σ : L2.St) (H1 : Hp) : Prop := ∃ W : Nat → Nat → L2.St → Hp → Prop, (∃ m, W 0 m σ H1) ∧ ∀ i m σ H, W i m σ H →
  (J.stop i H ∧ D.nx σ H) ∨ (J.go i H ∧ ∃ N : L2.St → Hp → Prop, (∀ σ' H', N σ' H' → ∃ m', m' < m ∧ W (i + 1) m' σ' H') ∧ ∀ x H', J.yld i H x H' → g x σ H' fun σ2 H2 => tb { D with nx := N, ct := N, bk := D.nx } σ2 H2)
theorem y_for (h : wi σ H fun J H1 => ForB J g tb D σ H1) : tFor wi g tb D σ H := h
theorem y_iList (h : tl σ H fun x H1 => ∃ a, x = .ref a ∧ (∃ xs, SqL K H1 a xs) ∧ R (Itl K a) H1) : iList K tl σ H R := h
theorem y_iTup (h : tl σ H fun x H1 => ∃ a, x = .ref a ∧ (∃ xs, SqT K H1 a xs) ∧ R (Itt K a) H1) : iTup K tl σ H R := h
theorem y_iEnum (h : ta σ H fun vs H1 => ∃ a xs, vs = [.ref a] ∧ SqL K H1 a xs ∧ R (Ite K a) H1) : iEnum K ta σ H R := h
theorem y_itL {a : Addr} {xs : List V} (hp : H a = some (.lst xs)) (h : ForB (Itl K a) g tb D σ H) : ∃ a', V.ref a = .ref a' ∧ (∃ xs, SqL K H a' xs) ∧ ForB (Itl K a') g tb D σ H := ⟨a, rfl, ⟨xs, SqL.of hp⟩, h⟩
theorem y_itT {a : Addr} {xs : List V} (hp : H a = some (.tup xs)) (h : ForB (Itt K a) g tb D σ H) : ∃ a', V.ref a = .ref a' ∧ (∃ xs, SqT K H a' xs) ∧ ForB (Itt K a') g tb D σ H := ⟨a, rfl, ⟨xs, SqT.of hp⟩, h⟩
theorem y_itE {a : Addr} {xs : List V} (hp : H a = some (.lst xs)) (h : ForB (Ite K a) g tb D σ H) : ∃ a' xs, [V.ref a] = [.ref a'] ∧ SqL K H a' xs ∧ ForB (Ite K a') g tb D σ H := ⟨a, xs, rfl, SqL.of hp, h⟩
theorem f_enum {a : Addr} {xs : List V} (Pv : Nat → L2.St → Hp → Prop) (h0 : Pv 0 σ H) (hl : ∀ i σ H, i ≤ xs.length → Pv i σ H → H a = some (.lst xs))
    (hs : ∀ i x σ H q H', xs[i]? = some x → Pv i σ H → H q = none → Same H H' → H' q = some (.tup [.int (i : Nat), x]) → g (.ref q) σ H' fun σ2 H2 => tb { D with nx := Pv (i + 1), ct := Pv (i + 1), bk := D.nx } σ2 H2) (hd : ∀ σ H, Pv xs.length σ H → D.nx σ H) : ForB (Ite K a) g tb D σ H := by
  refine for_it walk_enum Pv h0 (fun i σ H hi p => SqL.of (hl i σ H hi p)) (fun i x σ H H' hi p y => ?_) hd
  obtain ⟨q, u, v, rfl, n, rfl, e1, e2⟩ := y
  cases e1
  exact hs i v σ H q _ e2 p n (fun b o e => upd_old n e) upd_same
theorem f_tup {a : Addr} {xs : List V} (Pv : Nat → L2.St → Hp → Prop) (h0 : Pv 0 σ H) (hl : ∀ i σ H, i ≤ xs.length → Pv i σ H → H a = some (.tup xs))
    (hs : ∀ i x σ H, xs[i]? = some x → Pv i σ H → g x σ H fun σ2 H2 => tb { D with nx := Pv (i + 1), ct := Pv (i + 1), bk := D.nx } σ2 H2) (hd : ∀ σ H, Pv xs.length σ H → D.nx σ H) : ForB (Itt K a) g tb D σ H :=
  for_tup Pv h0 (fun i σ H hi p => SqT.of (hl i σ H hi p)) hs hd
theorem f_list {a : Addr} {xs : List V} (Pv : Nat → L2.St → Hp → Prop) (h0 : Pv 0 σ H) (hl : ∀ i σ H, i ≤ xs.length → Pv i σ H → H a = some (.lst xs))
    (hs : ∀ i x σ H, xs[i]? = some x → Pv i σ H → g x σ H fun σ2 H2 => tb { D with nx := Pv (i + 1), ct := Pv (i + 1), bk := D.nx } σ2 H2) (hd : ∀ σ H, Pv xs.length σ H → D.nx σ H) : ForB (Itl K a) g tb D σ H :=
  for_list Pv h0 (fun i σ H hi p => SqL.of (hl i σ H hi p)) hs hd
end
theorem Dq.same {p : Addr} {H H' : Hp} {v : V} {d : PyData} (h : Dq p H v d) (s : Same H H') : Dq p H' v d := h.kp (Kp.of s)
theorem y_m0 {r : V → List V → Hp → VK → Prop} {to : TE} {σ : L2.St} {H : Hp} {Q : VK} (h : to σ H fun x H1 => (∃ a, x = .str a) ∧ r x [] H1 Q) : tM0 r to σ H Q := h
end OZ
set_option maxRecDepth 100000
namespace OZ
open PySem PySem.Spec PyProof.Rows L2
theorem kbS {K : PySem.W.Frag} {x qual : Str} {params : Arguments} {body : List Stmt} {scope : Scope} {f : Addr} {fd : FuncData} {ps ks : List Str} {pw : List Value → List Value} (F : FunD K x qual params body scope [] [] f fd)
    (h : ∀ (kV doc pm : Value) (an : Option Addr) (cdv ct : Value) (a : Value) (ws : List Value), ws.length = ks.length → bindArgs (PySem.W.fnOf x qual params body scope .none kV doc pm an cdv ct) ⟨[a], ks.zip ws⟩ = pure (ps.zip (a :: pw ws))) (s : Shared) (a : Value) (ws : List Value) (hw : ws.length = ks.length) :
    BindsTo s fd ⟨[a], ks.zip ws⟩ (ps.zip (a :: pw ws)) := by
  obtain ⟨oc, od, dV, kV, doc, pm, an, cdv, ct, osl, rfl, lk, hcd, hD, hK⟩ := F.ex
  rcases hD with ⟨_, rfl⟩ | ⟨z, _⟩
  · exact .of_eq (h kV doc pm an cdv ct a ws hw)
  · exact absurd rfl z
def sw2 {α : Type} : List α → List α
  | [a, b] => [b, a]
  | l => l
theorem sw2_vals {vs : List V} {us : List Value} (h : Vals vs us) : Vals (sw2 vs) (sw2 us) := by
  cases h with
  | nil => exact .nil
  | cons r1 t =>
    cases t with
    | nil => exact .cons r1 .nil
    | cons r2 t2 =>
      cases t2 with
      | nil => exact .cons r2 (.cons r1 .nil)
      | cons r3 t3 => exact .cons r1 (.cons r2 (.cons r3 t3))
section
variable {P : Program} {w : World} {K : PySem.W.Frag} {mg : Str → Option Value} {base : Heap} {x f g : Str} {C fI : Addr} {fd : FuncData}
theorem spX1_use {v : V} {H : Hp} {a : Addr} {Q : VK} {E : XK} (hn : H a = none) (h : ∀ H', Same H H' → ExAt H' a C [(f, v)] → Q .non H') : spX1 f C [.ref a, v] (upd H a (exo a C none)) Q E := by
  refine ⟨a, v, rfl, upd_same, fun dx h1 h2 => h _ (fun b o e => ?_) (.inr (.inr ⟨dx, upd_same, ?_⟩))⟩
  · rw [upd_ne (ne_of_none e hn)]
    exact upd_old h1 (upd_old hn e)
  · rw [upd_ne h2, upd_same]
theorem spX2_use {v u : V} {H : Hp} {a : Addr} {Q : VK} {E : XK} (hn : H a = none) (h : ∀ H', Same H H' → ExAt H' a C [(g, u), (f, v)] → Q .non H') : spX2 f g C [.ref a, v, u] (upd H a (exo a C none)) Q E := by
  refine ⟨a, v, u, rfl, upd_same, fun dx h1 h2 => h _ (fun b o e => ?_) (.inr (.inr ⟨dx, ?_, upd_same⟩))⟩
  · have nd : b ≠ dx := ne_of_none e (free_upd h1)
    rw [upd_ne nd, upd_ne (ne_of_none e hn)]
    exact upd_old h1 (upd_old hn e)
  · rw [upd_ne (Ne.symm h2), upd_same]
theorem Xv.one (nm : mg x = some (.ref C)) (xc : XC K C) (iC : PySem.W.findIn K (.ref C) "__init__" = some (some (.ref fI))) (tI : PySem.W.typeIn K (.ref fI) = some (.type "function")) (G : FnOk P w K mg base (L2.CX P w) 1 fI fd ["self", f] (spX1 f C)) (hb : Binds K fd ["self", f] [])
    (kb : ∀ (s : Shared) (a : Value) (ws : List Value), ws.length = 1 → BindsTo s fd ⟨[a], [f].zip ws⟩ ((["self", f] : List Str).zip (a :: ws))) : Xv P w K mg base x C 1 [] (fun vs => [(f, vs.headD .non)]) ∧ Xv P w K mg base x C 1 [f] (fun vs => [(f, vs.headD .non)]) := by
  refine ⟨⟨nm, xc, fI, fd, _, _, fun l => l, fun l => l, iC, tI, G, fun s a us ws kin h => ?_, fun _ _ r => r, fun vs H a Q hl hn h => ?_⟩, ⟨nm, xc, fI, fd, _, _, fun l => l, fun l => l, iC, tI, G, fun s a us ws kin h => ?_, fun _ _ r => r, fun vs H a Q hl hn h => ?_⟩⟩
  · rcases h with ⟨h1, _, rfl⟩ | ⟨_, h2, _⟩
    · have b := hb s (a :: us) kin (by rw [List.append_nil]; simp [h1])
      exact b
    · exact absurd rfl h2
  · match vs, hl with
    | [v], _ => exact spX1_use hn h
  · rcases h with ⟨_, h2, _⟩ | ⟨rfl, _, h3, _⟩
    · cases h2
    · exact kb s a ws h3
  · match vs, hl with
    | [v], _ => exact spX1_use hn h
theorem Xv.two (nm : mg x = some (.ref C)) (xc : XC K C) (iC : PySem.W.findIn K (.ref C) "__init__" = some (some (.ref fI))) (tI : PySem.W.typeIn K (.ref fI) = some (.type "function")) (G : FnOk P w K mg base (L2.CX P w) 1 fI fd ["self", f, g] (spX2 f g C)) (hb : Binds K fd ["self", f, g] [])
    (kb : ∀ (s : Shared) (a : Value) (ws : List Value), ws.length = 2 → BindsTo s fd ⟨[a], [g, f].zip ws⟩ ((["self", f, g] : List Str).zip (a :: sw2 ws))) :
    Xv P w K mg base x C 2 [] (fun vs => [(g, vs.getD 1 .non), (f, vs.headD .non)]) ∧ Xv P w K mg base x C 2 [g, f] (fun vs => [(g, vs.headD .non), (f, vs.getD 1 .non)]) := by
  refine ⟨⟨nm, xc, fI, fd, _, _, fun l => l, fun l => l, iC, tI, G, fun s a us ws kin h => ?_, fun _ _ r => r, fun vs H a Q hl hn h => ?_⟩, ⟨nm, xc, fI, fd, _, _, sw2, sw2, iC, tI, G, fun s a us ws kin h => ?_, fun _ _ r => sw2_vals r, fun vs H a Q hl hn h => ?_⟩⟩
  · rcases h with ⟨h1, _, rfl⟩ | ⟨_, h2, _⟩
    · have b := hb s (a :: us) kin (by rw [List.append_nil]; simp [h1])
      exact b
    · exact absurd rfl h2
  · match vs, hl with
    | [v, u], _ => exact spX2_use hn h
  · rcases h with ⟨_, h2, _⟩ | ⟨rfl, _, h3, _⟩
    · cases h2
    · exact kb s a ws h3
  · match vs, hl with
    | [v, u], _ => exact spX2_use hn h
end
end OZ
set_option maxRecDepth 100000
set_option maxHeartbeats 2000000
namespace PySem
namespace OZO
open PySem.W PySem.Calls PyProof.Rows
section
variable {prog : Program} {w : World} {A : Around} {E : Value → Shared → Prop} {s : Shared} {K : Frag} {x y C f : Addr} {ox oy : Obj} {od ody : Option Obj} {nm T : String}
theorem b1_same {Q : Value → Shared → Prop} (X : K.In s.heap) (I : InstAt s.heap x ox C od) (J : InstAt s.heap y oy C ody) (hc : selfFirst K C = true) (hs : findIn K (.ref C) (PySem.dunder nm) = some (some (.ref f))) (hf : isFn K (.ref f) = true)
    (h : wpAny (model prog w) A (call (.ref f) [.ref x, .ref y]) (W.CmpBack Q) E s) : wpAny (model prog w) A (binaryOp1 nm (.ref x) (.ref y)) (fun r s' => ∃ v, r = some v ∧ Q v s') E s := by
  obtain ⟨cd, rest, hcd, hm⟩ := ksp_first hc
  have one := ksp_try X I hs hf h
  unfold binaryOp1
  refine wpAny_bind (I.type.here (wpAny_bind (J.type.here (wpAny_bind ((fills_K X hcd hm hs).here ?_)))))
  simp only [beq_self_eq_true, if_true]
  refine wpAny_bind (wpAny_pure ?_)
  simp only [Bool.and_false, Bool.false_eq_true, if_false, Bool.false_and]
  refine wpAny_bind (wpAny_pure ?_)
  simp only [Bool.false_eq_true, if_false]
  refine wpAny_bind (m := tryMethod (.ref x) _ (.ref y)) (wpAny_mono one ?_ fun _ _ e => e)
  rintro r s' ⟨v, rfl, q⟩
  exact wpAny_pure ⟨v, rfl, q⟩
theorem b1_T {b : Value} {fo ro rc : Option Value} {Q : Value → Shared → Prop} (X : K.In s.heap) (I : InstAt s.heap x ox C od) (hb : typeOf b = pure (.type T)) (hc : selfFirst K C = true) (hs : findIn K (.ref C) (PySem.dunder nm) = some (some (.ref f))) (hf : isFn K (.ref f) = true)
    (hr : findIn K (.ref C) (dunderR nm) = some rc) (hp : rc = none ∨ ∃ g : Addr, rc = some (.ref g)) (h1 : findIn K (.type T) (PySem.dunder nm) = some fo) (h2 : findIn K (.type T) (dunderR nm) = some ro) (hsub : subIn K (.type T) (.ref C) = some false)
    (h : wpAny (model prog w) A (call (.ref f) [.ref x, b]) (W.CmpBack Q) E s) : wpAny (model prog w) A (binaryOp1 nm (.ref x) b) (fun r s' => ∃ v, r = some v ∧ Q v s') E s := by
  obtain ⟨cd, rest, hcd, hm⟩ := ksp_first hc
  have one := ksp_try X I hs hf h
  obtain ⟨hh, g, d, tt, os⟩ := s
  have L1 : Looks (model prog w) hh (typeOf (.ref x)) (.ref C) := I.type
  have L2 : Looks (model prog w) hh (typeOf b) (.type T) := Looks.of_pure hb
  have L3 : Looks (model prog w) hh (fillsNumberSlot (.ref C) nm) true := fills_K X hcd hm hs
  have L4 : Looks (model prog w) hh (fillsNumberSlot (.type T) nm) ((fo.isSome && !isSeqSlot fo) || (ro.isSome && !isSeqSlot ro)) := ksp_fillsT X h1 h2
  have L5 : Looks (model prog w) hh (isSubtype (.type T) (.ref C)) false := looks_subIn X hsub
  have L6 : Looks (model prog w) hh (numberSlotInPython (.ref C) nm) true := ksp_inPy X hs hr hp
  have L7 : Looks (model prog w) hh (numberSlotInPython (.type T) nm) false := Looks.of_pure rfl
  have L8 : Looks (model prog w) hh (typeLookup (.type T) (dunderR nm)) ro := looks_findIn X h2
  generalize ((fo.isSome && !isSeqSlot fo) || (ro.isSome && !isSeqSlot ro)) = right at L4
  have hne : (Value.ref C == Value.type T) = false := Bool.eq_false_iff.mpr fun q => by cases beq_iff_eq.mp q
  unfold binaryOp1
  refine wpAny_bind (L1.at (wpAny_bind (L2.at (wpAny_bind (L3.at ?_)))))
  simp only [hne, Bool.false_eq_true, if_false]
  cases right with
  | false =>
    ksp_lk
    refine wpAny_mono one ?_ fun _ _ e => e
    rintro r s' ⟨v, rfl, hq⟩
    ksp_lk
    exact ⟨v, rfl, hq⟩
  | true =>
    ksp_lk
    refine wpAny_mono one ?_ fun _ _ e => e
    rintro r s' ⟨v, rfl, hq⟩
    ksp_lk
    exact ⟨v, rfl, hq⟩
theorem b1_R {i : Int} {t : Tok} {id : String} {ro : Option Value} {Q : Value → Shared → Prop} (X : K.In s.heap) (I : InstAt s.heap x ox C od) (hc : selfFirst K C = true) (hs : findIn K (.ref C) (dunderR nm) = some (some (.ref f))) (hf : isFn K (.ref f) = true)
    {lo : Option Value} (hl : findIn K (.ref C) (PySem.dunder nm) = some lo) (hlo : ∃ g : Addr, lo = some (.ref g)) (hi : findIn K (.type "int") (PySem.dunder nm) = some (some (.builtin id))) (hi2 : findIn K (.type "int") (dunderR nm) = some ro) (hns : isSeqSlot (some (.builtin id)) = false)
    (hsub : subIn K (.ref C) (.type "int") = some false) (slot : Slot "int" (PySem.dunder nm) id)
    (hdec : ∀ Q' : Value → Shared → Prop, Q' .notImplemented s → wpAny (model prog w) A (call (.builtin id) [.int i t, .ref x]) Q' E s)
    (h : wpAny (model prog w) A (call (.ref f) [.ref x, .int i t]) (W.CmpBack Q) E s) : wpAny (model prog w) A (binaryOp1 nm (.int i t) (.ref x)) (fun r s' => ∃ v, r = some v ∧ Q v s') E s := by
  obtain ⟨cd, rest, hcd, hm⟩ := ksp_first hc
  have one := ksp_try X I hs hf h
  obtain ⟨lg, rfl⟩ := hlo
  have dec : wpAny (model prog w) A (tryMethod (.int i t) (PySem.dunder nm) (.ref x)) (fun r s' => r = none ∧ s' = s) E s := by
    unfold tryMethod
    refine wpAny_bind (wpAny_callSpecial?_slot (typeIs_int _ _ _) slot (hdec _ ?_))
    exact wpAny_pure ⟨rfl, rfl⟩
  obtain ⟨hh, g, d, tt, os⟩ := s
  have L1 : Looks (model prog w) hh (typeOf (.ref x)) (.ref C) := I.type
  have L2 : Looks (model prog w) hh (typeOf (.int i t)) (.type "int") := Looks.of_pure rfl
  have L3 : Looks (model prog w) hh (fillsNumberSlot (.ref C) nm) true := fills_K X hcd hm hl
  have L4 : Looks (model prog w) hh (fillsNumberSlot (.type "int") nm) (((some (Value.builtin id)).isSome && !isSeqSlot (some (.builtin id))) || (ro.isSome && !isSeqSlot ro)) := ksp_fillsT X hi hi2
  have L5 : Looks (model prog w) hh (isSubtype (.ref C) (.type "int")) false := looks_subIn X hsub
  have L7 : Looks (model prog w) hh (numberSlotInPython (.type "int") nm) false := Looks.of_pure rfl
  rw [hns] at L4
  have hne : (Value.type "int" == Value.ref C) = false := Bool.eq_false_iff.mpr fun q => by cases beq_iff_eq.mp q
  unfold binaryOp1
  refine wpAny_bind (L2.at (wpAny_bind (L1.at (wpAny_bind (L4.at ?_)))))
  simp only [hne, Bool.false_eq_true, if_false]
  ksp_lk
  refine wpAny_mono dec ?_ fun _ _ e => e
  rintro r s' ⟨rfl, rfl⟩
  ksp_lk
  refine wpAny_mono one ?_ fun _ _ e => e
  rintro r s' ⟨v, rfl, hq⟩
  ksp_lk
  exact ⟨v, rfl, hq⟩
end
end OZO
end PySem
set_option maxRecDepth 100000
set_option maxHeartbeats 2000000
namespace PySem
namespace OZO
open PySem.W PySem.Calls PyProof.Rows
section
variable (i : Int) (t : Tok) (x C dx : Addr)
abbrev Decl (B : Builtin) : Prop := Meets (B ⟨[.int i t, .ref x], []⟩) (fun _ R s => s.heap.get? x = some (instObj C dx) ∧ R (.ok (.ret Value.notImplemented)) s)
theorem d_add : Decl i t x C dx Builtin.«int.__add__» := .of_wp fun prog w A R s h => by
  obtain ⟨hp, g, d, tk, os⟩ := s; obtain ⟨hl, h⟩ := h; wp_walk using wpAny_loadPart' hl; exact ⟨_, rfl, h⟩
theorem d_sub : Decl i t x C dx Builtin.«int.__sub__» := .of_wp fun prog w A R s h => by
  obtain ⟨hp, g, d, tk, os⟩ := s; obtain ⟨hl, h⟩ := h; wp_walk using wpAny_loadPart' hl; exact ⟨_, rfl, h⟩
theorem d_mul : Decl i t x C dx Builtin.«int.__mul__» := .of_wp fun prog w A R s h => by
  obtain ⟨hp, g, d, tk, os⟩ := s; obtain ⟨hl, h⟩ := h; wp_walk using wpAny_loadPart' hl; exact ⟨_, rfl, h⟩
theorem d_fdiv : Decl i t x C dx Builtin.«int.__floordiv__» := .of_wp fun prog w A R s h => by
  obtain ⟨hp, g, d, tk, os⟩ := s; obtain ⟨hl, h⟩ := h; wp_walk using wpAny_loadPart' hl; exact ⟨_, rfl, h⟩
theorem d_mod : Decl i t x C dx Builtin.«int.__mod__» := .of_wp fun prog w A R s h => by
  obtain ⟨hp, g, d, tk, os⟩ := s; obtain ⟨hl, h⟩ := h; wp_walk using wpAny_loadPart' hl; exact ⟨_, rfl, h⟩
theorem d_lt : Decl i t x C dx Builtin.«int.__lt__» := .of_wp fun prog w A R s h => by
  obtain ⟨hp, g, d, tk, os⟩ := s; obtain ⟨hl, h⟩ := h; wp_walk using wpAny_loadPart' hl; exact ⟨_, rfl, h⟩
theorem d_le : Decl i t x C dx Builtin.«int.__le__» := .of_wp fun prog w A R s h => by
  obtain ⟨hp, g, d, tk, os⟩ := s; obtain ⟨hl, h⟩ := h; wp_walk using wpAny_loadPart' hl; exact ⟨_, rfl, h⟩
theorem d_gt : Decl i t x C dx Builtin.«int.__gt__» := .of_wp fun prog w A R s h => by
  obtain ⟨hp, g, d, tk, os⟩ := s; obtain ⟨hl, h⟩ := h; wp_walk using wpAny_loadPart' hl; exact ⟨_, rfl, h⟩
theorem d_ge : Decl i t x C dx Builtin.«int.__ge__» := .of_wp fun prog w A R s h => by
  obtain ⟨hp, g, d, tk, os⟩ := s; obtain ⟨hl, h⟩ := h; wp_walk using wpAny_loadPart' hl; exact ⟨_, rfl, h⟩
theorem d_eq : Decl i t x C dx Builtin.«int.__eq__» := .of_wp fun prog w A R s h => by
  obtain ⟨hp, g, d, tk, os⟩ := s; obtain ⟨hl, h⟩ := h; wp_walk using wpAny_loadPart' hl; exact ⟨_, rfl, h⟩
theorem d_ne : Decl i t x C dx Builtin.«int.__ne__» := .of_wp fun prog w A R s h => by
  obtain ⟨hp, g, d, tk, os⟩ := s; obtain ⟨hl, h⟩ := h; wp_walk using wpAny_loadPart' hl; exact ⟨_, rfl, h⟩
end
section
variable {prog : Program} {w : World} {A : Around} {E : Value → Shared → Prop} {s : Shared} {K : Frag} {x C f dx : Addr} {ox : Obj} {od : Option Obj} {b : Value}
theorem int_no {i : Int} {t : Tok} {name : Str} {id : String} {B : Builtin} {Q : Value → Shared → Prop} (slot : Slot "int" name id) (entry : entryFor table id = some B) (args : argsOk id ⟨[.int i t, .ref x], []⟩) (g : Decl i t x C dx B) (hx : s.heap.get? x = some (instObj C dx)) (q : Q .notImplemented s) :
    wpAny (model prog w) A (call (.builtin id) [.int i t, .ref x]) Q E s := call_meets slot (typeIs_int _ _ _) entry args g ⟨hx, q⟩
theorem cmp_R {op : CmpOp} {i : Int} {t : Tok} {id : String} {Q : Value → Shared → Prop} (hu : A.units < cLine) (X : K.In s.heap) (I : InstAt s.heap x ox C od) (hsub : subIn K (.ref C) (.type "int") = some false) (slot : Slot "int" (cmpInfo op).2.1 id)
    (hs : findIn K (.ref C) (cmpInfo op).2.2 = some (some (.ref f))) (hf : isFn K (.ref f) = true) (hdec : ∀ Q' : Value → Shared → Prop, Q' .notImplemented s → wpAny (model prog w) A (call (.builtin id) [.int i t, .ref x]) Q' E s)
    (h : wpAny (model prog w) A (call (.ref f) [.ref x, .int i t]) (W.CmpBack Q) E s) : wpAny (model prog w) A (richCompare op (.int i t) (.ref x)) Q E s := by
  have one : wpAny (model prog w) A (tryCompare (.ref x) (cmpInfo op).2.2 (.int i t)) (fun r s' => ∃ v, r = some v ∧ Q v s') E s := by
    unfold tryCompare
    refine wpAny_bind (ifBound_K X I hs hf (wpAny_mono h (fun v s' hv => ?_) fun _ _ e => e))
    cases v <;> first | exact hv.elim | exact wpAny_pure ⟨_, rfl, hv⟩
  have dec : wpAny (model prog w) A (tryCompare (.int i t) (cmpInfo op).2.1 (.ref x)) (fun r s' => r = none ∧ s' = s) E s := by
    unfold tryCompare
    refine wpAny_bind (wpAny_callSpecialIfBound?_slot (typeIs_int _ _ _) slot (hdec _ ?_))
    exact wpAny_pure ⟨rfl, rfl⟩
  have hne : (Value.type "int" != Value.ref C) = true := by
    have e : (Value.type "int" == Value.ref C) = false := Bool.eq_false_iff.mpr fun q => by cases beq_iff_eq.mp q
    simp [bne, e]
  unfold richCompare
  have eo : oneThing? op (.int i t) (.ref x) = none := rfl
  simp only [eo]
  refine wpAny_holding (wpAny_bind (wpAny_cRoomFor hu ?_))
  refine wpAny_bind (wpAny_typeOf (typeIs_int _ _ _) (wpAny_bind (I.type.here ?_)))
  simp only [hne, if_true]
  refine wpAny_bind ((looks_subIn X hsub).here ?_)
  simp only [Bool.false_eq_true, if_false]
  refine wpAny_bind (wpAny_mono dec ?_ fun _ _ e => e)
  rintro r s' ⟨rfl, rfl⟩
  simp only [Bool.not_false, if_true]
  refine wpAny_bind (wpAny_mono one ?_ fun _ _ e => e)
  rintro r s' ⟨v, rfl, q⟩
  exact wpAny_pure q
end
end OZO
end PySem
set_option maxRecDepth 100000
set_option maxHeartbeats 2000000
namespace PySem
namespace OZO
open PySem.W PySem.Calls PyProof.Rows
section
variable {prog : Program} {w : World} {A : Around} {E : Value → Shared → Prop} {s : Shared} {K : Frag} {x C f dx : Addr} {ox : Obj} {od : Option Obj} {b tb : Value}
theorem bound_ne {M : Model} {args : List Value} {Q : Option Value → Shared → Prop} (X : K.In s.heap) (I : InstAt s.heap x ox C od) (hs : findIn K (.ref C) "__ne__" = some (some (.builtin "object.__ne__")))
    (h : wpAny M A (call (.builtin "object.__ne__") (.ref x :: args)) (fun v => Q (some v)) E s) : wpAny M A (callSpecialIfBound? (.ref x) "__ne__" args) Q E s := by
  simp only [callSpecialIfBound?, bindSpecialIfBound?]
  apply wpAny_holding
  apply wpAny_bind
  apply wpAny_bind
  apply wpAny_bind
  apply I.type.here
  apply (looks_findIn X hs).here
  apply wpAny_bind
  apply wpAny_askSetting
  apply wpAny_ite
  have fin : wpAny M A (call (.builtin "object.__ne__") ([.ref x] ++ args) >>= fun v => pure (some v)) Q E s := wpAny_bind (wpAny_mono h (fun v s' h' => wpAny_pure h') fun _ _ h' => h')
  split
  · exact wpAny_bind (wpAny_of_eq (F.cmp_object.ne.bind _) (wpAny_pure (by exact fin)))
  · exact wpAny_tryCatch (wpAny_bind (wpAny_of_eq (F.cmp_object.ne.bind _) (wpAny_pure (by exact fin))))
theorem ne_entry {Q : Fin → Shared → Prop} (hu : A.units < cLine) (X : K.In s.heap) (I : InstAt s.heap x ox C od) (hs : findIn K (.ref C) "__eq__" = some (some (.ref f))) (hf : isFn K (.ref f) = true)
    (h : wpAny (model prog w) A (call (.ref f) [.ref x, b]) (fun v s' => ∃ r, v = .bool r ∧ Q (.done (.ret (.bool (!r)))) s') E s) : wpAny (model prog w) A (Builtin.«object.__ne__» ⟨[.ref x, b], []⟩) Q E s := by
  unfold Builtin.«object.__ne__»
  repeat (first
    | with_reducible refine wpAny_cRoomFor hu ?_
    | (refine wpAny_bind (m := callSpecialIfBound? (.ref x) (Str.ofString "__eq__") [b]) (ifBound_K X I hs hf (wpAny_mono h (fun r s' hr => by
          obtain ⟨q, rfl, hq⟩ := hr
          repeat (first | exact hq | exact wpAny_pure hq | exact wpAny_truthy_bool hq | (refine wpAny_bind (m := truthy (.bool _)) (wpAny_truthy_bool ?_)) | wp_step)) fun _ _ e => e)))
    | wp_step)
theorem ne_own {Q : Value → Shared → Prop} (hu : A.units + 1 < cLine) (X : K.In s.heap) (I : InstAt s.heap x ox C od) (hb : Looks (model prog w) s.heap (typeOf b) tb) (hn : notFirst K C tb = true) (hne : findIn K (.ref C) "__ne__" = some (some (.builtin "object.__ne__")))
    (hm : mroIn K C (.type "object") = some true) (hs : findIn K (.ref C) "__eq__" = some (some (.ref f))) (hf : isFn K (.ref f) = true)
    (h : wpAny (model prog w) A.in1 (call (.ref f) [.ref x, b]) (fun v s' => ∃ r, v = .bool r ∧ Q (.bool (!r)) s') E s) : wpAny (model prog w) A (richCompare .NotEq (.ref x) b) Q E s := by
  have one : wpAny (model prog w) A (tryCompare (.ref x) "__ne__" b) (fun r s' => ∃ v, r = some v ∧ Q v s') E s := by
    unfold tryCompare
    refine wpAny_bind (bound_ne X I hne (wpAny_call (codeAny_call_builtin F.cmp_object.ne.plain F.cmpEntry_ne (check_slot F.cmpKind_ne F.cmpSplit_ne (I.type.andThen (looks_mroIn X hm)) (F.cmpArgs_ne _ _)
      (ne_entry (A := A.in1) hu X I hs hf (wpAny_mono h (fun v s' hv => ?_) fun _ _ e => e))))))
    obtain ⟨r, rfl, hq⟩ := hv
    first | exact ⟨r, rfl, wpAny_pure ⟨_, rfl, hq⟩⟩ | exact ⟨r, rfl, _, rfl, hq⟩
  unfold richCompare
  simp only [oneThing_ref]
  refine wpAny_holding (wpAny_bind (wpAny_cRoomFor (Nat.lt_of_succ_lt hu) ?_))
  rw [cmpInfo_NotEq]
  dsimp only
  refine wpAny_bind (I.type.here (wpAny_bind (hb.here ?_)))
  split
  · rename_i q
    have e : subIn K tb (.ref C) = some false := by
      rcases Bool.or_eq_true_iff.mp hn with e | e
      · rw [beq_iff_eq.mp e] at q; simp at q
      · exact beq_iff_eq.mp e
    refine wpAny_bind ((looks_subIn X e).here ?_)
    simp only [Bool.false_eq_true, if_false]
    refine wpAny_bind (wpAny_mono one ?_ fun _ _ e => e)
    rintro r s' ⟨v, rfl, hq⟩
    exact wpAny_pure hq
  · refine wpAny_bind (wpAny_pure ?_)
    simp only [Bool.false_eq_true, if_false]
    refine wpAny_bind (wpAny_mono one ?_ fun _ _ e => e)
    rintro r s' ⟨v, rfl, hq⟩
    exact wpAny_pure hq
theorem abs_own {Q : Value → Shared → Prop} (X : K.In s.heap) (I : InstAt s.heap x ox C od) (hs : findIn K (.ref C) "__abs__" = some (some (.ref f))) (hf : isFn K (.ref f) = true)
    (h : wpAny (model prog w) A.in1 (call (.ref f) [.ref x]) Q E s) : wpAny (model prog w) A (call (.builtin "abs") [.ref x]) Q E s := by
  apply call_function_entry kind_abs plain_abs entry_abs (args_abs _)
  unfold Builtin.«abs»
  refine wpAny_bind (wpAny_of_eq (a := .ref x) rfl ?_)
  refine wpAny_bind (special_fn X I hs (beq_iff_eq.mp hf) (wpAny_mono h (fun r s' hr => ?_) fun _ _ y => y))
  exact wpAny_pure ⟨_, rfl, hr⟩
theorem bool_own {Q : Value → Shared → Prop} (X : K.In s.heap) (I : InstAt s.heap x ox C od) (hs : findIn K (.ref C) "__bool__" = some (some (.ref f))) (hf : isFn K (.ref f) = true)
    (h : wpAny (model prog w) A.in1.in1 (call (.ref f) [.ref x]) (fun v s' => ∃ r, v = .bool r ∧ Q (.bool r) s') E s) : wpAny (model prog w) A (call (.type "bool") [.ref x]) Q E s := by
  refine callType_codes (T := "bool") (Bi := Builtin.«object.__init__») (Q₁ := fun r s₁ => ∃ q, r = Value.bool q ∧ Q r s₁) PySem.F.called_bool (PySem.F.typeCall_bool_1 _) PySem.F.entry_object_init ?_ ?_
  · refine codeAny_of_tree ?_
    show wpAny _ A.in1.in1 (do checkBuiltinCall "bool.__new__" ⟨[.type "bool", .ref x], []⟩; again (.builtin "bool.__new__" ⟨[.type "bool", .ref x], []⟩)) _ _ s
    refine wpAny_bind (wpAny_of_eq (PySem.F.newCall_bool_1 _) (wpAny_pure ⟨plainId_quiet (by decide +kernel) _, codeAny_builtin PySem.F.entry_bool_new ?_⟩))
    rw [Around.under_plainId (by decide +kernel) _]
    unfold Builtin.«bool.__new__»
    have f1 := F.conv_sub_bool
    have tr : wpAny (model prog w) A.in1.in1 (truthy (.ref x)) (fun q s' => Q (.bool q) s') E s := by
      unfold truthy
      refine wpAny_bind (m := callSpecial? (.ref x) (Str.ofString "__bool__")) (special_fn X I hs (beq_iff_eq.mp hf) (wpAny_mono h ?_ fun _ _ y => y))
      rintro r s' ⟨q, rfl, hq⟩
      exact wpAny_pure hq
    obtain ⟨hp, g, d, tk, os⟩ := s
    repeat (any_goals (first | assumption | (refine wpAny_bind (m := truthy (.ref x)) (wpAny_mono tr (fun q s' hq => ?_) fun _ _ y => y)) | wp_step))
    all_goals first | exact ⟨_, rfl, hq⟩ | exact ⟨_, rfl, _, rfl, hq⟩ | skip
  · rintro obj s₁ ⟨q, rfl, hq⟩
    exact ⟨typeIs_bool _ _, PySem.F.args_object_init_2 _ _, object_init_meets PySem.F.called_bool.init.lookup PySem.F.called_bool.made (by decide) prog w A.in1 _ s₁ ⟨typeIs_bool _ _, rfl, hq⟩⟩
theorem fillsI_no {M : Model} {h : Heap} {nm : String} {cd : ClassData} {add : Bool} (X : K.In h) (hc : clsIn K C = some cd) (hm : cd.mro = [.ref C, .type "object"]) (h1 : findIn K (.ref C) (dunderI nm) = some none) (h2 : findIn K (.type "object") (dunderI nm) = some none) :
    Looks M h (fillsInplaceSlot (.ref C) nm add) false := by
  intro A Q E s k q
  have Lm : Looks M h (mroOf (.ref C)) cd.mro := (looks_clsIn X hc).andThen (f := fun cd => pure cd.mro) .now
  have Lm' := Lm.keeps k
  obtain ⟨hh, g, d, tt, os⟩ := s
  have X' : K.In hh := X.keeps k
  have L1 : Looks M hh (typeLookup (.ref C) (dunderI nm)) none := looks_findIn X' h1
  have L2 : Looks M hh (typeLookup (.type "object") (dunderI nm)) none := looks_findIn X' h2
  unfold fillsInplaceSlot
  refine wpAny_bind (Lm'.at ?_)
  rw [hm, List.anyM_cons]
  refine wpAny_bind ?_
  repeat lk
  exact q
end
end OZO
end PySem
set_option maxRecDepth 100000
set_option maxHeartbeats 1000000
namespace OZ
open PySem PySem.Spec PyProof.Rows L2
structure OC (K : PySem.W.Frag) (C : Addr) : Prop where
  cls : Cls K C
  sf : PySem.W.selfFirst K C = true
  i1 : PySem.W.subIn K (.type "int") (.ref C) = some false
  i2 : PySem.W.subIn K (.ref C) (.type "int") = some false
  mo : PySem.W.mroIn K C (.type "object") = some true
  ca : PySem.W.findIn K (.ref C) "__class__" = some (some (.builtin "object.__class__"))
  cn : PySem.W.specialIn K (.builtin "object.__class__") "__get__" = some (some (.builtin "getset_descriptor.__get__"))
  ct : PySem.W.takesIn K (.builtin "object.__class__") = some true
def ocB (K : PySem.W.Frag) (C : Addr) : Bool := PySem.W.plainGet K C Str.empty && (PySem.W.hasDictIn K C && (PySem.W.plainOver K C && (decide (PySem.W.findIn K (.ref C) "__setattr__" = some (some (.builtin "object.__setattr__"))) && (PySem.W.selfFirst K C && (decide (PySem.W.subIn K (.type "int") (.ref C) = some false) &&
  (decide (PySem.W.subIn K (.ref C) (.type "int") = some false) && (decide (PySem.W.mroIn K C (.type "object") = some true) && (decide (PySem.W.findIn K (.ref C) "__class__" = some (some (.builtin "object.__class__"))) &&
  (decide (PySem.W.specialIn K (.builtin "object.__class__") "__get__" = some (some (.builtin "getset_descriptor.__get__"))) && decide (PySem.W.takesIn K (.builtin "object.__class__") = some true))))))))))
theorem ocB_ok {K : PySem.W.Frag} {C : Addr} (h : ocB K C = true) : OC K C := by
  unfold ocB at h
  simp only [Bool.and_eq_true, decide_eq_true_eq] at h
  obtain ⟨h1, h2, h3, h4, h5, h6, h7, h8, h9, h10, h11⟩ := h
  exact ⟨⟨h1, h2, h3, h4⟩, h5, h6, h7, h8, h9, h10, h11⟩
theorem OC.ty {K : PySem.W.Frag} {C a dx : Addr} {H : Hp} {fs : List (Str × V)} (o : OC K C) (h : H a = some (.ins C dx fs)) : TyX K H (.ref a) (.ref C) := .base (.ins h o.cls o.ca o.cn o.ct o.mo)
def Mth (P : Program) (w : World) (K : PySem.W.Frag) (mg : Str → Option Value) (base : Heap) (k : Nat) (C : Addr) (m : Str) (ps : List Str) (sp : Sp) : Prop :=
  ∃ (f : Addr) (fd : FuncData), PySem.W.findIn K (.ref C) m = some (some (.ref f)) ∧ PySem.W.isFn K (.ref f) = true ∧ Binds K fd ps [] ∧ FnOk P w K mg base (L2.CX P w) k f fd ps sp
section
variable {X : Cx} {k : Nat} {C : Addr} {ps : List Str} {sp : Sp} {E : XK} {pins : List (Addr × Obj)} {σ : L2.St} {H : Hp} {s : Shared} {m : Str}
theorem inst_of {a dx : Addr} {fs : List (Str × V)} (I : Inv X pins σ H s) (h : H a = some (.ins C dx fs)) : (∃ od, PySem.W.InstAt s.heap a (PySem.W.instObj C dx) C (some od)) ∧ s.heap.get? a = some (PySem.W.instObj C dx) := by
  obtain ⟨mA, O, _⟩ := ins_get I.hok h
  obtain ⟨od, J, _⟩ := O.look
  exact ⟨⟨od, J⟩, J.1⟩
theorem ty_looks {v : V} {u t : Value} (I : Inv X pins σ H s) (r : RelV v u) (ty : TyX X.K H v t) : PySem.W.Looks (model X.prog X.w) s.heap (typeOf u) t := by
  obtain ⟨P, k, p, _⟩ := kit_of I r ty
  exact k.ty _ _ I.kIn p
theorem run_own {A : Around} {f : Addr} {fd : FuncData} {Q : VK} {us : List Value} {vs : List V} (F : FnOk X.prog X.w X.K X.mg X.base (L2.CX X.prog X.w) k f fd ps sp) (hr : Room k A) (e0 : Env0 X.prog X.w X.K X.mg X.base A X.stack s H) (hb : Binds X.K fd ps []) (hx : Passes (L2.CX X.prog X.w) X E) (I : Inv X pins σ H s) (r : Vals vs us) (h : sp vs H Q E) :
    wpAny (model X.prog X.w) A (call (.ref f) us) (EP X pins σ Q) X.xe s := by
  have hl : us.length = ps.length := by rw [← r.length]; exact F.len _ _ _ _ h
  have b := hb s us I.kIn (by rw [List.append_nil]; exact hl)
  rw [List.append_nil] at b
  apply wpAny_call
  apply codeAny_mono (F.run A X.stack s H ⟨us, []⟩ us vs Q E hr e0 b r h)
  intro r s' hq
  cases r with
  | error e => exact hx pins σ H s e s' I hq
  | ok fl =>
    cases fl with
    | ret u => exact I.after hq
    | next => exact hq.elim
    | brk => exact hq.elim
    | cont => exact hq.elim
def Rgt (C : Addr) (H : Hp) (y : V) : Prop := (∃ i, y = .int i) ∨ ∃ b dy gs, y = .ref b ∧ H b = some (.ins C dy gs)
def rBin (C : Addr) (sp : Sp) (E : XK) : R2 := fun x y H Q => ∃ a dx fs, x = .ref a ∧ H a = some (.ins C dx fs) ∧ Rgt C H y ∧ sp [x, y] H Q E
structure OpS (K : PySem.W.Frag) (C : Addr) (nm : String) : Prop where
  r : ∃ rc, PySem.W.findIn K (.ref C) (dunderR nm) = some rc ∧ (rc = none ∨ ∃ g : Addr, rc = some (.ref g))
  l1 : ∃ fo, PySem.W.findIn K (.type "int") (PySem.dunder nm) = some fo
  l2 : ∃ ro, PySem.W.findIn K (.type "int") (dunderR nm) = some ro
theorem b1_any {nm : String} {a dx : Addr} {fs : List (Str × V)} {y : V} {u : Value} {Q : VK} (o : OC X.K C) (os : OpS X.K C nm) (M : Mth X.prog X.w X.K X.mg X.base k C (PySem.dunder nm) ps sp) (hr : Room k X.A) (hx : Passes (L2.CX X.prog X.w) X E) (I : Inv X pins σ H s)
    (h : H a = some (.ins C dx fs)) (hy : Rgt C H y) (ry : RelV y u) (q : sp [.ref a, y] H Q E) : wpAny (model X.prog X.w) X.A (binaryOp1 nm (.ref a) u) (fun r s' => ∃ v, r = some v ∧ EP X pins σ Q v s') X.xe s := by
  obtain ⟨f, fd, h1, h2, hb, F⟩ := M
  obtain ⟨⟨od, J⟩, _⟩ := inst_of I h
  have run := run_own F hr I.env0 hb hx I (vs := [.ref a, y]) (us := [.ref a, u]) (.cons rfl (.cons ry .nil)) q
  have back : wpAny (model X.prog X.w) X.A (call (.ref f) [.ref a, u]) (PySem.W.CmpBack (EP X pins σ Q)) X.xe s := wpAny_mono run (fun v s' z => by
    obtain ⟨z', H', I', rz, qz⟩ := z
    exact SlX.cmpback rz ⟨z', H', I', rz, qz⟩) fun _ _ e => e
  rcases hy with ⟨i, rfl⟩ | ⟨b, dy, gs, rfl, hb2⟩
  · obtain ⟨t, rfl⟩ := (show ∃ t, u = Value.int i t from ry)
    obtain ⟨rc, r1, r2⟩ := os.r
    obtain ⟨fo, l1⟩ := os.l1
    obtain ⟨ro, l2⟩ := os.l2
    exact PySem.OZO.b1_T I.kIn J rfl o.sf h1 h2 r1 r2 l1 l2 o.i1 back
  · cases (show u = Value.ref b from ry)
    obtain ⟨⟨od2, J2⟩, _⟩ := inst_of I hb2
    exact PySem.OZO.b1_same I.kIn J J2 o.sf h1 h2 back
theorem o_bin {op : Operator} (o : OC X.K C) (os : OpS X.K C op.info.2) (M : Mth X.prog X.w X.K X.mg X.base k C (PySem.dunder op.info.2) ps sp) (hr : Room k X.A) (hx : Passes (L2.CX X.prog X.w) X E) : OpR X (binaryOp op) (rBin C sp E) := by
  intro pins s σ H x y v u Q I rx ry h
  obtain ⟨a, dx, fs, rfl, ha, hy, q⟩ := h
  cases (show v = Value.ref a from rx)
  have one := b1_any o os M hr hx I ha hy ry q
  unfold binaryOp
  apply wpAny_holding
  rcases hi : op.info with ⟨sym, nm⟩
  rw [hi] at one
  apply wpAny_bind
  apply wpAny_mono one ?_ fun _ _ e => e
  rintro r s' ⟨v, rfl, qv⟩
  exact wpAny_pure qv
theorem o_ibin {op : Operator} (o : OC X.K C) (os : OpS X.K C op.info.2) (hm : ∃ cd, PySem.W.clsIn X.K C = some cd ∧ cd.mro = [.ref C, .type "object"]) (n1 : PySem.W.findIn X.K (.ref C) (dunderI op.info.2) = some none) (n2 : PySem.W.findIn X.K (.type "object") (dunderI op.info.2) = some none)
    (M : Mth X.prog X.w X.K X.mg X.base k C (PySem.dunder op.info.2) ps sp) (hr : Room k X.A) (hx : Passes (L2.CX X.prog X.w) X E) : OpR X (inplaceOp op) (rBin C sp E) := by
  intro pins s σ H x y v u Q I rx ry h
  obtain ⟨a, dx, fs, rfl, ha, hy, q⟩ := h
  cases (show v = Value.ref a from rx)
  have one := b1_any o os M hr hx I ha hy ry q
  obtain ⟨⟨od, J⟩, _⟩ := inst_of I ha
  obtain ⟨cd, hc, hm⟩ := hm
  unfold inplaceOp
  apply wpAny_holding
  dsimp only
  refine wpAny_bind (J.type.here ?_)
  refine wpAny_bind ((PySem.OZO.fillsI_no I.kIn hc hm n1 n2).here ?_)
  simp only [Bool.false_eq_true, if_false]
  apply wpAny_bind
  apply wpAny_mono one ?_ fun _ _ e => e
  rintro r s' ⟨v, rfl, qv⟩
  exact wpAny_pure qv
def rRBin (C : Addr) (sp : Sp) (E : XK) : R2 := fun x y H Q => ∃ i a dx fs, x = .int i ∧ y = .ref a ∧ H a = some (.ins C dx fs) ∧ sp [y, x] H Q E
structure IntOp (op : Operator) (id : String) (B : Builtin) : Prop where
  slot : Slot "int" (PySem.dunder op.info.2) id
  entry : entryFor table id = some B
  args : ∀ a b : Value, argsOk id ⟨[a, b], []⟩
  dec : ∀ (i : Int) (t : Tok) (x C dx : Addr), PySem.OZO.Decl i t x C dx B
  ns : isSeqSlot (some (.builtin id)) = false
theorem io_add : IntOp .Add "int.__add__" Builtin.«int.__add__» := ⟨F.slot_int_add, F.entry_int_add, F.args_int_add_2, PySem.OZO.d_add, by decide +kernel⟩
theorem io_sub : IntOp .Sub "int.__sub__" Builtin.«int.__sub__» := ⟨F.slot_int_sub, F.entry_int_sub, F.args_int_sub_2, PySem.OZO.d_sub, by decide +kernel⟩
theorem io_mul : IntOp .Mult "int.__mul__" Builtin.«int.__mul__» := ⟨F.slot_int_mul, F.entry_int_mul, F.args_int_mul_2, PySem.OZO.d_mul, by decide +kernel⟩
theorem io_fdiv : IntOp .FloorDiv "int.__floordiv__" Builtin.«int.__floordiv__» := ⟨F.slot_int_floordiv, F.entry_int_floordiv, F.args_int_floordiv_2, PySem.OZO.d_fdiv, by decide +kernel⟩
theorem io_mod : IntOp .Mod "int.__mod__" Builtin.«int.__mod__» := ⟨F.slot_int_mod, F.entry_int_mod, F.args_int_mod_2, PySem.OZO.d_mod, by decide +kernel⟩
theorem o_rbin {op : Operator} {id : String} {B : Builtin} (io : IntOp op id B) (o : OC X.K C) (hl : ∃ g : Addr, PySem.W.findIn X.K (.ref C) (PySem.dunder op.info.2) = some (some (.ref g))) (hi : PySem.W.findIn X.K (.type "int") (PySem.dunder op.info.2) = some (some (.builtin id))) (hi2 : ∃ ro, PySem.W.findIn X.K (.type "int") (dunderR op.info.2) = some ro)
    (M : Mth X.prog X.w X.K X.mg X.base k C (dunderR op.info.2) ps sp) (hr : Room k X.A) (hx : Passes (L2.CX X.prog X.w) X E) : OpR X (binaryOp op) (rRBin C sp E) := by
  intro pins s σ H x y v u Q I rx ry h
  obtain ⟨i, a, dx, fs, rfl, rfl, ha, q⟩ := h
  obtain ⟨t, rfl⟩ := (show ∃ t, v = Value.int i t from rx)
  cases (show u = Value.ref a from ry)
  obtain ⟨f, fd, h1, h2, hb, F⟩ := M
  obtain ⟨⟨od, J⟩, hg⟩ := inst_of I ha
  obtain ⟨g, hl⟩ := hl
  obtain ⟨ro, hi2⟩ := hi2
  have run := run_own F hr I.env0 hb hx I (vs := [.ref a, .int i]) (us := [.ref a, .int i t]) (.cons rfl (.cons ⟨t, rfl⟩ .nil)) q
  have back : wpAny (model X.prog X.w) X.A (call (.ref f) [.ref a, .int i t]) (PySem.W.CmpBack (EP X pins σ Q)) X.xe s := wpAny_mono run (fun v s' z => by
    obtain ⟨z', H', I', rz, qz⟩ := z
    exact SlX.cmpback rz ⟨z', H', I', rz, qz⟩) fun _ _ e => e
  have one := PySem.OZO.b1_R I.kIn J o.sf h1 h2 hl ⟨g, rfl⟩ hi hi2 io.ns o.i2 io.slot (fun Q' q' => PySem.OZO.int_no io.slot io.entry (io.args _ _) (io.dec _ _ _ _ _) hg q') back
  unfold binaryOp
  apply wpAny_holding
  rcases hinf : op.info with ⟨sym, nm⟩
  rw [hinf] at one
  apply wpAny_bind
  apply wpAny_mono one ?_ fun _ _ e => e
  rintro r s' ⟨v, rfl, qv⟩
  exact wpAny_pure qv
def rCmp (K : PySem.W.Frag) (C : Addr) (sp : Sp) (E : XK) : R2 := fun x y H Q => ∃ a dx fs t, x = .ref a ∧ H a = some (.ins C dx fs) ∧ TyX K H y t ∧ PySem.W.notFirst K C t = true ∧ sp [x, y] H Q E
theorem o_cmp {op : CmpOp} (hop : ∀ a b, compareOp op a b = richCompare op a b) (M : Mth X.prog X.w X.K X.mg X.base k C (cmpInfo op).2.1 ps sp) (hr : Room k X.A) (hx : Passes (L2.CX X.prog X.w) X E) : OpR X (compareOp op) (rCmp X.K C sp E) := by
  intro pins s σ H x y v u Q I rx ry h
  obtain ⟨a, dx, fs, t, rfl, ha, ty, hn, q⟩ := h
  cases (show v = Value.ref a from rx)
  obtain ⟨f, fd, h1, h2, hb, F⟩ := M
  obtain ⟨⟨od, J⟩, _⟩ := inst_of I ha
  obtain ⟨m, hF⟩ := I.fr
  have run := run_own F hr I.env0 hb hx I (vs := [.ref a, y]) (us := [.ref a, u]) (.cons rfl (.cons ry .nil)) q
  rw [hop]
  apply PySem.W.cmp_K (op := op) (tb := t) hr.units0 hF I.ok.mod.kin J (ty_looks I ry ty) hn h1 h2
  apply wpAny_mono run ?_ fun _ _ e => e
  rintro v s' ⟨z', H', I', rz, qz⟩
  exact SlX.cmpback rz ⟨z', H', I', rz, qz⟩
def rNeOwn (K : PySem.W.Frag) (C : Addr) (sp : Sp) (E : XK) : R2 := fun x y H Q => ∃ a dx fs t, x = .ref a ∧ H a = some (.ins C dx fs) ∧ TyX K H y t ∧ PySem.W.notFirst K C t = true ∧ sp [x, y] H (fun z H' => ∃ r, z = .bl r ∧ Q (.bl (!r)) H') E
theorem o_neOwn (o : OC X.K C) (hne : PySem.W.findIn X.K (.ref C) "__ne__" = some (some (.builtin "object.__ne__"))) (M : Mth X.prog X.w X.K X.mg X.base k C "__eq__" ps sp) (hr : Room (k + 1) X.A) (hx : Passes (L2.CX X.prog X.w) X E) : OpR X (compareOp .NotEq) (rNeOwn X.K C sp E) := by
  intro pins s σ H x y v u Q I rx ry h
  obtain ⟨a, dx, fs, t, rfl, ha, ty, hn, q⟩ := h
  cases (show v = Value.ref a from rx)
  obtain ⟨f, fd, h1, h2, hb, F⟩ := M
  obtain ⟨⟨od, J⟩, _⟩ := inst_of I ha
  have run := run_own (A := X.A.in1) F hr.in1 I.env0.in1 hb hx I (vs := [.ref a, y]) (us := [.ref a, u]) (.cons rfl (.cons ry .nil)) q
  have hu : X.A.units + 1 < cLine := by have := hr.units; omega
  show wpAny _ _ (richCompare .NotEq _ _) _ _ _
  apply PySem.OZO.ne_own (tb := t) hu I.kIn J (ty_looks I ry ty) hn hne o.mo h1 h2
  apply wpAny_mono run ?_ fun _ _ e => e
  rintro v s' ⟨z', H', I', rz, r, rfl, qz⟩
  cases (show v = Value.bool r from rz)
  exact ⟨r, rfl, .bl (!r), H', I', rfl, qz⟩
def rRCmp (C : Addr) (sp : Sp) (E : XK) : R2 := fun x y H Q => ∃ i a dx fs, x = .int i ∧ y = .ref a ∧ H a = some (.ins C dx fs) ∧ sp [y, x] H Q E
structure IntCmp (op : CmpOp) (id : String) (B : Builtin) : Prop where
  slot : Slot "int" (cmpInfo op).2.1 id
  entry : entryFor table id = some B
  args : ∀ a b : Value, argsOk id ⟨[a, b], []⟩
  dec : ∀ (i : Int) (t : Tok) (x C dx : Addr), PySem.OZO.Decl i t x C dx B
theorem ic_lt : IntCmp .Lt "int.__lt__" Builtin.«int.__lt__» := ⟨F.slot_int_lt, F.entry_int_lt, F.args_int_lt_2, PySem.OZO.d_lt⟩
theorem ic_le : IntCmp .LtE "int.__le__" Builtin.«int.__le__» := ⟨F.slot_int_le, F.entry_int_le, F.args_int_le_2, PySem.OZO.d_le⟩
theorem ic_gt : IntCmp .Gt "int.__gt__" Builtin.«int.__gt__» := ⟨F.slot_int_gt, F.entry_int_gt, F.args_int_gt_2, PySem.OZO.d_gt⟩
theorem ic_ge : IntCmp .GtE "int.__ge__" Builtin.«int.__ge__» := ⟨F.slot_int_ge, F.entry_int_ge, F.args_int_ge_2, PySem.OZO.d_ge⟩
theorem ic_eq : IntCmp .Eq "int.__eq__" Builtin.«int.__eq__» := ⟨F.slot_int_eq, F.entry_int_eq, F.args_int_eq_2, PySem.OZO.d_eq⟩
theorem o_rcmp {op : CmpOp} {id : String} {B : Builtin} (ic : IntCmp op id B) (hop : ∀ a b, compareOp op a b = richCompare op a b) (o : OC X.K C) (M : Mth X.prog X.w X.K X.mg X.base k C (cmpInfo op).2.2 ps sp) (hr : Room k X.A) (hx : Passes (L2.CX X.prog X.w) X E) : OpR X (compareOp op) (rRCmp C sp E) := by
  intro pins s σ H x y v u Q I rx ry h
  obtain ⟨i, a, dx, fs, rfl, rfl, ha, q⟩ := h
  obtain ⟨t, rfl⟩ := (show ∃ t, v = Value.int i t from rx)
  cases (show u = Value.ref a from ry)
  obtain ⟨f, fd, h1, h2, hb, F⟩ := M
  obtain ⟨⟨od, J⟩, hg⟩ := inst_of I ha
  have run := run_own F hr I.env0 hb hx I (vs := [.ref a, .int i]) (us := [.ref a, .int i t]) (.cons rfl (.cons ⟨t, rfl⟩ .nil)) q
  rw [hop]
  apply PySem.OZO.cmp_R hr.units0 I.kIn J o.i2 ic.slot h1 h2 (fun Q' q' => PySem.OZO.int_no ic.slot ic.entry (ic.args _ _) (ic.dec _ _ _ _ _) hg q')
  apply wpAny_mono run ?_ fun _ _ e => e
  rintro v s' ⟨z', H', I', rz, qz⟩
  exact SlX.cmpback rz ⟨z', H', I', rz, qz⟩
def rUn (C : Addr) (sp : Sp) (E : XK) : V → Hp → VK → Prop := fun x H Q => ∃ a dx fs, x = .ref a ∧ H a = some (.ins C dx fs) ∧ sp [x] H Q E
theorem o_neg (M : Mth X.prog X.w X.K X.mg X.base k C "__neg__" ps sp) (hr : Room k X.A) (hx : Passes (L2.CX X.prog X.w) X E) : UnR X (unaryOp .USub) (rUn C sp E) := by
  intro pins s σ H x v Q I rx h
  obtain ⟨a, dx, fs, rfl, ha, q⟩ := h
  cases (show v = Value.ref a from rx)
  obtain ⟨f, fd, h1, h2, hb, F⟩ := M
  obtain ⟨⟨od, J⟩, hg⟩ := inst_of I ha
  obtain ⟨m, hF⟩ := I.fr
  exact PySem.W.ksp_neg hF I.ok.mod.kin J h1 h2 (run_own F hr I.env0 hb hx I (vs := [.ref a]) (us := [.ref a]) (.cons rfl .nil) q)
def rUn1 (C : Addr) (sp : Sp) (E : XK) : List V → Hp → VK → Prop := fun xs H Q => ∃ a dx fs, xs = [.ref a] ∧ H a = some (.ins C dx fs) ∧ sp [.ref a] H Q E
theorem c_absO (M : Mth X.prog X.w X.K X.mg X.base k C "__abs__" ps sp) (hr : Room (k + 1) X.A) (hx : Passes (L2.CX X.prog X.w) X E) : CallR X (.builtin "abs") (rUn1 C sp E) := by
  intro pins s σ H xs us Q I r h
  obtain ⟨a, dx, fs, rfl, ha, q⟩ := h
  obtain ⟨u, rfl, ru⟩ := vals1 r
  cases (show u = Value.ref a from ru)
  obtain ⟨f, fd, h1, h2, hb, F⟩ := M
  obtain ⟨⟨od, J⟩, hg⟩ := inst_of I ha
  exact PySem.OZO.abs_own I.kIn J h1 h2 (run_own (A := X.A.in1) F hr.in1 I.env0.in1 hb hx I (vs := [.ref a]) (us := [.ref a]) (.cons rfl .nil) q)
def rBoolO (C : Addr) (sp : Sp) (E : XK) : List V → Hp → VK → Prop := fun xs H Q => ∃ a dx fs, xs = [.ref a] ∧ H a = some (.ins C dx fs) ∧ sp [.ref a] H (fun z H' => ∃ r, z = .bl r ∧ Q (.bl r) H') E
theorem c_boolO (M : Mth X.prog X.w X.K X.mg X.base k C "__bool__" ps sp) (hr : Room (k + 2) X.A) (hx : Passes (L2.CX X.prog X.w) X E) : CallR X (.type "bool") (rBoolO C sp E) := by
  intro pins s σ H xs us Q I r h
  obtain ⟨a, dx, fs, rfl, ha, q⟩ := h
  obtain ⟨u, rfl, ru⟩ := vals1 r
  cases (show u = Value.ref a from ru)
  obtain ⟨f, fd, h1, h2, hb, F⟩ := M
  obtain ⟨⟨od, J⟩, hg⟩ := inst_of I ha
  have hr2 : Room k X.A.in1.in1 := (show Room (k + 1) X.A.in1 from Room.in1 hr).in1
  apply PySem.OZO.bool_own I.kIn J h1 h2
  apply wpAny_mono (run_own (A := X.A.in1.in1) F hr2 I.env0.in1.in1 hb hx I (vs := [.ref a]) (us := [.ref a]) (.cons rfl .nil) q) ?_ fun _ _ e => e
  rintro v s' ⟨z', H', I', rz, r, rfl, qz⟩
  cases (show v = Value.bool r from rz)
  exact ⟨r, rfl, .bl r, H', I', rfl, qz⟩
def rTru (C : Addr) (sp : Sp) (E : XK) : V → Hp → (Bool → Hp → Prop) → Prop := fun x H Q => ∃ a dx fs, x = .ref a ∧ H a = some (.ins C dx fs) ∧ sp [.ref a] H (fun z H' => ∃ r, z = .bl r ∧ Q r H') E
theorem o_tru (M : Mth X.prog X.w X.K X.mg X.base k C "__bool__" ps sp) (hr : Room k X.A) (hx : Passes (L2.CX X.prog X.w) X E) : TruR X (rTru C sp E) := by
  intro pins s σ H x v Q I rx h
  obtain ⟨a, dx, fs, rfl, ha, q⟩ := h
  cases (show v = Value.ref a from rx)
  obtain ⟨f, fd, h1, h2, hb, F⟩ := M
  obtain ⟨⟨od, J⟩, hg⟩ := inst_of I ha
  obtain ⟨m, hF⟩ := I.fr
  apply PySem.W.truthy_K hF I.ok.mod.kin J h1 h2
  apply wpAny_mono (run_own F hr I.env0 hb hx I (vs := [.ref a]) (us := [.ref a]) (.cons rfl .nil) q) ?_ fun _ _ e => e
  rintro v s' ⟨z', H', I', rz, r, rfl, qz⟩
  cases (show v = Value.bool r from rz)
  exact ⟨H', I', qz⟩
end
end OZ
set_option maxRecDepth 100000
namespace OZ
def sgn (b : Int) : Int := if 0 < b then 1 else -1
def iabs (b : Int) : Int := if b < 0 then -b else b
def lowT (t b : Int) : Int := sgn b * t / (Int.gcd t b : Int)
def lowB (t b : Int) : Int := iabs b / (Int.gcd t b : Int)
theorem iabs_eq (b : Int) : iabs b = sgn b * b ∨ b = 0 := by
  unfold iabs sgn
  by_cases h : b < 0
  · left; rw [if_pos h, if_neg (by omega)]; omega
  · by_cases h2 : b = 0
    · right; exact h2
    · left; rw [if_neg h, if_pos (by omega)]; omega
theorem iabs_nn (b : Int) : 0 ≤ iabs b := by unfold iabs; split <;> omega
theorem iabs_pos {b : Int} (h : b ≠ 0) : 0 < iabs b := by unfold iabs; split <;> omega
theorem iabs_nat (b : Int) : iabs b = (b.natAbs : Int) := by unfold iabs; split <;> omega
theorem gcd_iabs (t b : Int) : Int.gcd (iabs t) (iabs b) = Int.gcd t b := by rw [iabs_nat, iabs_nat]; simp [Int.gcd]
theorem sgn_sq (b : Int) : sgn b * sgn b = 1 := by unfold sgn; split <;> rfl
theorem sgn_cases (b : Int) : sgn b = 1 ∨ sgn b = -1 := by unfold sgn; split <;> simp
theorem gpos {t b : Int} (h : b ≠ 0) : (0 : Int) < (Int.gcd t b : Int) := by
  have := Int.gcd_pos_of_ne_zero_right t h
  omega
theorem gdvd_l (t b : Int) : (Int.gcd t b : Int) ∣ sgn b * t := Int.dvd_trans (Int.gcd_dvd_left t b) (Int.dvd_mul_left _ _)
theorem gdvd_r (t b : Int) : (Int.gcd t b : Int) ∣ iabs b := by
  rw [iabs_nat]
  exact Int.ofNat_dvd.mpr (Int.gcd_dvd_natAbs_right t b)
theorem lowT_mul {t b : Int} (h : b ≠ 0) : lowT t b * (Int.gcd t b : Int) = sgn b * t := Int.ediv_mul_cancel (gdvd_l t b)
theorem lowB_mul {t b : Int} (h : b ≠ 0) : lowB t b * (Int.gcd t b : Int) = iabs b := Int.ediv_mul_cancel (gdvd_r t b)
theorem lowB_pos {t b : Int} (h : b ≠ 0) : 0 < lowB t b := by
  have e := lowB_mul (t := t) h
  have g := gpos (t := t) h
  have i := iabs_pos h
  refine Int.lt_of_not_ge fun z => ?_
  have : lowB t b * (Int.gcd t b : Int) ≤ 0 := Int.mul_nonpos_of_nonpos_of_nonneg z (by omega)
  omega
theorem low_cross {t b : Int} (h : b ≠ 0) : lowT t b * b = t * lowB t b := by
  have e1 := lowT_mul (t := t) h
  have e2 := lowB_mul (t := t) h
  have g := gpos (t := t) h
  have i : iabs b = sgn b * b := (iabs_eq b).resolve_right h
  apply Int.eq_of_mul_eq_mul_right (show (Int.gcd t b : Int) ≠ 0 by omega)
  calc lowT t b * b * (Int.gcd t b : Int) = (lowT t b * (Int.gcd t b : Int)) * b := by rw [Int.mul_assoc, Int.mul_comm b, ← Int.mul_assoc]
    _ = sgn b * t * b := by rw [e1]
    _ = t * (sgn b * b) := by rw [Int.mul_comm (sgn b) t, Int.mul_assoc]
    _ = t * (lowB t b * (Int.gcd t b : Int)) := by rw [e2, i]
    _ = t * lowB t b * (Int.gcd t b : Int) := by rw [Int.mul_assoc]
theorem low_gcd {t b : Int} (h : b ≠ 0) : Int.gcd (lowT t b) (lowB t b) = 1 := by
  have e1 := lowT_mul (t := t) h
  have e2 := lowB_mul (t := t) h
  have g := Int.gcd_pos_of_ne_zero_right t h
  have e := Int.gcd_mul_right (lowT t b) (Int.gcd t b : Int) (lowB t b)
  rw [e1, e2] at e
  have e3 : Int.gcd (sgn b * t) (iabs b) = Int.gcd t b := by
    rcases sgn_cases b with z | z
    · rw [z, Int.one_mul, iabs_nat]; simp [Int.gcd]
    · rw [z, Int.neg_mul, Int.one_mul, iabs_nat]; simp [Int.gcd]
  rw [e3] at e
  have e4 : (Int.gcd t b : Int).natAbs = Int.gcd t b := by omega
  rw [e4] at e
  exact Nat.eq_of_mul_eq_mul_right g (by rw [Nat.one_mul]; exact e.symm)
structure Nf (t b : Int) : Prop where
  pos : 0 < b
  gcd : Int.gcd t b = 1
theorem low_nf {t b : Int} (h : b ≠ 0) : Nf (lowT t b) (lowB t b) := ⟨lowB_pos h, low_gcd h⟩
theorem dvd_cop {a b c : Int} (h : a ∣ b * c) (g : Int.gcd b a = 1) : a ∣ c := by
  have h1 : a.natAbs ∣ b.natAbs * c.natAbs := by rw [← Int.natAbs_mul]; exact Int.natAbs_dvd_natAbs.mpr h
  have h2 : Nat.Coprime a.natAbs b.natAbs := by
    have : Nat.gcd b.natAbs a.natAbs = 1 := g
    rw [Nat.Coprime, Nat.gcd_comm]; exact this
  exact Int.natAbs_dvd_natAbs.mp (h2.dvd_of_dvd_mul_left h1)
theorem nf_inj {t b u d : Int} (h1 : Nf t b) (h2 : Nf u d) (e : t * d = u * b) : t = u ∧ b = d := by
  have p1 := h1.pos
  have p2 := h2.pos
  have d1 : b ∣ d := dvd_cop (b := t) (c := d) ⟨u, by rw [e, Int.mul_comm]⟩ h1.gcd
  have d2 : d ∣ b := dvd_cop (b := u) (c := b) ⟨t, by rw [← e, Int.mul_comm]⟩ h2.gcd
  have eb : b = d := Int.dvd_antisymm (by omega) (by omega) d1 d2
  subst eb
  exact ⟨Int.eq_of_mul_eq_mul_right (by omega) e, rfl⟩
theorem low_of {t b u d : Int} (hb : b ≠ 0) (h : Nf u d) (e : t * d = u * b) : lowT t b = u ∧ lowB t b = d := by
  apply nf_inj (low_nf hb) h
  have c := low_cross (t := t) hb
  have p := h.pos
  apply Int.eq_of_mul_eq_mul_right hb
  calc lowT t b * d * b = (lowT t b * b) * d := by rw [Int.mul_assoc, Int.mul_comm d, ← Int.mul_assoc]
    _ = t * lowB t b * d := by rw [c]
    _ = (t * d) * lowB t b := by rw [Int.mul_assoc, Int.mul_comm (lowB t b), ← Int.mul_assoc]
    _ = u * b * lowB t b := by rw [e]
    _ = u * lowB t b * b := by rw [Int.mul_assoc, Int.mul_comm b, ← Int.mul_assoc]
theorem low_congr {t b u d : Int} (hb : b ≠ 0) (hd : d ≠ 0) (e : t * d = u * b) : lowT t b = lowT u d ∧ lowB t b = lowB u d := by
  apply low_of hb (low_nf hd)
  have c := low_cross (t := u) hd
  apply Int.eq_of_mul_eq_mul_right hd
  calc t * lowB u d * d = (t * d) * lowB u d := by rw [Int.mul_assoc, Int.mul_comm (lowB u d), ← Int.mul_assoc]
    _ = u * b * lowB u d := by rw [e]
    _ = (u * lowB u d) * b := by rw [Int.mul_assoc, Int.mul_comm b, ← Int.mul_assoc]
    _ = lowT u d * d * b := by rw [c]
    _ = lowT u d * b * d := by rw [Int.mul_assoc, Int.mul_comm d, ← Int.mul_assoc]
theorem low_self {t b : Int} (h : Nf t b) : lowT t b = t ∧ lowB t b = b := low_of (by have := h.pos; omega) h rfl
theorem low_le {t b : Int} (h : b ≠ 0) : (lowT t b).natAbs ≤ t.natAbs ∧ (lowB t b).natAbs ≤ b.natAbs := by
  have g := Int.gcd_pos_of_ne_zero_right t h
  have e1 := congrArg Int.natAbs (lowT_mul (t := t) h)
  have e2 := congrArg Int.natAbs (lowB_mul (t := t) h)
  rw [Int.natAbs_mul] at e1 e2
  have e4 : (Int.gcd t b : Int).natAbs = Int.gcd t b := by omega
  rw [e4] at e1 e2
  have e5 : (sgn b * t).natAbs = t.natAbs := by
    rcases sgn_cases b with z | z
    · rw [z, Int.one_mul]
    · rw [z, Int.neg_mul, Int.one_mul, Int.natAbs_neg]
  have e6 : (iabs b).natAbs = b.natAbs := by rw [iabs_nat]; omega
  rw [e5] at e1
  rw [e6] at e2
  exact ⟨by rw [← e1]; exact Nat.le_mul_of_pos_right _ g, by rw [← e2]; exact Nat.le_mul_of_pos_right _ g⟩
theorem nf_int (i : Int) : Nf i 1 := ⟨by decide, Int.gcd_one⟩
theorem nf_neg {t b : Int} (h : Nf t b) : Nf (-t) b := ⟨h.pos, by rw [Int.neg_gcd]; exact h.gcd⟩
theorem nf_iabs {t b : Int} (h : Nf t b) : Nf (iabs t) b := by
  unfold iabs
  split
  · exact nf_neg h
  · exact h
end OZ
set_option maxRecDepth 100000
set_option maxHeartbeats 1000000
namespace OZ
open PySem PySem.Spec PyProof.Rows L2
theorem pe_dead {X : Cx} {e : Expr} : PE X e (fun _ _ _ => False) := ⟨fun _ _ _ _ _ _ h => h.elim⟩
theorem ps_dead {X : Cx} {st : Stmt} : PS X st (fun _ _ _ => False) := ⟨fun _ _ _ _ _ _ h => h.elim⟩
def Stc (P : Program) (w : World) (K : PySem.W.Frag) (mg : Str → Option Value) (base : Heap) (k : Nat) (C : Addr) (m : Str) (ps : List Str) (sp : Sp) : Prop :=
  ClX.CRead K C (.type "type") ∧ ∃ (p g : Addr) (fd : FuncData) (rest : List Value), PySem.W.findCls K (.ref C) (.type "type") m = some (.get (.builtin "staticmethod.__get__") (.ref p) .none (.ref C)) ∧
    PySem.W.recIn K p "staticmethod" = some (.ref g :: rest) ∧ PySem.W.keepIn K (.ref g) = true ∧ Binds K fd ps [] ∧ FnOk P w K mg base (L2.CX P w) k g fd ps sp
def StcK (P : Program) (w : World) (K : PySem.W.Frag) (mg : Str → Option Value) (base : Heap) (k : Nat) (C : Addr) (m : Str) (ps ks : List Str) (gV : List V → List V → List V) (sp : Sp) : Prop :=
  ClX.CRead K C (.type "type") ∧ ∃ (p g : Addr) (fd : FuncData) (rest : List Value) (gU : List Value → List Value → List Value), PySem.W.findCls K (.ref C) (.type "type") m = some (.get (.builtin "staticmethod.__get__") (.ref p) .none (.ref C)) ∧
    PySem.W.recIn K p "staticmethod" = some (.ref g :: rest) ∧ PySem.W.keepIn K (.ref g) = true ∧ KBn K fd ps 0 ks gU gV ∧ FnOk P w K mg base (L2.CX P w) k g fd ps sp
def tSM (C : Addr) (sp : Sp) (E : L2.St → XK) (ta : TE) (t : TA) : TE := fun σ H Q => ta σ H fun x H1 => x = .ref C ∧ t σ H1 fun vs H2 => sp vs H2 Q (E σ)
def tSMK (C : Addr) (n : Nat) (sp : Sp) (gV : List V → List V → List V) (E : L2.St → XK) (ta : TE) (t : TA) : TE := fun σ H Q => ta σ H fun x H1 => x = .ref C ∧ t σ H1 fun zs H2 => zs.length = n ∧ sp (gV [] zs) H2 Q (E σ)
section
variable {X : Cx} {k : Nat} {C : Addr} {m : Str} {ps ks : List Str} {gV : List V → List V → List V} {sp : Sp} {E : L2.St → XK} {o e : Expr} {es : List Expr} {kws : List Keyword} {ta : TE} {t : TA} {apos pos : Pos} {pl : Sem Bool}
theorem getsm {pins : List (Addr × Obj)} {σ : L2.St} {H : Hp} {s : Shared} {p g : Addr} {rest : List Value} {Q : Value × List Value → Shared → Prop} (I : Inv X pins σ H s) (r : ClX.CRead X.K C (.type "type")) (h1 : PySem.W.findCls X.K (.ref C) (.type "type") m = some (.get (.builtin "staticmethod.__get__") (.ref p) .none (.ref C)))
    (h2 : PySem.W.recIn X.K p "staticmethod" = some (.ref g :: rest)) (h : ∀ s', Inv X pins σ H s' → Q (.ref g, []) s') : wpAny (model X.prog X.w) X.A (getMethod (.ref C) m pl) Q X.xe s := by
  apply PySem.W.method_cls I.kIn r.ga
  apply PySem.W.cls_bind I.kIn r.rd h1
  apply wpAny_call
  refine PySem.W.sm_get (s := { s with toks := s.toks + 1 }) I.kIn h2 (PySem.W.handed_on rfl ?_)
  exact h _ (I.tok _)
theorem pe_sm (M : Stc X.prog X.w X.K X.mg X.base k C m ps sp) (hr : Room k X.A) (hx : ∀ σ, PassesAt (L2.CX X.prog X.w) X σ (E σ)) (he : PE X o ta) (ha : PA X (e :: es) t) (hst : starEach (e :: es) X.env = (false, eval e X.env) :: starEach es X.env := by rfl) (hpl : (backTo pos (starEach es X.env)).any (·.1) = false := by rfl)
    (ht : eval (.Call (.Attribute o m apos) (e :: es) [] pos) X.env = (do
      let ov ← eval o X.env
      standAt apos.atName
      let (f, first) ← holding [ov] (getMethod ov m pl)
      callWith pos f first (backTo pos (starEach (e :: es) X.env)) (backToKw pos (keywordEach [] X.env))) := by rfl) : PE X (.Call (.Attribute o m apos) (e :: es) [] pos) (tSM C sp E ta t) := by
  obtain ⟨r, p, g, fd, rest, h1, h2, hk, hb, G⟩ := M
  constructor
  intro pins s σ H Q I h
  refine PySem.W.methodCall_KW (pl := pl) (thn (he.run pins s σ H _ I h) ?_) ht
  rintro u s1 ⟨x, H1, I1, rx, ex, q⟩
  subst ex
  cases (show u = Value.ref C from rx)
  apply getsm I1 r h1 h2
  intro s2 I2
  refine PySem.W.callWith_K (h₀ := X.base) I2.ok.mod.kin hk (thn (ha.run pos pins s2 σ H1 _ I2 q) ?_) hst hpl
  rintro us s3 ⟨vs, H2, I3, rv, q2⟩
  exact ⟨I3.kIn, run_fnS G hr hb (hx σ) I3 rv q2⟩
theorem pe_smK (M : StcK X.prog X.w X.K X.mg X.base k C m ps ks gV sp) (hr : Room k X.A) (hx : ∀ σ, PassesAt (L2.CX X.prog X.w) X σ (E σ)) (he : PE X o ta) (hkw : PK X kws t)
    (hall : (backToKw pos (keywordEach kws X.env)).all (·.1.isSome) = true := by rfl) (hks : (backToKw pos (keywordEach kws X.env)).filterMap (·.1) = ks := by rfl)
    (hpl : ((backTo pos (starEach [] X.env)).any (·.1) || (backToKw pos (keywordEach kws X.env)).any (·.1.isNone)) = false := by rfl)
    (ht : eval (.Call (.Attribute o m apos) [] kws pos) X.env = (do
      let ov ← eval o X.env
      standAt apos.atName
      let (f, first) ← holding [ov] (getMethod ov m pl)
      callWith pos f first (backTo pos (starEach [] X.env)) (backToKw pos (keywordEach kws X.env))) := by rfl) : PE X (.Call (.Attribute o m apos) [] kws pos) (tSMK C ks.length sp gV E ta t) := by
  obtain ⟨r, p, g, fd, rest, gU, h1, h2, hk, hb, G⟩ := M
  constructor
  intro pins s σ H Q I h
  refine PySem.W.methodCall_KW (pl := pl) (thn (he.run pins s σ H _ I h) ?_) ht
  rintro u s1 ⟨x, H1, I1, rx, ex, q⟩
  subst ex
  cases (show u = Value.ref C from rx)
  apply getsm I1 r h1 h2
  intro s2 I2
  apply PySem.W.callWith_KW0 (h₀ := X.base) I2.ok.mod.kin hk hall ?_ hpl
  apply thn (hkw.run pos pins s2 σ H1 _ I2 q)
  rintro ws s3 ⟨zs, H2, I3, rz, l2, q2⟩
  refine ⟨I3.kIn, ?_⟩
  rw [hks]
  show wpAny (model X.prog X.w) X.A (call (.ref g) [] (ks.zip ws)) _ _ _
  apply wpAny_call
  apply codeAny_mono (G.run X.A X.stack s3 H2 ⟨[], ks.zip ws⟩ _ _ Q (E σ) hr I3.env0 (hb.to s3 [] ws I3.kIn rfl (rz.length.symm.trans l2)) (hb.rel (vs := []) (us := []) .nil rz) q2)
  intro r s' z
  cases r with
  | error e => exact hx σ pins H2 s3 e s' I3 z
  | ok fl =>
    cases fl with
    | ret u => exact I3.after z
    | next => exact z.elim
    | brk => exact z.elim
    | cont => exact z.elim
end
def isIV : V → Bool
  | .int _ => true
  | _ => false
def KdV (K : PySem.W.Frag) (H : Hp) (v : V) : Prop := ∃ (t : Value) (b1 b2 : Bool), TyX K H v t ∧ PySem.W.kitOne K t (.type "int") = some b1 ∧ PySem.W.kitOne K t (.type "bool") = some b2 ∧ (b1 && !b2) = isIV v
theorem KdV.int {K : PySem.W.Frag} {H : Hp} (i : Int) : KdV K H (.int i) := ⟨_, true, false, .base (.int i), kit_ty (a := "int") (b := "int") (r := true) (by decide +kernel), kit_ty (a := "int") (b := "bool") (r := false) (by decide +kernel), rfl⟩
theorem KdV.dq {K : PySem.W.Frag} {H : Hp} {p : Addr} {v : V} {d : PyData} (h : Dq p H v d) : KdV K H v := by
  have ty := h.ty (K := K)
  cases h with
  | non => exact ⟨_, false, false, ty, kit_ty (a := "NoneType") (b := "int") (r := false) (by decide +kernel), kit_ty (a := "NoneType") (b := "bool") (r := false) (by decide +kernel), rfl⟩
  | bl b => exact ⟨_, true, true, ty, kit_ty (a := "bool") (b := "int") (r := true) (by decide +kernel), kit_ty (a := "bool") (b := "bool") (r := true) (by decide +kernel), rfl⟩
  | int i => exact .int i
  | str x => exact ⟨_, false, false, ty, kit_ty (a := "str") (b := "int") (r := false) (by decide +kernel), kit_ty (a := "str") (b := "bool") (r := false) (by decide +kernel), rfl⟩
  | lst n h a => exact ⟨_, false, false, ty, kit_ty (a := "list") (b := "int") (r := false) (by decide +kernel), kit_ty (a := "list") (b := "bool") (r := false) (by decide +kernel), rfl⟩
  | tup n h a => exact ⟨_, false, false, ty, kit_ty (a := "tuple") (b := "int") (r := false) (by decide +kernel), kit_ty (a := "tuple") (b := "bool") (r := false) (by decide +kernel), rfl⟩
  | dic n h a => exact ⟨_, false, false, ty, kit_ty (a := "dict") (b := "int") (r := false) (by decide +kernel), kit_ty (a := "dict") (b := "bool") (r := false) (by decide +kernel), rfl⟩
theorem KdV.ins {K : PySem.W.Frag} {H : Hp} {a C dx : Addr} {fs : List (Str × V)} (o : OC K C) (k1 : PySem.W.kitOne K (.ref C) (.type "int") = some false) (k2 : PySem.W.kitOne K (.ref C) (.type "bool") = some false) (h : H a = some (.ins C dx fs)) : KdV K H (.ref a) :=
  ⟨_, false, false, o.ty h, k1, k2, rfl⟩
def spIsInt (K : PySem.W.Frag) : Sp := fun vs H Q _ => ∃ v : V, vs = [v] ∧ KdV K H v ∧ Q (.bl (isIV v)) H
structure X0 (K : PySem.W.Frag) (mg : Str → Option Value) (x : Str) (C : Addr) : Prop where
  nm : mg x = some (.ref C)
  xc : XC K C
  ex : PySem.W.excIn K C [.type "ValueError", .type "Exception", .type "BaseException", .type "object"] "ValueError.__new__" = true
theorem raise0 {X : Cx} {W : WX} {x : Str} {C : Addr} {p pos pos2 : Pos} (M : X0 X.K X.mg x C) (hc : X.calm = true) (tk : Takes X W) (hg : Gl X x := by rfl) (hdb : (x == ("__debug__" : Str)) = false := by decide) :
    PS X (.Raise (some (.Call (.Name x p) [] [] pos)) none pos2) (fun _ σ H => W (.ref C) none σ H) := by
  refine ps_raise (t := fun σ H Q => Q (.ref C) none H) hc tk ?_
  intro pins s σ H Q I h
  apply wpAny_Call_Name_kw (ld_glob I hg M.nm ?_ hdb)
  apply PySem.W.callWith_K0 I.kIn M.xc.oex.kC
  obtain ⟨bm, N, nm, qn, bs, hdct, sn, sub, ab, col, dd, k0, k1, k2, k3, k5, mN, hC, hN, hni, T⟩ := exc_obj I.kIn M.ex
  show wpAny _ _ (call (.ref C) []) _ _ _
  refine wpAny_call_exc_subT F.excBase_ValueError T hC hN hni (fun h' e hm => ?_) (by decide)
  exact mk_of I hm (raises_own M.xc.oex.exC M.xc.oex.tyC) h (I.hok.gone hm.new)
def AmtAt (C : Addr) (H : Hp) (a : Addr) (t b : Int) : Prop := ∃ dx, H a = some (.ins C dx [("top", .int t), ("bottom", .int b)])
theorem AmtAt.same {C a : Addr} {H H' : Hp} {t b : Int} (h : AmtAt C H a t b) (s : Same H H') : AmtAt C H' a t b := by
  obtain ⟨dx, h⟩ := h
  exact ⟨dx, s _ _ h⟩
theorem AmtAt.kp {C a p : Addr} {H H' : Hp} {t b : Int} {xs : List V} (h : AmtAt C H a t b) (hp : H p = some (.lst xs)) (k : Kp p H H') : AmtAt C H' a t b := by
  obtain ⟨dx, h⟩ := h
  refine ⟨dx, k _ _ (fun z => ?_) h⟩
  rw [z, hp] at h; cases h
def NumAt (C : Addr) (H : Hp) (v : V) (t b : Int) : Prop := (v = .int t ∧ b = 1) ∨ ∃ a, v = .ref a ∧ AmtAt C H a t b
theorem NumAt.same {C : Addr} {H H' : Hp} {v : V} {t b : Int} (h : NumAt C H v t b) (s : Same H H') : NumAt C H' v t b := by
  rcases h with h | ⟨a, e, h⟩
  · exact .inl h
  · exact .inr ⟨a, e, h.same s⟩
def Sz (n : Nat) (x : Int) : Prop := x.natAbs < 2 ^ n
theorem Sz.mul {a b : Nat} {x y : Int} (hx : Sz a x) (hy : Sz b y) : Sz (a + b) (x * y) := wide_lt hx hy
theorem Sz.mono {a b : Nat} {x : Int} (hx : Sz a x) (h : a ≤ b) : Sz b x := Nat.lt_of_lt_of_le hx (Nat.pow_le_pow_right (by decide) h)
theorem Sz.add {a b : Nat} {x y : Int} (hx : Sz a x) (hy : Sz b y) : Sz (max a b + 1) (x + y) := by
  have h1 := hx.mono (Nat.le_max_left a b)
  have h2 := hy.mono (Nat.le_max_right a b)
  unfold Sz at *
  rw [Nat.pow_succ]
  have := Int.natAbs_add_le x y
  omega
theorem Sz.neg {a : Nat} {x : Int} (hx : Sz a x) : Sz a (-x) := by unfold Sz at *; rw [Int.natAbs_neg]; exact hx
theorem Sz.sub {a b : Nat} {x y : Int} (hx : Sz a x) (hy : Sz b y) : Sz (max a b + 1) (x - y) := by
  rw [Int.sub_eq_add_neg]
  exact hx.add hy.neg
theorem Sz.iabs {a : Nat} {x : Int} (hx : Sz a x) : Sz a (iabs x) := by unfold Sz at *; rw [iabs_nat]; simpa using hx
theorem Sz.low {a c : Nat} {t b : Int} (ht : Sz a t) (hb : Sz c b) (h : b ≠ 0) : Sz a (lowT t b) ∧ Sz c (lowB t b) := ⟨Nat.lt_of_le_of_lt (low_le h).1 ht, Nat.lt_of_le_of_lt (low_le h).2 hb⟩
theorem Sz.mulW {a b : Nat} {x y : Int} (hx : Sz a x) (hy : Sz b y) (h : a + b ≤ 900000) : CMulW x y := wide_mul (a := a + 1) (b := b + 1) (hx.mono (Nat.le_succ a)) (hy.mono (Nat.le_succ b)) (Nat.succ_pos a) (Nat.succ_pos b) (by omega)
theorem tyX_same {K : PySem.W.Frag} {H H' : Hp} {v : V} {t : Value} (s : Same H H') (h : TyX K H v t) : TyX K H' v t := by
  cases h with
  | base b =>
    cases b with
    | non => exact .base .non
    | bl x => exact .base (.bl x)
    | int i => exact .base (.int i)
    | str x => exact .base (.str x)
    | flt x => exact .base (.flt x)
    | lst e => exact .base (.lst (s _ _ e))
    | frz e => exact .base (.frz (s _ _ e))
    | tup e => exact .base (.tup (s _ _ e))
    | dK e => exact .base (.dK (s _ _ e))
    | dT e => exact .base (.dT (s _ _ e))
    | ins e cl ha hn htk hm => exact .base (.ins (s _ _ e) cl ha hn htk hm)
  | byt b => exact .byt b
  | set e => exact .set (s _ _ e)
  | kList e c => exact .kList e c
  | kTuple e c => exact .kTuple e c
  | kDict e c => exact .kDict e c
  | fTuple e => exact .fTuple (s _ _ e)
  | fDict e => exact .fDict (s _ _ e)
theorem KdV.same {K : PySem.W.Frag} {H H' : Hp} {v : V} (s : Same H H') (h : KdV K H v) : KdV K H' v := by
  obtain ⟨t, b1, b2, ty, r⟩ := h
  exact ⟨t, b1, b2, tyX_same s ty, r⟩
theorem KdV.ofInt {K : PySem.W.Frag} {H : Hp} {v : V} (h : isIV v = true) : KdV K H v := by
  cases v <;> first | exact .int _ | cases h
theorem y_fld {K : PySem.W.Frag} {ta tv : TE} {f : Str} {D : Ends} {σ : L2.St} {H : Hp} (h : tv σ H fun y H1 => ta σ H1 fun x H2 => ∃ a C dx fs, x = .ref a ∧ H2 a = some (.ins C dx fs) ∧ Cls K C ∧ NoAttr K C f ∧ fs.length < 1000 ∧ D.nx σ (upd H2 a (.ins C dx (putF f y fs)))) : sFld K ta tv f D σ H := h
end OZ
set_option maxRecDepth 100000
namespace OZ
open PySem PySem.Spec PyProof.Rows L2
def CDivN (_ j : Int) : Prop := j ≠ 0 ∧ j.natAbs.log2 < 9000
theorem op_fdivN {X : Cx} : OpR X (binaryOp .FloorDiv) (rI CDivN fun i j => .int (i.fdiv j)) := opI fun i j _ _ _ _ _ hc q => floordiv_int hc.1 q (.inl (PyProof.noPylong_of_log2 hc.2))
theorem iop_fdivN {X : Cx} : OpR X (inplaceOp .FloorDiv) (rI CDivN fun i j => .int (i.fdiv j)) := opI fun i j _ _ _ _ _ hc q => ifloordiv_int hc.1 q (.inl (PyProof.noPylong_of_log2 hc.2))
theorem Sz.divN {n : Nat} {i j : Int} (h : Sz n j) (h0 : j ≠ 0) (hn : n ≤ 8999) : CDivN i j := ⟨h0, Nat.lt_of_lt_of_le (PySem.Flt.log2_lt_of (Nat.succ_pos n) (h.mono (Nat.le_succ n))) (by omega)⟩
end OZ
set_option maxRecDepth 100000
set_option maxHeartbeats 2000000
namespace OZ
open PySem PySem.Spec PyProof.Rows L2 LamX
def pushM {α : Type} (k : Nat → List Addr → α) : Nat → List Addr → List Addr → α
  | seen, new, [] => k seen new
  | seen, new, a :: r => if seen.testBit a then pushM k seen new r else pushM k (seen ||| 1 <<< a) (a :: new) r
def refsM (g : Addr → Option Obj) : List Addr → List Addr
  | [] => []
  | a :: r => (match g a with
    | some o => He.refsD o
    | none => []) ++ refsM g r
def reachM (g : Addr → Option Obj) : Nat → Nat → List Addr → List Addr → List Addr
  | 0, _, _, acc => acc
  | n + 1, seen, front, acc => pushM (fun seen2 new => reachM g n seen2 new (new ++ acc)) seen [] (refsM g front)
def asM (g : Addr → Option Obj) (n : Nat) : List Addr := reachM g n (1 <<< mainGlobals) [mainGlobals] [mainGlobals]
def seenZ (g : Addr → Option Obj) (n : Nat) : PySem.W.Frag := He.frT g (mainGlobals :: sysModules :: cStatics :: asM g n)
structure ToldA (fn : List He5.DefA) (tf : List He.Defn) (ex : PySem.W.Frag → Bool) (h : Heap) (K : PySem.W.Frag) : Prop where
  d : He5.SaysA [] fn K
  more : ex K = true
  hd : ∀ q ∈ tf, PySem.W.codeHdIn K (He.cT K q).1 (He.cT K q).2 = true
  out : ∀ q ∈ tf, K.lookup (He.cT K q).2 = none
  empty : ∀ q ∈ tf, h.get? (He.cT K q).2 = some { cls := .none, data := .fields #[] }
def obsY (n : Nat) (fn : List He5.DefA) (tf : List He.Defn) (ex : PySem.W.Frag → Bool) (g : Addr → Option Obj) : AlZ := (He5.obsA [] fn (seenZ g n), ex (seenZ g n) && He.tabsB g tf (seenZ g n))
def valY (fn : List He5.DefA) : AlZ := (He5.valA fn, true)
theorem toldA_of {n : Nat} {fn : List He5.DefA} {tf : List He.Defn} {ex : PySem.W.Frag → Bool} {h : Heap} (e : obsY n fn tf ex h.get? = valY fn) : ToldA fn tf ex h (seenZ h.get? n) := by
  have e1 : He5.obsA [] fn (seenZ h.get? n) = He5.valA fn := congrArg (fun z : AlZ => z.1) e
  have e2 : (ex (seenZ h.get? n) && He.tabsB h.get? tf (seenZ h.get? n)) = true := congrArg (fun z : AlZ => z.2) e
  obtain ⟨h1, h2⟩ := Bool.and_eq_true_iff.mp e2
  have one : ∀ q ∈ tf, PySem.W.codeHdIn (seenZ h.get? n) (He.cT (seenZ h.get? n) q).1 (He.cT (seenZ h.get? n) q).2 = true ∧ ∃ o, h.get? (He.cT (seenZ h.get? n) q).2 = some o ∧ He.emptyTab o = true := by
    intro q hq
    obtain ⟨h3, h4⟩ := Bool.and_eq_true_iff.mp (List.all_eq_true.mp h2 q hq)
    refine ⟨h3, ?_⟩
    cases z : h.get? (He.cT (seenZ h.get? n) q).2 with
    | none => rw [z] at h4; cases h4
    | some o => rw [z] at h4; exact ⟨o, rfl, h4⟩
  constructor
  · exact e1
  · exact h1
  · exact fun q hq => (one q hq).1
  · intro q hq
    obtain ⟨_, o, z, y⟩ := one q hq
    exact He.frT_none z y
  · intro q hq
    obtain ⟨_, o, z, y⟩ := one q hq
    rw [z, He.emptyTab_eq y]
def hookY (n : Nat) (fn : List He5.DefA) (tf : List He.Defn) (ex : PySem.W.Frag → Bool) : PySem.W.Hook where
  α := AlZ
  obs := fun s => obsY n fn tf ex s.heap.get?
  val := fun _ => valY fn
  says := fun _ h => ∃ K : PySem.W.Frag, K.In h ∧ ToldA fn tf ex h K
  of := fun _ _ e => ⟨_, He.frT_in, toldA_of e⟩
  keeps := fun _ _ _ ⟨K, hK, c⟩ kp => ⟨K, PySem.W.Frag.In.keeps hK kp, ⟨c.d, c.more, c.hd, c.out, fun q hq => kp _ _ (c.empty q hq)⟩⟩
theorem obsY_eq {n : Nat} {fn : List He5.DefA} {tf : List He.Defn} {ex : PySem.W.Frag → Bool} {g : Addr → Option Obj} {s : Shared} (h : ∀ a, g a = s.heap.get? a) : obsY n fn tf ex g = (hookY n fn tf ex).obs s := by
  have e : g = s.heap.get? := funext h
  subst e
  rfl
def defT (x : Str) (st : Stmt) : He5.DefA := ⟨fun K => He.ga K x, x, x, defArgs st, defBody st, defScope st, [], []⟩
def defM (C m q : Str) (st : Stmt) (dfl : List He.Dv := []) : He5.DefA := ⟨fun K => He.ma K (He.ga K C) m, m, q, defArgs st, defBody st, defScope st, dfl, []⟩
def defW (T : String) (C m q : Str) (st : Stmt) (dfl : List He.Dv := []) : He5.DefA := ⟨fun K => He5.wf K (He.ga K C) T m, m, q, defArgs st, defBody st, defScope st, dfl, []⟩
end OZ
set_option maxRecDepth 100000
set_option maxHeartbeats 2000000
namespace OZ
open PySem PySem.Spec PyProof.Rows L2 LamX
def methB (K : PySem.W.Frag) (C : Addr) (m : Str) : Bool := decide (PySem.W.findIn K (.ref C) m = some (some (.ref (He.ma K C m)))) && PySem.W.isFn K (.ref (He.ma K C m))
theorem methB_ok {K : PySem.W.Frag} {C : Addr} {m : Str} (h : methB K C m = true) : PySem.W.findIn K (.ref C) m = some (some (.ref (He.ma K C m))) ∧ PySem.W.isFn K (.ref (He.ma K C m)) = true := by
  unfold methB at h
  simpa only [Bool.and_eq_true, decide_eq_true_eq] using h
def crdB (K : PySem.W.Frag) (C : Addr) : Bool := PySem.W.readsIn K C (.type "type")
theorem crdB_ok {K : PySem.W.Frag} {C : Addr} (h : crdB K C = true) : ClX.CRead K C (.type "type") := by
  refine ⟨h, ?_⟩
  have h := h
  unfold crdB PySem.W.readsIn at h
  obtain ⟨h, _⟩ := He.ba h
  obtain ⟨h, _⟩ := He.ba h
  obtain ⟨h, h3⟩ := He.ba h
  obtain ⟨_, h2⟩ := He.ba h
  unfold PySem.W.specialIn
  rw [beq_iff_eq.mp h2, Option.bind_some]
  exact beq_iff_eq.mp h3
def stB (K : PySem.W.Frag) (C : Addr) (m : Str) : Bool := He5.wrapB K C "staticmethod" "staticmethod.__get__" m
def prB (K : PySem.W.Frag) (C : Addr) (f : Str) : Bool := decide (PySem.W.findIn K (.ref C) f = some (some (.ref (He.ma K C f)))) && (decide (PySem.W.specialIn K (.ref (He.ma K C f)) "__get__" = some (some (.builtin "property.__get__"))) && (decide (PySem.W.takesIn K (.ref (He.ma K C f)) = some true) && (match PySem.W.recIn K (He.ma K C f) "property" with
    | some (.ref _ :: _) => true
    | _ => false)))
theorem prB_ok {K : PySem.W.Frag} {C : Addr} {f : Str} (h : prB K C f = true) : PropOf K C f (He.ma K C f) (He5.wf K C "property" f) := by
  unfold prB at h
  obtain ⟨h1, h⟩ := He.ba h
  obtain ⟨h2, h⟩ := He.ba h
  obtain ⟨h3, h4⟩ := He.ba h
  refine ⟨of_decide_eq_true h1, of_decide_eq_true h2, of_decide_eq_true h3, ?_⟩
  unfold He5.wf
  split at h4
  · rename_i f r e
    exact ⟨r, by rw [e]⟩
  · cases h4
def oprB (K : PySem.W.Frag) (C : Addr) (nm id : String) : Bool := decide (PySem.W.findIn K (.type "int") (PySem.dunder nm) = some (some (.builtin id))) && ((PySem.W.findIn K (.type "int") (dunderR nm)).isSome && (decide (PySem.W.findIn K (.ref C) (dunderI nm) = some none) && decide (PySem.W.findIn K (.type "object") (dunderI nm) = some none)))
structure OprF (K : PySem.W.Frag) (C : Addr) (nm id : String) : Prop where
  i : PySem.W.findIn K (.type "int") (PySem.dunder nm) = some (some (.builtin id))
  r : ∃ ro, PySem.W.findIn K (.type "int") (dunderR nm) = some ro
  n1 : PySem.W.findIn K (.ref C) (dunderI nm) = some none
  n2 : PySem.W.findIn K (.type "object") (dunderI nm) = some none
theorem oprB_ok {K : PySem.W.Frag} {C : Addr} {nm id : String} (h : oprB K C nm id = true) : OprF K C nm id := by
  unfold oprB at h
  obtain ⟨h1, h⟩ := He.ba h
  obtain ⟨h2, h⟩ := He.ba h
  obtain ⟨h3, h4⟩ := He.ba h
  exact ⟨of_decide_eq_true h1, Option.isSome_iff_exists.mp h2, of_decide_eq_true h3, of_decide_eq_true h4⟩
def mroB (K : PySem.W.Frag) (C : Addr) : Bool := match PySem.W.clsIn K C with
  | some cd => decide (cd.mro = [.ref C, .type "object"])
  | none => false
theorem mroB_ok {K : PySem.W.Frag} {C : Addr} (h : mroB K C = true) : ∃ cd, PySem.W.clsIn K C = some cd ∧ cd.mro = [.ref C, .type "object"] := by
  unfold mroB at h
  split at h
  · rename_i cd e
    exact ⟨cd, e, of_decide_eq_true h⟩
  · cases h
abbrev bTypes : List String := ["int", "bool", "NoneType", "str", "list", "tuple", "dict"]
abbrev amMeths : List Str := ["__init__", "over", "__add__", "__radd__", "__sub__", "__rsub__", "__mul__", "__rmul__", "__floordiv__", "__rfloordiv__", "__mod__", "__rmod__", "__neg__", "__abs__", "__bool__", "__lt__", "__le__", "__gt__", "__ge__", "__eq__", "__str__"]
abbrev amOps : List (String × String) := [("add", "int.__add__"), ("sub", "int.__sub__"), ("mul", "int.__mul__"), ("floordiv", "int.__floordiv__"), ("mod", "int.__mod__")]
def amB (K : PySem.W.Frag) (C : Addr) : Bool := ocB K C && ((["top", "bottom"] : List Str).all (fun f => decide (PySem.W.findIn K (.ref C) f = some none)) && (decide (PySem.W.kitOne K (.ref C) (.type "int") = some false) && (decide (PySem.W.kitOne K (.ref C) (.type "bool") = some false) && (decide (PySem.W.kitOne K (.ref C) (.ref C) = some true) &&
  (bTypes.all (fun T => decide (PySem.W.kitOne K (.type T) (.ref C) = some false)) && (amMeths.all (methB K C) && (amOps.all (fun q => oprB K C q.1 q.2) && (mroB K C && (bTypes.all (fun T => PySem.W.notFirst K C (.type T)) && (PySem.W.notFirst K C (.ref C) &&
  (decide (PySem.W.findIn K (.ref C) "__ne__" = some (some (.builtin "object.__ne__"))) && (PySem.W.makesIn K C && (PySem.W.keepIn K (.ref C) && (crdB K C && ((["is_number", "of", "total"] : List Str).all (stB K C) && prB K C "is_whole")))))))))))))))
structure AmF (K : PySem.W.Frag) (C : Addr) : Prop where
  oc : OC K C
  na : ∀ f ∈ (["top", "bottom"] : List Str), NoAttr K C f
  ki : PySem.W.kitOne K (.ref C) (.type "int") = some false
  kb : PySem.W.kitOne K (.ref C) (.type "bool") = some false
  ka : PySem.W.kitOne K (.ref C) (.ref C) = some true
  kt : ∀ T ∈ bTypes, PySem.W.kitOne K (.type T) (.ref C) = some false
  me : ∀ m ∈ amMeths, PySem.W.findIn K (.ref C) m = some (some (.ref (He.ma K C m))) ∧ PySem.W.isFn K (.ref (He.ma K C m)) = true
  op : ∀ q ∈ amOps, OprF K C q.1 q.2
  mro : ∃ cd, PySem.W.clsIn K C = some cd ∧ cd.mro = [.ref C, .type "object"]
  nf : ∀ T ∈ bTypes, PySem.W.notFirst K C (.type T) = true
  nfC : PySem.W.notFirst K C (.ref C) = true
  ne : PySem.W.findIn K (.ref C) "__ne__" = some (some (.builtin "object.__ne__"))
  mks : PySem.W.makesIn K C = true
  kp : PySem.W.keepIn K (.ref C) = true
  cr : ClX.CRead K C (.type "type")
  st : ∀ m ∈ (["is_number", "of", "total"] : List Str), PySem.W.findCls K (.ref C) (.type "type") m = some (.get (.builtin "staticmethod.__get__") (.ref (He.ma K C m)) .none (.ref C)) ∧ ∃ rest, PySem.W.recIn K (He.ma K C m) "staticmethod" = some (.ref (He5.wf K C "staticmethod" m) :: rest)
  pr : PropOf K C "is_whole" (He.ma K C "is_whole") (He5.wf K C "property" "is_whole")
theorem amB_ok {K : PySem.W.Frag} {C : Addr} (h : amB K C = true) : AmF K C := by
  unfold amB at h
  obtain ⟨h1, h⟩ := He.ba h
  obtain ⟨h2, h⟩ := He.ba h
  obtain ⟨h3, h⟩ := He.ba h
  obtain ⟨h4, h⟩ := He.ba h
  obtain ⟨h5, h⟩ := He.ba h
  obtain ⟨h6, h⟩ := He.ba h
  obtain ⟨h7, h⟩ := He.ba h
  obtain ⟨h8, h⟩ := He.ba h
  obtain ⟨h9, h⟩ := He.ba h
  obtain ⟨h10, h⟩ := He.ba h
  obtain ⟨h11, h⟩ := He.ba h
  obtain ⟨h12, h⟩ := He.ba h
  obtain ⟨h13, h⟩ := He.ba h
  obtain ⟨h14, h⟩ := He.ba h
  obtain ⟨h15, h⟩ := He.ba h
  obtain ⟨h16, h17⟩ := He.ba h
  exact { oc := ocB_ok h1, na := fun f hf => of_decide_eq_true (p := PySem.W.findIn K (.ref C) f = some none) (List.all_eq_true.mp h2 f hf), ki := of_decide_eq_true h3, kb := of_decide_eq_true h4, ka := of_decide_eq_true h5, kt := fun T hT => of_decide_eq_true (p := PySem.W.kitOne K (.type T) (.ref C) = some false) (List.all_eq_true.mp h6 T hT), me := fun m hm => methB_ok (List.all_eq_true.mp h7 m hm), op := fun q hq => oprB_ok (List.all_eq_true.mp h8 q hq), mro := mroB_ok h9, nf := fun T hT => List.all_eq_true.mp h10 T hT, nfC := h11, ne := of_decide_eq_true h12, mks := h13, kp := h14, cr := crdB_ok h15, st := fun m hm => He5.wrapB_ok (List.all_eq_true.mp h16 m hm), pr := prB_ok h17 }
end OZ
set_option maxRecDepth 100000
namespace OZ
open PySem PySem.Spec PyProof.Rows L2
theorem nf_rat (q : Rat) : Nf q.num (q.den : Int) := ⟨Int.ofNat_lt.mpr q.den_pos, by
  have := q.reduced
  show Nat.gcd q.num.natAbs (q.den : Int).natAbs = 1
  rw [Int.natAbs_natCast]; exact this⟩
theorem div_cross {t b : Int} (h : b ≠ 0) : t * (((t : Rat) / (b : Rat)).den : Int) = ((t : Rat) / (b : Rat)).num * b := by
  have e := Rat.num_divInt_den ((t : Rat) / (b : Rat))
  rw [← Rat.divInt_eq_div] at e ⊢
  have d0 : ((Rat.divInt t b).den : Int) ≠ 0 := by have := (Rat.divInt t b).den_pos; omega
  exact ((Rat.divInt_eq_divInt_iff h d0).mp e.symm)
theorem low_rat {t b : Int} (h : b ≠ 0) : lowT t b = ((t : Rat) / (b : Rat)).num ∧ lowB t b = (((t : Rat) / (b : Rat)).den : Int) := low_of h (nf_rat _) (div_cross h)
theorem den0 (q : Rat) : ((q.den : Int) : Rat) ≠ 0 := by
  have h : (q.den : Int) ≠ 0 := by have := q.den_pos; omega
  exact fun z => h (Rat.intCast_eq_zero_iff.mp z)
theorem nd (q : Rat) : q = (q.num : Rat) / ((q.den : Int) : Rat) := by
  rw [← Rat.divInt_eq_div]; exact (Rat.num_divInt_den q).symm
def divq (t b : Int) : Rat := (t : Rat) / (b : Rat)
theorem q_add (q r : Rat) : divq (q.num * (r.den : Int) + r.num * (q.den : Int)) ((q.den : Int) * (r.den : Int)) = q + r := by
  have h1 := den0 q
  have h2 := den0 r
  have e1 := nd q
  have e2 := nd r
  unfold divq
  rw [Rat.intCast_add, Rat.intCast_mul, Rat.intCast_mul, Rat.intCast_mul]
  generalize ((q.den : Int) : Rat) = d at *
  generalize ((r.den : Int) : Rat) = f at *
  generalize (q.num : Rat) = n at *
  generalize (r.num : Rat) = m at *
  grind
theorem q_sub (q r : Rat) : divq (q.num * (r.den : Int) - r.num * (q.den : Int)) ((q.den : Int) * (r.den : Int)) = q - r := by
  have h1 := den0 q
  have h2 := den0 r
  have e1 := nd q
  have e2 := nd r
  unfold divq
  rw [Rat.intCast_sub, Rat.intCast_mul, Rat.intCast_mul, Rat.intCast_mul]
  generalize ((q.den : Int) : Rat) = d at *
  generalize ((r.den : Int) : Rat) = f at *
  generalize (q.num : Rat) = n at *
  generalize (r.num : Rat) = m at *
  grind
theorem q_mul (q r : Rat) : divq (q.num * r.num) ((q.den : Int) * (r.den : Int)) = q * r := by
  have h1 := den0 q
  have h2 := den0 r
  have e1 := nd q
  have e2 := nd r
  unfold divq
  rw [Rat.intCast_mul, Rat.intCast_mul]
  generalize ((q.den : Int) : Rat) = d at *
  generalize ((r.den : Int) : Rat) = f at *
  generalize (q.num : Rat) = n at *
  generalize (r.num : Rat) = m at *
  grind
theorem num0 {q : Rat} (h : q ≠ 0) : q.num ≠ 0 := fun z => h (Rat.num_eq_zero.mp z)
theorem q_div (q : Rat) {r : Rat} (h : r ≠ 0) : divq (q.num * (r.den : Int)) ((q.den : Int) * r.num) = q / r := by
  have h1 := den0 q
  have h2 := den0 r
  have h3 : (r.num : Rat) ≠ 0 := fun z => num0 h (Rat.intCast_eq_zero_iff.mp z)
  have e1 := nd q
  have e2 := nd r
  unfold divq
  rw [Rat.intCast_mul, Rat.intCast_mul]
  generalize ((q.den : Int) : Rat) = d at *
  generalize ((r.den : Int) : Rat) = f at *
  generalize (q.num : Rat) = n at *
  generalize (r.num : Rat) = m at *
  grind
theorem q_mod (q r : Rat) (m : Int) : divq (q.num * (r.den : Int) - m * r.num * (q.den : Int)) ((q.den : Int) * (r.den : Int)) = q - (m : Rat) * r := by
  have h1 := den0 q
  have h2 := den0 r
  have e1 := nd q
  have e2 := nd r
  unfold divq
  rw [Rat.intCast_sub, Rat.intCast_mul, Rat.intCast_mul, Rat.intCast_mul, Rat.intCast_mul]
  generalize ((q.den : Int) : Rat) = d at *
  generalize ((r.den : Int) : Rat) = f at *
  generalize (q.num : Rat) = n at *
  generalize (r.num : Rat) = k at *
  generalize (m : Rat) = mm at *
  grind
theorem q_neg (q : Rat) : divq (-q.num) (q.den : Int) = -q := by
  have e1 := nd q
  unfold divq
  rw [Rat.intCast_neg]
  grind
theorem q_lt (q r : Rat) : (q.num * (r.den : Int) < r.num * (q.den : Int)) ↔ q < r := by
  rw [Rat.lt_iff]
theorem q_le (q r : Rat) : (q.num * (r.den : Int) ≤ r.num * (q.den : Int)) ↔ q ≤ r := by
  rw [Rat.le_iff]
theorem q_eq (q r : Rat) : (q.num = r.num ∧ (q.den : Int) = (r.den : Int)) ↔ q = r := by
  constructor
  · rintro ⟨h1, h2⟩
    exact Rat.ext h1 (by omega)
  · rintro rfl
    exact ⟨rfl, rfl⟩
end OZ
set_option maxRecDepth 100000
namespace OZ
open PySem PySem.Spec PyProof.Rows L2
theorem fdiv_bd {t b : Int} (h : b ≠ 0) : (0 < b → t.fdiv b * b ≤ t ∧ t < (t.fdiv b + 1) * b) ∧ (b < 0 → t ≤ t.fdiv b * b ∧ (t.fdiv b + 1) * b < t) := by
  have e := Int.mul_fdiv_add_fmod t b
  have e2 : t.fdiv b * b = b * t.fdiv b := Int.mul_comm _ _
  have e3 : (t.fdiv b + 1) * b = b * t.fdiv b + b := by rw [Int.add_mul, Int.one_mul, e2]
  constructor
  · intro hb
    have := Int.fmod_nonneg_of_pos t hb
    have := Int.fmod_lt_of_pos t hb
    omega
  · intro hb
    have h1 : t.fmod b = -((-t).fmod (-b)) := by rw [Int.neg_fmod_neg]; omega
    have := Int.fmod_nonneg_of_pos (-t) (show 0 < -b by omega)
    have := Int.fmod_lt_of_pos (-t) (show 0 < -b by omega)
    omega
theorem le_div {a b c : Rat} (hc : 0 < c) (h : a * c ≤ b) : a ≤ b / c := Rat.not_lt.mp fun z => absurd ((Rat.div_lt_iff hc).mp z) (Rat.not_lt.mpr h)
theorem floor_of {q : Rat} {z : Int} (h1 : (z : Rat) ≤ q) (h2 : q < (z : Rat) + 1) : q.floor = z := by
  have a := Rat.le_floor_iff.mpr h1
  have b : q.floor < z + 1 := by
    refine Int.lt_of_not_ge fun k => ?_
    have c := Rat.le_floor_iff.mp k
    rw [Rat.intCast_add] at c
    have d : ((1 : Int) : Rat) = 1 := rfl
    grind
  omega
theorem floor_div {t b : Int} (h : b ≠ 0) : (divq t b).floor = t.fdiv b := by
  obtain ⟨h1, h2⟩ := fdiv_bd (t := t) h
  have b0 : (b : Rat) ≠ 0 := fun z => h (Rat.intCast_eq_zero_iff.mp z)
  have one : ((1 : Int) : Rat) = 1 := rfl
  unfold divq
  by_cases hb : 0 < b
  · obtain ⟨l, u⟩ := h1 hb
    have l2 := Rat.intCast_le_intCast.mpr l
    have u2 := Rat.intCast_lt_intCast.mpr u
    rw [Rat.intCast_mul] at l2 u2
    rw [Rat.intCast_add, one] at u2
    have p : (0 : Rat) < (b : Rat) := Rat.intCast_pos.mpr hb
    exact floor_of (le_div p l2) ((Rat.div_lt_iff p).mpr u2)
  · obtain ⟨l, u⟩ := h2 (by omega)
    have l2 := Rat.intCast_le_intCast.mpr l
    have u2 := Rat.intCast_lt_intCast.mpr u
    rw [Rat.intCast_mul] at l2 u2
    rw [Rat.intCast_add, one] at u2
    have p : (0 : Rat) < -(b : Rat) := by
      have : (b : Rat) < 0 := Rat.intCast_lt_intCast.mpr (show b < 0 by omega)
      grind
    have e : (t : Rat) / (b : Rat) = (-(t : Rat)) / (-(b : Rat)) := by grind
    rw [e]
    exact floor_of (le_div p (by grind)) ((Rat.div_lt_iff p).mpr (by grind))
theorem q_floor (q : Rat) {r : Rat} (h : r ≠ 0) : (q.num * (r.den : Int)).fdiv ((q.den : Int) * r.num) = (q / r).floor := by
  rw [← q_div q h, floor_div]
  have h1 := num0 h
  have h2 : (q.den : Int) ≠ 0 := by have := q.den_pos; omega
  exact Int.mul_ne_zero h2 h1
def rmod (q r : Rat) : Rat := q - ((q / r).floor : Rat) * r
def SzQ (n : Nat) (q : Rat) : Prop := Sz n q.num ∧ Sz n (q.den : Int)
theorem SzQ.mono {a b : Nat} {q : Rat} (h : SzQ a q) (l : a ≤ b) : SzQ b q := ⟨h.1.mono l, h.2.mono l⟩
theorem SzQ.of {a : Nat} {t b : Int} (ht : Sz a t) (hb : Sz a b) (h : b ≠ 0) : SzQ a (divq t b) := by
  have l := low_rat (t := t) h
  have s := Sz.low ht hb h
  unfold SzQ divq
  rw [← l.1, ← l.2]; exact s
theorem SzQ.int {n : Nat} {i : Int} (h : Sz n i) (l : 1 ≤ n) : SzQ n (i : Rat) := ⟨h, (show Sz 1 1 by unfold Sz; decide).mono l⟩
theorem den_ne (q : Rat) : (q.den : Int) ≠ 0 := by have := q.den_pos; omega
theorem dens_ne (q r : Rat) : (q.den : Int) * (r.den : Int) ≠ 0 := Int.mul_ne_zero (den_ne q) (den_ne r)
theorem SzQ.add {a b : Nat} {q r : Rat} (h : SzQ a q) (k : SzQ b r) : SzQ (a + b + 1) (q + r) := by
  rw [← q_add]
  exact SzQ.of (((h.1.mul k.2).add (k.1.mul h.2)).mono (by omega)) ((h.2.mul k.2).mono (by omega)) (dens_ne q r)
theorem SzQ.sub {a b : Nat} {q r : Rat} (h : SzQ a q) (k : SzQ b r) : SzQ (a + b + 1) (q - r) := by
  rw [← q_sub]
  exact SzQ.of (((h.1.mul k.2).sub (k.1.mul h.2)).mono (by omega)) ((h.2.mul k.2).mono (by omega)) (dens_ne q r)
theorem SzQ.mul {a b : Nat} {q r : Rat} (h : SzQ a q) (k : SzQ b r) : SzQ (a + b) (q * r) := by
  rw [← q_mul]
  exact SzQ.of (h.1.mul k.1) (h.2.mul k.2) (dens_ne q r)
theorem SzQ.div {a b : Nat} {q r : Rat} (h : SzQ a q) (k : SzQ b r) (r0 : r ≠ 0) : SzQ (a + b) (q / r) := by
  rw [← q_div q r0]
  exact SzQ.of (h.1.mul k.2) (h.2.mul k.1) (Int.mul_ne_zero (den_ne q) (num0 r0))
theorem SzQ.neg {a : Nat} {q : Rat} (h : SzQ a q) : SzQ a (-q) := ⟨h.1.neg, h.2⟩
theorem sz_fdiv {a : Nat} {t b : Int} (h : Sz a t) (b0 : b ≠ 0) : Sz (a + 1) (t.fdiv b) := by
  obtain ⟨h1, h2⟩ := fdiv_bd (t := t) b0
  unfold Sz at *
  rw [Nat.pow_succ]
  have hp : 0 < 2 ^ a := Nat.pow_pos (by decide)
  rcases Int.lt_or_lt_of_ne b0 with hb | hb
  · obtain ⟨l, u⟩ := h2 hb
    rcases Int.lt_or_le (t.fdiv b) 0 with z | z
    · rcases Int.lt_or_le (t.fdiv b + 1) 0 with y | y
      · have : (-(t.fdiv b + 1)) * 1 ≤ (-(t.fdiv b + 1)) * (-b) := Int.mul_le_mul_of_nonneg_left (by omega) (by omega)
        rw [Int.neg_mul_neg] at this
        omega
      · omega
    · have : t.fdiv b * 1 ≤ t.fdiv b * (-b) := Int.mul_le_mul_of_nonneg_left (by omega) z
      rw [Int.mul_neg] at this
      omega
  · obtain ⟨l, u⟩ := h1 hb
    rcases Int.lt_or_le (t.fdiv b) 0 with z | z
    · rcases Int.lt_or_le (t.fdiv b + 1) 0 with y | y
      · have : (-(t.fdiv b + 1)) * 1 ≤ (-(t.fdiv b + 1)) * b := Int.mul_le_mul_of_nonneg_left (by omega) (by omega)
        have e : -(t.fdiv b + 1) * b = -((t.fdiv b + 1) * b) := Int.neg_mul _ _
        omega
      · omega
    · have : t.fdiv b * 1 ≤ t.fdiv b * b := Int.mul_le_mul_of_nonneg_left (by omega) z
      omega
theorem sz_floor {a b : Nat} {q r : Rat} (h : SzQ a q) (k : SzQ b r) (r0 : r ≠ 0) : Sz (a + b + 1) (q / r).floor := by
  rw [← q_floor q r0]
  exact sz_fdiv (h.1.mul k.2) (Int.mul_ne_zero (den_ne q) (num0 r0))
theorem SzQ.rmod {a b : Nat} {q r : Rat} (h : SzQ a q) (k : SzQ b r) (r0 : r ≠ 0) : SzQ (2 * a + 2 * b + 2) (rmod q r) := by
  unfold OZ.rmod
  rw [← q_mod]
  exact SzQ.of (((h.1.mul k.2).sub (((sz_floor h k r0).mul k.1).mul h.2)).mono (by omega)) ((h.2.mul k.2).mono (by omega)) (dens_ne q r)
def qabs (q : Rat) : Rat := if q < 0 then -q else q
theorem num_neg_iff (q : Rat) : q.num < 0 ↔ q < 0 := by rw [← Int.not_le, Rat.num_nonneg, Rat.not_le]
theorem q_abs (q : Rat) : divq (iabs q.num) (q.den : Int) = qabs q := by
  unfold iabs qabs
  by_cases h : q < 0
  · rw [if_pos ((num_neg_iff q).mpr h), if_pos h, q_neg]
  · rw [if_neg (fun z => h ((num_neg_iff q).mp z)), if_neg h]
    exact (nd q).symm
theorem SzQ.qabs {a : Nat} {q : Rat} (h : SzQ a q) : SzQ a (qabs q) := by
  unfold OZ.qabs
  split
  · exact h.neg
  · exact h
def AmQ (C : Addr) (H : Hp) (a : Addr) (q : Rat) : Prop := AmtAt C H a q.num (q.den : Int)
def NumQ (C : Addr) (H : Hp) (v : V) (q : Rat) : Prop := (∃ i : Int, v = .int i ∧ q = (i : Rat)) ∨ ∃ a, v = .ref a ∧ AmQ C H a q
theorem AmQ.same {C a : Addr} {H H' : Hp} {q : Rat} (s : Same H H') (h : AmQ C H a q) : AmQ C H' a q := AmtAt.same h s
theorem AmQ.kp {C a p c : Addr} {n : Nat} {H H' : Hp} {q : Rat} (hp : PenAt H p c n) (k : Kp p H H') (h : AmQ C H a q) : AmQ C H' a q := by
  obtain ⟨ns, b, l, h1, _⟩ := hp
  exact AmtAt.kp h h1 k
theorem NumQ.same {C : Addr} {H H' : Hp} {v : V} {q : Rat} (s : Same H H') (h : NumQ C H v q) : NumQ C H' v q := by
  rcases h with h | ⟨a, e, h⟩
  · exact .inl h
  · exact .inr ⟨a, e, h.same s⟩
theorem NumQ.int {C : Addr} {H : Hp} {i : Int} : NumQ C H (.int i) (i : Rat) := .inl ⟨i, rfl, rfl⟩
theorem NumQ.am {C : Addr} {H : Hp} {a : Addr} {q : Rat} (h : AmQ C H a q) : NumQ C H (.ref a) q := .inr ⟨a, rfl, h⟩
theorem NumQ.at {C : Addr} {H : Hp} {v : V} {q : Rat} (h : NumQ C H v q) : NumAt C H v q.num (q.den : Int) := by
  rcases h with ⟨i, rfl, rfl⟩ | ⟨a, rfl, h⟩
  · exact .inl ⟨rfl, rfl⟩
  · exact .inr ⟨a, rfl, h⟩
theorem NumQ.rgt {C : Addr} {H : Hp} {v : V} {q : Rat} (h : NumQ C H v q) : Rgt C H v := by
  rcases h with ⟨i, rfl, rfl⟩ | ⟨a, rfl, dx, h⟩
  · exact .inl ⟨i, rfl⟩
  · exact .inr ⟨a, dx, _, rfl, h⟩
theorem amq_of {C : Addr} {H : Hp} {a : Addr} {t b : Int} {q : Rat} (h : AmtAt C H a (lowT t b) (lowB t b)) (b0 : b ≠ 0) (e : divq t b = q) : AmQ C H a q := by
  subst e
  have l := low_rat (t := t) b0
  unfold AmQ divq
  rw [← l.1, ← l.2]; exact h
end OZ
set_option maxRecDepth 100000
set_option maxHeartbeats 1000000
namespace OZ
open PySem PySem.Spec PyProof.Rows L2
section
variable {X : Cx} {k : Nat} {C : Addr} {ps : List Str} {sp : Sp} {E : XK}
theorem AmF.ops {K : PySem.W.Frag} (A : AmF K C) {nm id : String} (h : (nm, id) ∈ amOps) (hr : dunderR nm ∈ amMeths) : OpS K C nm :=
  ⟨⟨_, (A.me _ hr).1, .inr ⟨_, rfl⟩⟩, ⟨_, (A.op _ h).i⟩, (A.op _ h).r⟩
theorem aB_add (A : AmF X.K C) (M : Mth X.prog X.w X.K X.mg X.base k C "__add__" ps sp) (hr : Room k X.A) (hx : Passes (L2.CX X.prog X.w) X E) : OpR X (binaryOp .Add) (rBin C sp E) := o_bin (op := .Add) A.oc (A.ops (nm := "add") (id := "int.__add__") (by decide) (by decide)) M hr hx
theorem aI_add (A : AmF X.K C) (M : Mth X.prog X.w X.K X.mg X.base k C "__add__" ps sp) (hr : Room k X.A) (hx : Passes (L2.CX X.prog X.w) X E) : PIp X .Add (rBin C sp E) := o_ibin (op := .Add) A.oc (A.ops (nm := "add") (id := "int.__add__") (by decide) (by decide)) A.mro (A.op ("add", "int.__add__") (by decide)).n1 (A.op ("add", "int.__add__") (by decide)).n2 M hr hx
theorem aR_add (A : AmF X.K C) (M : Mth X.prog X.w X.K X.mg X.base k C "__radd__" ps sp) (hr : Room k X.A) (hx : Passes (L2.CX X.prog X.w) X E) : OpR X (binaryOp .Add) (rRBin C sp E) := o_rbin (op := .Add) io_add A.oc ⟨_, (A.me "__add__" (by decide)).1⟩ (A.op ("add", "int.__add__") (by decide)).i (A.op ("add", "int.__add__") (by decide)).r M hr hx
theorem aB_sub (A : AmF X.K C) (M : Mth X.prog X.w X.K X.mg X.base k C "__sub__" ps sp) (hr : Room k X.A) (hx : Passes (L2.CX X.prog X.w) X E) : OpR X (binaryOp .Sub) (rBin C sp E) := o_bin (op := .Sub) A.oc (A.ops (nm := "sub") (id := "int.__sub__") (by decide) (by decide)) M hr hx
theorem aI_sub (A : AmF X.K C) (M : Mth X.prog X.w X.K X.mg X.base k C "__sub__" ps sp) (hr : Room k X.A) (hx : Passes (L2.CX X.prog X.w) X E) : PIp X .Sub (rBin C sp E) := o_ibin (op := .Sub) A.oc (A.ops (nm := "sub") (id := "int.__sub__") (by decide) (by decide)) A.mro (A.op ("sub", "int.__sub__") (by decide)).n1 (A.op ("sub", "int.__sub__") (by decide)).n2 M hr hx
theorem aR_sub (A : AmF X.K C) (M : Mth X.prog X.w X.K X.mg X.base k C "__rsub__" ps sp) (hr : Room k X.A) (hx : Passes (L2.CX X.prog X.w) X E) : OpR X (binaryOp .Sub) (rRBin C sp E) := o_rbin (op := .Sub) io_sub A.oc ⟨_, (A.me "__sub__" (by decide)).1⟩ (A.op ("sub", "int.__sub__") (by decide)).i (A.op ("sub", "int.__sub__") (by decide)).r M hr hx
theorem aB_mul (A : AmF X.K C) (M : Mth X.prog X.w X.K X.mg X.base k C "__mul__" ps sp) (hr : Room k X.A) (hx : Passes (L2.CX X.prog X.w) X E) : OpR X (binaryOp .Mult) (rBin C sp E) := o_bin (op := .Mult) A.oc (A.ops (nm := "mul") (id := "int.__mul__") (by decide) (by decide)) M hr hx
theorem aI_mul (A : AmF X.K C) (M : Mth X.prog X.w X.K X.mg X.base k C "__mul__" ps sp) (hr : Room k X.A) (hx : Passes (L2.CX X.prog X.w) X E) : PIp X .Mult (rBin C sp E) := o_ibin (op := .Mult) A.oc (A.ops (nm := "mul") (id := "int.__mul__") (by decide) (by decide)) A.mro (A.op ("mul", "int.__mul__") (by decide)).n1 (A.op ("mul", "int.__mul__") (by decide)).n2 M hr hx
theorem aR_mul (A : AmF X.K C) (M : Mth X.prog X.w X.K X.mg X.base k C "__rmul__" ps sp) (hr : Room k X.A) (hx : Passes (L2.CX X.prog X.w) X E) : OpR X (binaryOp .Mult) (rRBin C sp E) := o_rbin (op := .Mult) io_mul A.oc ⟨_, (A.me "__mul__" (by decide)).1⟩ (A.op ("mul", "int.__mul__") (by decide)).i (A.op ("mul", "int.__mul__") (by decide)).r M hr hx
theorem aB_floordiv (A : AmF X.K C) (M : Mth X.prog X.w X.K X.mg X.base k C "__floordiv__" ps sp) (hr : Room k X.A) (hx : Passes (L2.CX X.prog X.w) X E) : OpR X (binaryOp .FloorDiv) (rBin C sp E) := o_bin (op := .FloorDiv) A.oc (A.ops (nm := "floordiv") (id := "int.__floordiv__") (by decide) (by decide)) M hr hx
theorem aI_floordiv (A : AmF X.K C) (M : Mth X.prog X.w X.K X.mg X.base k C "__floordiv__" ps sp) (hr : Room k X.A) (hx : Passes (L2.CX X.prog X.w) X E) : PIp X .FloorDiv (rBin C sp E) := o_ibin (op := .FloorDiv) A.oc (A.ops (nm := "floordiv") (id := "int.__floordiv__") (by decide) (by decide)) A.mro (A.op ("floordiv", "int.__floordiv__") (by decide)).n1 (A.op ("floordiv", "int.__floordiv__") (by decide)).n2 M hr hx
theorem aR_floordiv (A : AmF X.K C) (M : Mth X.prog X.w X.K X.mg X.base k C "__rfloordiv__" ps sp) (hr : Room k X.A) (hx : Passes (L2.CX X.prog X.w) X E) : OpR X (binaryOp .FloorDiv) (rRBin C sp E) := o_rbin (op := .FloorDiv) io_fdiv A.oc ⟨_, (A.me "__floordiv__" (by decide)).1⟩ (A.op ("floordiv", "int.__floordiv__") (by decide)).i (A.op ("floordiv", "int.__floordiv__") (by decide)).r M hr hx
theorem aB_mod (A : AmF X.K C) (M : Mth X.prog X.w X.K X.mg X.base k C "__mod__" ps sp) (hr : Room k X.A) (hx : Passes (L2.CX X.prog X.w) X E) : OpR X (binaryOp .Mod) (rBin C sp E) := o_bin (op := .Mod) A.oc (A.ops (nm := "mod") (id := "int.__mod__") (by decide) (by decide)) M hr hx
theorem aI_mod (A : AmF X.K C) (M : Mth X.prog X.w X.K X.mg X.base k C "__mod__" ps sp) (hr : Room k X.A) (hx : Passes (L2.CX X.prog X.w) X E) : PIp X .Mod (rBin C sp E) := o_ibin (op := .Mod) A.oc (A.ops (nm := "mod") (id := "int.__mod__") (by decide) (by decide)) A.mro (A.op ("mod", "int.__mod__") (by decide)).n1 (A.op ("mod", "int.__mod__") (by decide)).n2 M hr hx
theorem aR_mod (A : AmF X.K C) (M : Mth X.prog X.w X.K X.mg X.base k C "__rmod__" ps sp) (hr : Room k X.A) (hx : Passes (L2.CX X.prog X.w) X E) : OpR X (binaryOp .Mod) (rRBin C sp E) := o_rbin (op := .Mod) io_mod A.oc ⟨_, (A.me "__mod__" (by decide)).1⟩ (A.op ("mod", "int.__mod__") (by decide)).i (A.op ("mod", "int.__mod__") (by decide)).r M hr hx
theorem aC_lt (A : AmF X.K C) (M : Mth X.prog X.w X.K X.mg X.base k C "__lt__" ps sp) (hr : Room k X.A) (hx : Passes (L2.CX X.prog X.w) X E) : OpR X (compareOp .Lt) (rCmp X.K C sp E) := o_cmp (op := .Lt) (fun _ _ => rfl) M hr hx
theorem aJ_lt (A : AmF X.K C) (M : Mth X.prog X.w X.K X.mg X.base k C "__gt__" ps sp) (hr : Room k X.A) (hx : Passes (L2.CX X.prog X.w) X E) : OpR X (compareOp .Lt) (rRCmp C sp E) := o_rcmp (op := .Lt) ic_lt (fun _ _ => rfl) A.oc M hr hx
theorem aC_le (A : AmF X.K C) (M : Mth X.prog X.w X.K X.mg X.base k C "__le__" ps sp) (hr : Room k X.A) (hx : Passes (L2.CX X.prog X.w) X E) : OpR X (compareOp .LtE) (rCmp X.K C sp E) := o_cmp (op := .LtE) (fun _ _ => rfl) M hr hx
theorem aJ_le (A : AmF X.K C) (M : Mth X.prog X.w X.K X.mg X.base k C "__ge__" ps sp) (hr : Room k X.A) (hx : Passes (L2.CX X.prog X.w) X E) : OpR X (compareOp .LtE) (rRCmp C sp E) := o_rcmp (op := .LtE) ic_le (fun _ _ => rfl) A.oc M hr hx
theorem aC_gt (A : AmF X.K C) (M : Mth X.prog X.w X.K X.mg X.base k C "__gt__" ps sp) (hr : Room k X.A) (hx : Passes (L2.CX X.prog X.w) X E) : OpR X (compareOp .Gt) (rCmp X.K C sp E) := o_cmp (op := .Gt) (fun _ _ => rfl) M hr hx
theorem aJ_gt (A : AmF X.K C) (M : Mth X.prog X.w X.K X.mg X.base k C "__lt__" ps sp) (hr : Room k X.A) (hx : Passes (L2.CX X.prog X.w) X E) : OpR X (compareOp .Gt) (rRCmp C sp E) := o_rcmp (op := .Gt) ic_gt (fun _ _ => rfl) A.oc M hr hx
theorem aC_ge (A : AmF X.K C) (M : Mth X.prog X.w X.K X.mg X.base k C "__ge__" ps sp) (hr : Room k X.A) (hx : Passes (L2.CX X.prog X.w) X E) : OpR X (compareOp .GtE) (rCmp X.K C sp E) := o_cmp (op := .GtE) (fun _ _ => rfl) M hr hx
theorem aJ_ge (A : AmF X.K C) (M : Mth X.prog X.w X.K X.mg X.base k C "__le__" ps sp) (hr : Room k X.A) (hx : Passes (L2.CX X.prog X.w) X E) : OpR X (compareOp .GtE) (rRCmp C sp E) := o_rcmp (op := .GtE) ic_ge (fun _ _ => rfl) A.oc M hr hx
theorem aC_eq (A : AmF X.K C) (M : Mth X.prog X.w X.K X.mg X.base k C "__eq__" ps sp) (hr : Room k X.A) (hx : Passes (L2.CX X.prog X.w) X E) : OpR X (compareOp .Eq) (rCmp X.K C sp E) := o_cmp (op := .Eq) (fun _ _ => rfl) M hr hx
theorem aJ_eq (A : AmF X.K C) (M : Mth X.prog X.w X.K X.mg X.base k C "__eq__" ps sp) (hr : Room k X.A) (hx : Passes (L2.CX X.prog X.w) X E) : OpR X (compareOp .Eq) (rRCmp C sp E) := o_rcmp (op := .Eq) ic_eq (fun _ _ => rfl) A.oc M hr hx
theorem aC_ne (A : AmF X.K C) (M : Mth X.prog X.w X.K X.mg X.base k C "__eq__" ps sp) (hr : Room (k + 1) X.A) (hx : Passes (L2.CX X.prog X.w) X E) : OpR X (compareOp .NotEq) (rNeOwn X.K C sp E) := o_neOwn A.oc A.ne M hr hx
def Mtd (P : Program) (w : World) (K : PySem.W.Frag) (mg : Str → Option Value) (base : Heap) (k : Nat) (C : Addr) (m : Str) (ps : List Str) (sp : Sp) : Prop :=
  Cls K C ∧ ∃ (f : Addr) (fd : FuncData), Meth K C m f ∧ Binds K fd ps [] ∧ FnOk P w K mg base (L2.CX P w) k f fd ps sp
theorem omE {m : Str} {o e : Expr} {es : List Expr} {ta : TE} {t : TA} {apos pos : Pos} {pl : Sem Bool} (M : Mtd X.prog X.w X.K X.mg X.base k C m ps sp) (hr : Room k X.A) (hx : Passes (L2.CX X.prog X.w) X E) (he : PE X o ta) (ha : PA X (e :: es) t)
    (hst : starEach (e :: es) X.env = (false, eval e X.env) :: starEach es X.env := by rfl) (hpl : (backTo pos (starEach es X.env)).any (·.1) = false := by rfl)
    (ht : eval (.Call (.Attribute o m apos) (e :: es) [] pos) X.env = (do
      let ov ← eval o X.env
      standAt apos.atName
      let (f, first) ← holding [ov] (getMethod ov m pl)
      callWith pos f first (backTo pos (starEach (e :: es) X.env)) (backToKw pos (keywordEach [] X.env))) := by rfl) : PE X (.Call (.Attribute o m apos) (e :: es) [] pos) (tMeth C m sp [] E ta t) := by
  obtain ⟨c, f, fd, hm, hb, F⟩ := M
  exact pe_meth (pl := pl) he c hm F hr hb .nil hx ha hst hpl ht
def Prp (P : Program) (w : World) (K : PySem.W.Frag) (mg : Str → Option Value) (base : Heap) (k : Nat) (C : Addr) (m : Str) (sp : Sp) : Prop :=
  Cls K C ∧ ∃ (p f : Addr) (fd : FuncData), PropOf K C m p f ∧ Binds K fd ["self"] [] ∧ FnOk P w K mg base (L2.CX P w) k f fd ["self"] sp
theorem opL {m : Str} {e : Expr} {ta : TE} {pos : Pos} (M : Prp X.prog X.w X.K X.mg X.base k C m sp) (hr : Room (k + 1) X.A) (he : PE X e ta) (hab : attributeBase e m X.env (eval e X.env) = eval e X.env := by rfl) : PE X (.Attribute e m pos) (tProp C sp [] E0 ta) := by
  obtain ⟨c, p, f, fd, hp, hb, F⟩ := M
  exact pe_prop he c hp F hr hb .nil passL hab
end
end OZ
set_option maxRecDepth 100000
set_option maxHeartbeats 1000000
namespace OZ
open PySem PySem.Spec PyProof.Rows L2
theorem vals_reverse : ∀ {xs : List V} {us : List Value}, Vals xs us → Vals xs.reverse us.reverse
  | _, _, .nil => .nil
  | _, _, .cons r t => by
    rw [List.reverse_cons, List.reverse_cons]
    exact (vals_reverse t).append (.cons r .nil)
def rRv (K : PySem.W.Frag) : R2 := fun x z H2 Q => z = .int (-1) ∧ ∃ a xs, x = .ref a ∧ SqL K H2 a xs ∧ ∀ p, H2 p = none → Q (.ref p) (upd H2 p (.lst xs.reverse))
def tRev (K : PySem.W.Frag) (te ts : TE) : TE := fun σ H Q => te σ H fun x H1 => ts σ H1 fun z H2 => rRv K x z H2 Q
theorem pe_rev {X : Cx} {e es : Expr} {te ts : TE} {pos p2 : Pos} (he : PE X e te) (hs : PE X es ts) : PE X (.Subscript e (.Slice none none (some es) p2) pos) (tRev X.K te ts) := by
  refine ⟨fun pins s σ H Q I h => ?_⟩
  refine Subscript_ (thn (he.run pins s σ H _ I h) fun v s1 ⟨x, H1, I1, r1, q1⟩ => ?_)
  refine wpAny_Slice ?_
  rw [evalPart_none]
  refine wpAny_pure ?_
  refine wpAny_pure ?_
  rw [evalPart_some]
  refine thn (hs.run pins s1 σ H1 _ I1 q1) fun vs s3 ⟨z, H3, I3, rz, ez, a, xs, ea, hx, q3⟩ => ?_
  subst ez ea
  obtain ⟨t, rfl⟩ := (show ∃ t, vs = Value.int (-1) t from rz)
  cases (show v = Value.ref a from r1)
  have I4 : Inv X pins σ H3 { s3 with heap := s3.heap.push { cls := .type "slice", data := .fields #[.none, .none, .int (-1) t] } } := I3.kept (t' := s3.toks) fun b ob q => Heap.get?_push_of_some _ q
  show wpAny (model X.prog X.w) X.A (subscriptTail e (.Slice none none (some es) p2) (.ref a) (.ref s3.heap.objs.size)) (EP X pins σ Q) X.xe { s3 with heap := s3.heap.push { cls := .type "slice", data := .fields #[.none, .none, .int (-1) t] } }
  obtain ⟨its, r, ht, hz⟩ := I4.list hx
  have hlen := r.length
  refine tail_any (ops := [.ref a, .ref s3.heap.objs.size]) ht.isList.typeIs slot_list_getitem.lookup ?_ (by with_unfolding_all rfl)
  refine wpAny_getItem_list_slice ht.isList (Heap.IsSliceOf.new ..) .none .none (.int (-1) t) (by decide) ?_ (by rw [List.size_toArray] <;> omega)
  rw [PySem.W.krv_pick]
  refine ⟨.ref _, _, I4.laid (t' := s3.toks) (o := .lst xs.reverse) (fun b ob q => Heap.get?_push_of_some _ q) (Nat.le_refl _) ?_, rfl, q3 _ (I4.hok.fresh (Nat.le_refl _))⟩
  exact ⟨by rw [List.length_reverse]; exact hz, its.reverse, 0, r.reverse, Heap.get?_push_size _ rfl⟩
section
variable {K : PySem.W.Frag} {σ : L2.St} {H : Hp} {Q : VK} {te ts : TE} {ta : TA} {R : It → Hp → Prop}
theorem y_rev (h : te σ H fun x H1 => ts σ H1 fun z H2 => rRv K x z H2 Q) : tRev K te ts σ H Q := h
theorem z_rev {a : Addr} {xs : List V} {m : Int} (hm : m = -1) (ha : H a = some (.lst xs)) (h : ∀ p H', H p = none → Same H H' → H' p = some (.lst xs.reverse) → Q (.ref p) H') : rRv K (.ref a) (.int m) H Q := by
  subst hm
  exact ⟨rfl, a, xs, rfl, SqL.of ha, fun p hp => h p _ hp (fun b o e => upd_old hp e) upd_same⟩
end
end OZ
set_option maxRecDepth 100000
set_option maxHeartbeats 1000000
namespace OZ
open PySem PySem.Spec PyProof.Rows L2
def cf : List Int → Rat
  | [] => 1
  | [a] => (a : Rat)
  | a :: b :: r => ((1 : Int) : Rat) / cf (b :: r) + (a : Rat)
inductive Tl : List Int → Prop
  | one {l : Int} : 2 ≤ l → Sz 70 l → Tl [l]
  | cons {a : Int} {r : List Int} : 1 ≤ a → Sz 70 a → Tl r → Tl (a :: r)
theorem Tl.ne {r : List Int} (h : Tl r) : r ≠ [] := by cases h <;> simp
theorem cf_cons {a : Int} {r : List Int} (h : r ≠ []) : cf (a :: r) = ((1 : Int) : Rat) / cf r + (a : Rat) := by
  cases r with
  | nil => exact absurd rfl h
  | cons b t => rfl
theorem one_q : ((1 : Int) : Rat) = 1 := rfl
theorem inv_bd {q : Rat} (h : 1 < q) : 0 < 1 / q ∧ 1 / q < 1 := by
  have p : 0 < q := by grind
  constructor
  · exact (Rat.lt_div_iff p).mpr (by grind)
  · exact (Rat.div_lt_iff p).mpr (by grind)
theorem intq_le {a b : Int} (h : a ≤ b) : (a : Rat) ≤ (b : Rat) := Rat.intCast_le_intCast.mpr h
theorem cf_gt {r : List Int} (h : Tl r) : 1 < cf r := by
  induction h with
  | one h _ =>
    have := intq_le h
    have e : ((2 : Int) : Rat) = 2 := rfl
    show 1 < ((_ : Int) : Rat)
    grind
  | @cons a r ha _ t ih =>
    rw [cf_cons t.ne, one_q]
    have := inv_bd ih
    have h2 := intq_le ha
    rw [one_q] at h2
    grind
theorem szcf {r : List Int} (h : Tl r) : SzQ (70 + 140 * r.length) (cf r) := by
  induction h with
  | one _ h => exact (SzQ.int h (by decide)).mono (by simp)
  | @cons a r ha hz t ih =>
    rw [cf_cons t.ne]
    have g := cf_gt t
    have z : cf r ≠ 0 := by grind
    have o : SzQ 64 ((1 : Int) : Rat) := SzQ.int (show Sz 64 1 by unfold Sz; decide) (by decide)
    exact ((o.div ih z).add (SzQ.int hz (by decide))).mono (by simp only [List.length_cons]; omega)
def Pt (is : List Int) : Prop := ∃ a r, is = a :: r ∧ Sz 70 a ∧ (r = [] ∨ Tl r)
theorem tl_drop : ∀ {r : List Int} (_ : Tl r) (j : Nat), j < r.length → Tl (r.drop j)
  | _, h, 0, _ => h
  | _, .one _ _, j + 1, l => by simp at l
  | _, .cons _ _ t, j + 1, l => tl_drop t j (by simpa using l)
theorem pt_drop {is : List Int} (h : Pt is) {j : Nat} (l : j + 1 < is.length) : Tl (is.drop (j + 1)) := by
  obtain ⟨a, r, rfl, _, h | h⟩ := h
  · subst h; simp at l
  · exact tl_drop h j (by simpa using l)
theorem pt_sz {is : List Int} (h : Pt is) : ∀ i ∈ is, Sz 70 i := by
  obtain ⟨a, r, rfl, ha, h⟩ := h
  have hr : ∀ i ∈ r, Sz 70 i := by
    rcases h with h | h
    · subst h; simp
    · clear ha
      induction h with
      | one _ h => intro i hi; simp at hi; subst hi; exact h
      | cons _ h _ ih => intro i hi; rcases List.mem_cons.mp hi with e | e; · subst e; exact h
                         · exact ih i e
  intro i hi
  rcases List.mem_cons.mp hi with e | e
  · subst e; exact ha
  · exact hr i e
theorem pt_szq {is : List Int} (h : Pt is) (l : is.length ≤ 11) : SzQ 1700 (cf is) := by
  obtain ⟨a, r, rfl, ha, h⟩ := h
  rcases h with h | h
  · subst h; exact (SzQ.int ha (by decide)).mono (by decide)
  · have g := cf_gt h
    have z : cf r ≠ 0 := by grind
    have o : SzQ 64 ((1 : Int) : Rat) := SzQ.int (show Sz 64 1 by unfold Sz; decide) (by decide)
    rw [cf_cons h.ne]
    simp only [List.length_cons] at l
    exact ((o.div (szcf h) z).add (SzQ.int ha (by decide))).mono (by omega)
theorem cf_up {is : List Int} {j : Nat} {a : Int} (h : is[j]? = some a) (l : j + 1 < is.length) : cf (is.drop j) = ((1 : Int) : Rat) / cf (is.drop (j + 1)) + (a : Rat) := by
  have e : is.drop j = a :: is.drop (j + 1) := by
    rw [List.drop_eq_getElem_cons (by omega)]
    have := (List.getElem?_eq_some_iff.mp h).2
    rw [this]
  rw [e, cf_cons]
  intro z
  have := List.drop_eq_nil_iff.mp z
  omega
theorem cf_last {is : List Int} {a : Int} {j : Nat} (h : is[j]? = some a) (l : j + 1 = is.length) : cf (is.drop j) = (a : Rat) := by
  have e : is.drop j = a :: is.drop (j + 1) := by
    rw [List.drop_eq_getElem_cons (by omega)]
    have := (List.getElem?_eq_some_iff.mp h).2
    rw [this]
  rw [e, List.drop_of_length_le (by omega)]
  rfl
theorem floor1 {q : Rat} {a : Int} (h : 0 ≤ q ∧ q < 1) : (q + (a : Rat)).floor = a := floor_of (by grind) (by grind)
theorem div1 (q : Rat) : q / ((1 : Int) : Rat) = q := by rw [one_q]; grind
theorem fl_up {is : List Int} (hp : Pt is) {j : Nat} {a : Int} (h : is[j]? = some a) (l : j + 1 < is.length) : (cf (is.drop j) / ((1 : Int) : Rat)).floor = a ∧ rmod (cf (is.drop j)) ((1 : Int) : Rat) = 1 / cf (is.drop (j + 1)) := by
  have g := inv_bd (cf_gt (pt_drop hp l))
  have f : (cf (is.drop j) / ((1 : Int) : Rat)).floor = a := by
    rw [div1, cf_up h l, one_q]; exact floor1 ⟨by grind, g.2⟩
  refine ⟨f, ?_⟩
  unfold rmod
  rw [f, cf_up h l, one_q]
  grind
theorem fl_last {is : List Int} {j : Nat} {a : Int} (h : is[j]? = some a) (l : j + 1 = is.length) : (cf (is.drop j) / ((1 : Int) : Rat)).floor = a ∧ rmod (cf (is.drop j)) ((1 : Int) : Rat) = 0 := by
  have f : (cf (is.drop j) / ((1 : Int) : Rat)).floor = a := by
    rw [div1, cf_last h l]; exact Rat.floor_intCast a
  refine ⟨f, ?_⟩
  unfold rmod
  rw [f, cf_last h l, one_q]
  grind
theorem num_up {q : Rat} {a : Int} (h : 1 < q) : (((1 : Int) : Rat) / q + (a : Rat)).num = a * q.num + (q.den : Int) ∧ ((((1 : Int) : Rat) / q + (a : Rat)).den : Int) = q.num := by
  have p : 0 < q := by grind
  have np : 0 < q.num := by
    have := Rat.num_nonneg.mpr (Rat.le_of_lt p)
    have : q.num ≠ 0 := num0 (by grind)
    omega
  have nf : Nf (a * q.num + (q.den : Int)) q.num := by
    refine ⟨np, ?_⟩
    have e := (nf_rat q).gcd
    rw [Int.gcd_comm] at e
    rw [Int.gcd_comm, show a * q.num + (q.den : Int) = (q.den : Int) + q.num * a by rw [Int.mul_comm]; omega]
    rw [Int.gcd_add_mul_left_right]
    exact (nf_rat q).gcd
  have e : divq (a * q.num + (q.den : Int)) q.num = ((1 : Int) : Rat) / q + (a : Rat) := by
    have e1 := nd q
    have h1 := den0 q
    have h2 : (q.num : Rat) ≠ 0 := fun z => by have := Rat.intCast_eq_zero_iff.mp z; omega
    unfold divq
    rw [Rat.intCast_add, Rat.intCast_mul, one_q]
    generalize ((q.den : Int) : Rat) = d at *
    generalize (q.num : Rat) = n at *
    grind
  have l := low_rat (t := a * q.num + (q.den : Int)) (b := q.num) (by omega)
  have s := low_self nf
  rw [← e]
  unfold divq
  rw [← l.1, ← l.2]
  exact ⟨s.1, s.2⟩
theorem den_gt {q : Rat} {a : Int} (h : 1 < q) : ((((1 : Int) : Rat) / q + (a : Rat)).den : Int) ≠ 1 := by
  rw [(num_up h).2]
  intro z
  have e := nd q
  have d1 : (1 : Int) ≤ (q.den : Int) := by have := q.den_pos; omega
  have d2 := intq_le d1
  rw [one_q] at d2
  have p : (0 : Rat) < ((q.den : Int) : Rat) := by grind
  rw [z, one_q] at e
  have h2 : (1 : Rat) / ((q.den : Int) : Rat) ≤ 1 := by
    refine Rat.not_lt.mp fun y => ?_
    have := (Rat.lt_div_iff p).mp y
    grind
  grind
theorem cut_last (xs : List V) : cutV xs none (some (-1)) = xs.dropLast := by
  have h1 : HT.sIx xs.length 0 none = 0 := rfl
  have h2 : HT.sIx xs.length xs.length (some (-1)) = xs.length - 1 := by
    show (if (-1 : Int) < 0 then ((-1 : Int) + (xs.length : Int)).toNat else min (-1 : Int).toNat xs.length) = xs.length - 1
    rw [if_pos (by decide)]; omega
  unfold cutV
  rw [h1, h2, List.drop_zero, List.dropLast_eq_take, Nat.sub_zero]
theorem at_last {xs : List V} {v : V} {n : Nat} (l : xs.length = n + 1) (h : xs[n]? = some v) : atI xs (-1) = some v := by
  unfold atI ixN
  rw [if_neg (by decide), if_pos (by omega), l]
  show xs[((-1 : Int) + ((n + 1 : Nat) : Int)).toNat]? = some v
  rw [show ((-1 : Int) + ((n + 1 : Nat) : Int)).toNat = n by omega]; exact h
theorem rev_at {is : List Int} {m j : Nat} {y : V} (l : is.length = m + 1) (h : ((is.map V.int).dropLast.reverse)[j]? = some y) : j < m ∧ ∃ a, is[m - 1 - j]? = some a ∧ y = .int a := by
  have hl : j < ((is.map V.int).dropLast.reverse).length := (List.getElem?_eq_some_iff.mp h).1
  rw [List.length_reverse, List.length_dropLast, List.length_map, l] at hl
  have hj : j < m := by omega
  refine ⟨hj, is[m - 1 - j]'(by omega), List.getElem?_eq_getElem _, ?_⟩
  rw [List.getElem?_reverse (by rw [List.length_dropLast, List.length_map, l]; omega), List.length_dropLast, List.length_map, l, List.getElem?_dropLast] at h
  rw [List.length_map, l, show m + 1 - 1 - 1 - j = m - 1 - j by omega, if_pos (by omega), List.getElem?_map, List.getElem?_eq_getElem (by omega)] at h
  exact (Option.some.inj h).symm
theorem fit_i {i : Int} (h : Sz 1900 i) : PyData.showable (.int i) = true ∧ PyData.leavesShort 1000 (.int i) = true ∧ (PyData.int i).weight ≤ 1901 := by
  have hl : i.natAbs.log2 < 1900 := by
    by_cases z : i.natAbs = 0
    · rw [z]; decide
    · exact (Nat.log2_lt z).mpr h
  refine ⟨?_, ?_, ?_⟩
  · simp only [PyData.showable, decide_eq_true_eq]; omega
  · simp only [PyData.leavesShort, decide_eq_true_eq]
    have e := int_text_length_le10 (k := 600) (by decide) (Nat.lt_of_lt_of_le h (show 2 ^ 1900 ≤ 10 ^ 600 by decide +kernel))
    show (Str.ofString (toString i)).length ≤ 1000
    rw [PySem.ofString_length]; omega
  · simp only [PyData.weight]
    split <;> omega
theorem fit_is : ∀ (is : List Int), (∀ i ∈ is, Sz 70 i) → PyData.showableAll (is.map PyData.int) = true ∧ PyData.leavesShortAll 1000 (is.map PyData.int) = true ∧ PyData.weightAll (is.map PyData.int) ≤ 72 * is.length ∧ PyData.depthAll (is.map PyData.int) = 0
  | [], _ => ⟨rfl, rfl, by simp [PyData.weightAll], by simp [PyData.depthAll]⟩
  | i :: r, h => by
    obtain ⟨a1, a2, a3, a4⟩ := fit_is r fun j hj => h j (List.mem_cons_of_mem _ hj)
    have hi := h i List.mem_cons_self
    obtain ⟨b1, b2, _⟩ := fit_i (hi.mono (show 70 ≤ 1900 by decide))
    have b3 : (PyData.int i).weight ≤ 71 := by
      have hl : i.natAbs.log2 < 70 := by
        by_cases z : i.natAbs = 0
        · rw [z]; decide
        · exact (Nat.log2_lt z).mpr hi
      simp only [PyData.weight]
      split <;> omega
    refine ⟨by simp [PyData.showableAll, a1, b1], by simp [PyData.leavesShortAll, a2, b2], ?_, ?_⟩
    · simp only [List.map_cons, PyData.weightAll, List.length_cons]; omega
    · simp [PyData.depthAll, PyData.depth, a4]
theorem fit_lst {is : List Int} (h : ∀ i ∈ is, Sz 70 i) (l : is.length ≤ 100) : Fit (.list (is.map PyData.int)) 20 10000 := by
  obtain ⟨a1, a2, a3, a4⟩ := fit_is is h
  exact ⟨by simp [PyData.showable, a1], by simp [PyData.leavesShort, a2], by simp [PyData.depth, a4], by simp only [PyData.weight]; omega⟩
theorem dq_is {p : Addr} {H : Hp} : ∀ is : List Int, DqAll p H (is.map V.int) (is.map PyData.int)
  | [] => .nil
  | i :: r => .cons (.int i) (dq_is r)
theorem y_reprL {a p : Addr} {H : Hp} {Q : VK} {is : List Int} (n : a ≠ p) (ha : H a = some (.lst (is.map V.int))) (h : ∀ i ∈ is, Sz 70 i) (l : is.length ≤ 100) (q : Q (.str (PyData.list (is.map PyData.int)).shown) H) : rReprE [.ref a] H Q :=
  ⟨p, _, _, rfl, .lst n ha (dq_is is), fit_lst h l, q⟩
end OZ
set_option maxRecDepth 100000
set_option maxHeartbeats 1000000
namespace OZ
open PySem PySem.Spec PyProof.Rows L2
section
variable {K : PySem.W.Frag} {σ : L2.St} {H : Hp} {Q : VK} {te ts : TE} {ta : TA} {R : It → Hp → Prop} {g : TG} {tb : TS} {D : Ends}
theorem y_iRng1 (h : ta σ H fun vs H1 => ∃ j : Int, vs = [.int j] ∧ -(2 ^ 62) ≤ j ∧ j < 2 ^ 62 ∧ R (Itr 0 j.toNat) H1) : iRng1 ta σ H R := h
theorem y_iRng2 (h : ta σ H fun vs H1 => ∃ i j : Int, vs = [.int i, .int j] ∧ (-(2 ^ 62) ≤ i ∧ i < 2 ^ 62 ∧ -(2 ^ 62) ≤ j ∧ j < 2 ^ 62) ∧ R (Itr i (j - i).toNat) H1) : iRng2 ta σ H R := h
theorem f_range {lo : Int} {n : Nat} (Pv : Nat → L2.St → Hp → Prop) (h0 : Pv 0 σ H)
    (hs : ∀ i σ H, i < n → Pv i σ H → g (.int (lo + i)) σ H fun σ2 H2 => tb { D with nx := Pv (i + 1), ct := Pv (i + 1), bk := D.nx } σ2 H2) (hd : ∀ σ H, Pv n σ H → D.nx σ H) : ForB (Itr lo n) g tb D σ H := for_range Pv h0 hs hd
def LcB (J : It) (g : TG) (tt : TT) (te : TE) (vs : List Nat) (σ : L2.St) (H1 : Hp) (Q : VK) : Prop := ∀ D, H1 D = none → ∃ W : Nat → Nat → Hp → Prop, (∃ m, W 0 m (upd H1 D (.lst []))) ∧ ∀ i m H, W i m H →
  (J.stop i H ∧ Q (.ref D) H) ∨ (J.go i H ∧ ∃ Nx : Hp → Prop, (∀ H', Nx H' → ∃ m', m' < m ∧ W (i + 1) m' H') ∧ ∀ x H', J.yld i H x H' → g x (wipe σ vs) H' fun σ2 H2 => wipe σ2 vs = wipe σ vs ∧ tt σ2 H2 fun b H3 =>
    if b = true then te σ2 H3 fun y H4 => ∃ acc, H4 D = some (.lst acc) ∧ acc.length < sizeLine ∧ Nx (upd H4 D (.lst (acc ++ [y]))) else Nx H3)
theorem y_rgF1 {j : Int} (h1 : -(2 ^ 62) ≤ j ∧ j < 2 ^ 62) (h : ForB (Itr 0 j.toNat) g tb D σ H) : ∃ j' : Int, [V.int j] = [.int j'] ∧ -(2 ^ 62) ≤ j' ∧ j' < 2 ^ 62 ∧ ForB (Itr 0 j'.toNat) g tb D σ H := ⟨j, rfl, h1.1, h1.2, h⟩
theorem y_rgF2 {i j : Int} (h1 : -(2 ^ 62) ≤ i ∧ i < 2 ^ 62 ∧ -(2 ^ 62) ≤ j ∧ j < 2 ^ 62) (h : ForB (Itr i (j - i).toNat) g tb D σ H) : ∃ i' j' : Int, [V.int i, V.int j] = [.int i', .int j'] ∧ (-(2 ^ 62) ≤ i' ∧ i' < 2 ^ 62 ∧ -(2 ^ 62) ≤ j' ∧ j' < 2 ^ 62) ∧ ForB (Itr i' (j' - i').toNat) g tb D σ H := ⟨i, j, rfl, h1, h⟩
theorem y_rgL1 {j : Int} {tt : TT} {vs : List Nat} (h1 : -(2 ^ 62) ≤ j ∧ j < 2 ^ 62) (h : LcB (Itr 0 j.toNat) g tt te vs σ H Q) : ∃ j' : Int, [V.int j] = [.int j'] ∧ -(2 ^ 62) ≤ j' ∧ j' < 2 ^ 62 ∧ LcB (Itr 0 j'.toNat) g tt te vs σ H Q := ⟨j, rfl, h1.1, h1.2, h⟩
theorem y_rgL2 {i j : Int} {tt : TT} {vs : List Nat} (h1 : -(2 ^ 62) ≤ i ∧ i < 2 ^ 62 ∧ -(2 ^ 62) ≤ j ∧ j < 2 ^ 62) (h : LcB (Itr i (j - i).toNat) g tt te vs σ H Q) : ∃ i' j' : Int, [V.int i, V.int j] = [.int i', .int j'] ∧ (-(2 ^ 62) ≤ i' ∧ i' < 2 ^ 62 ∧ -(2 ^ 62) ≤ j' ∧ j' < 2 ^ 62) ∧ LcB (Itr i' (j' - i').toNat) g tt te vs σ H Q := ⟨i, j, rfl, h1, h⟩
theorem y_lc {wi : TI} {tt : TT} {vs : List Nat} (h : wi σ H fun J H1 => LcB J g tt te vs σ H1 Q) : tLc wi g tt te vs σ H Q := h
theorem l_range {lo : Int} {n : Nat} {tt : TT} {vs : List Nat} (Pv : Addr → Nat → Hp → Prop) (h0 : ∀ D, H D = none → Pv D 0 (upd H D (.lst [])))
    (hs : ∀ D i H1, H D = none → i < n → Pv D i H1 → g (.int (lo + i)) (wipe σ vs) H1 fun σ2 H2 => wipe σ2 vs = wipe σ vs ∧ tt σ2 H2 fun b H3 =>
      if b = true then te σ2 H3 fun y H4 => ∃ acc, H4 D = some (.lst acc) ∧ acc.length < sizeLine ∧ Pv D (i + 1) (upd H4 D (.lst (acc ++ [y]))) else Pv D (i + 1) H3) (hd : ∀ D H1, H D = none → Pv D n H1 → Q (.ref D) H1) : LcB (Itr lo n) g tt te vs σ H Q :=
  fun D hD => lc_range (Pv D) (h0 D hD) (fun i H1 hi p => hs D i H1 hD hi p) (fun H1 p => hd D H1 hD p)
theorem y_glst {n : Nat} {t : TGs} {a : Addr} {xs : List V} {R : L2.St → Hp → Prop} (ha : H a = some (.lst xs)) (hl : xs.length = n) (h : t xs σ H R) : gLst K n t (.ref a) σ H R := ⟨a, xs, rfl, SqL.of ha, hl, h⟩
end
end OZ
set_option maxRecDepth 100000
set_option maxHeartbeats 1000000
namespace OZ
open PySem PySem.Spec PyProof.Rows L2
def tk (j : Nat) : Rat := divq 1 ((1 + (j : Int)) * (1 + (j : Int) + 1))
def hs (j : Nat) : Rat := divq (j : Int) ((j : Int) + 1)
theorem cne {a : Int} (h : a ≠ 0) : (a : Rat) ≠ 0 := fun z => h (Rat.intCast_eq_zero_iff.mp z)
theorem hs_up (j : Nat) : hs j + tk j = hs (j + 1) := by
  have h1 := cne (show (1 + (j : Int)) ≠ 0 by omega)
  have h2 := cne (show (1 + (j : Int) + 1) ≠ 0 by omega)
  have h3 := cne (show ((j : Int) + 1) ≠ 0 by omega)
  have h4 := cne (show (((j + 1 : Nat) : Int) + 1) ≠ 0 by omega)
  unfold hs tk divq
  have e : ((j + 1 : Nat) : Int) = (j : Int) + 1 := by omega
  rw [e] at h4 ⊢
  rw [Rat.intCast_mul]
  simp only [Rat.intCast_add, one_q] at *
  generalize ((j : Int) : Rat) = x at *
  grind
theorem hs0 : hs 0 = ((0 : Int) : Rat) := by
  unfold hs divq
  show ((0 : Int) : Rat) / (((0 : Int) + 1 : Int) : Rat) = _
  rw [show ((0 : Int) + 1 : Int) = 1 from rfl, one_q, show ((0 : Int) : Rat) = 0 from rfl]
  grind
theorem sz_hs {j : Nat} (h : j ≤ 100) : SzQ 64 (hs j) := SzQ.of (show Sz 64 _ by unfold Sz; omega) (show Sz 64 _ by unfold Sz; omega) (by omega)
theorem sz_tk {j : Nat} (h : j ≤ 100) : SzQ 64 (tk j) := by
  refine SzQ.of (show Sz 64 1 by unfold Sz; decide) ?_ ?_
  · have h1 : (1 + (j : Int)) * (1 + (j : Int) + 1) ≤ 101 * 102 := Int.mul_le_mul (by omega) (by omega) (by omega) (by omega)
    have h2 : 0 ≤ (1 + (j : Int)) * (1 + (j : Int) + 1) := Int.mul_nonneg (by omega) (by omega)
    unfold Sz; omega
  · exact Int.mul_ne_zero (by omega) (by omega)
theorem hs_rest (N : Nat) : -hs (N + 1) + ((1 : Int) : Rat) = divq 1 (1 + (N : Int) + 1) := by
  have h2 := cne (show (1 + (N : Int) + 1) ≠ 0 by omega)
  have e : ((N + 1 : Nat) : Int) = (N : Int) + 1 := by omega
  unfold hs divq
  rw [e]
  simp only [Rat.intCast_add, one_q] at *
  generalize ((N : Int) : Rat) = x at *
  grind
theorem hs_all (N : Nat) : hs (N + 1) = divq (1 + (N : Int)) (1 + (N : Int) + 1) := by
  unfold hs
  rw [show ((N + 1 : Nat) : Int) = 1 + (N : Int) by omega]
def pw (j : Nat) : Rat := divq 1 (2 ^ (j + 1))
def pS (n j : Nat) : Rat := divq (2 ^ j - 1) (2 ^ n)
theorem p2 (n : Nat) : ((2 : Int) ^ n) ≠ 0 := Int.ne_of_gt (Int.pow_pos (by decide))
theorem q2 (n : Nat) : (((2 : Int) ^ n : Int) : Rat) ≠ 0 := cne (p2 n)
theorem pS_up {n j : Nat} (h : j < n) : pS n j + pw (n - 1 - j) = pS n (j + 1) := by
  have e : (2 : Int) ^ n = 2 ^ j * 2 ^ (n - 1 - j + 1) := by rw [← Int.pow_add]; congr 1; omega
  unfold pS pw divq
  have h1 := q2 j
  have h2 := q2 (n - 1 - j + 1)
  rw [e, Int.pow_succ 2 j, Rat.intCast_mul, Rat.intCast_sub, Rat.intCast_sub, Rat.intCast_mul, one_q]
  have two : ((2 : Int) : Rat) = 2 := rfl
  rw [two]
  generalize (((2 : Int) ^ j : Int) : Rat) = x at *
  generalize (((2 : Int) ^ (n - 1 - j + 1) : Int) : Rat) = y at *
  grind
theorem pS0 (n : Nat) : pS n 0 = 0 := by
  unfold pS divq
  rw [show ((2 : Int) ^ 0 - 1) = 0 from rfl, show ((0 : Int) : Rat) = 0 from rfl]
  have := q2 n
  grind
theorem pS_all (n : Nat) : pS n n = -(divq 1 (2 ^ n)) + ((1 : Int) : Rat) := by
  have := q2 n
  unfold pS divq
  rw [Rat.intCast_sub, one_q]
  grind
theorem sz2 {n : Nat} (h : n ≤ 60) : Sz 62 ((2 : Int) ^ n) := by
  unfold Sz
  have e : ((2 : Int) ^ n).natAbs = 2 ^ n := by rw [Int.natAbs_pow]; rfl
  rw [e]
  exact Nat.pow_lt_pow_right (by decide) (by omega)
theorem sz_pw {j : Nat} (h : j ≤ 50) : SzQ 64 (pw j) := SzQ.of (show Sz 64 1 by unfold Sz; decide) ((sz2 (by omega)).mono (by decide)) (p2 _)
theorem sz_pS {n j : Nat} (h : j ≤ 50) (hn : n ≤ 50) : SzQ 64 (pS n j) := SzQ.of (((sz2 (by omega)).sub (show Sz 1 1 by unfold Sz; decide)).mono (by decide)) ((sz2 (by omega)).mono (by decide)) (p2 _)
end OZ
set_option maxRecDepth 100000
set_option maxHeartbeats 2000000
namespace OZ
open PySem PySem.Spec PyProof.Rows L2 LamX
section
variable {X : Cx} {pins : List (Addr × Obj)} {σ : L2.St} {H : Hp} {s : Shared}
theorem actS {CXg : CXT} {Eg : XK} {Ng : List Str} {qg : Str} {sg : Scope} {g f c2 : Addr} {cdg pm ctv : Value} {lps : Arguments} {lb : Expr} {lsc : Scope} {k i : Nat} {a : Str} {pn : List (Addr × Obj)} {xe : Value → Shared → Prop} {W : WX} {t : XK → TE} {p1 p2 : Pos}
    (I : Inv X pins σ H s) (L : LamS X.env.scope lsc) (there : s.heap.get? f = some (PySem.W.kla_obj "<lambda>" (X.env.qual ++ "<lambda>") lps lb lsc (cloFrom X.env.cells lsc.names []) pm c2 ctv)) (fresh : H f = none) (off : f ∉ frs X.stack)
    (none_in : bindArgs (PySem.W.kla_fn "<lambda>" (X.env.qual ++ "<lambda>") lps lb lsc (cloFrom X.env.cells lsc.names []) pm (.ref c2) ctv) ⟨[], []⟩ = pure [])
    (tk : Takes ((cxOf CXg X.prog X.w X.K X.mg X.base Ng qg sg g cdg X.A X.stack s H Eg).tr pn xe) W) (room : Room (k + 1) (X.A.deeper (envOfC qg sg s.heap.objs.size g cdg)))
    (walk : ∀ (A : Around) (outer : List Env) (s : Shared) (H : Hp) (E : XK), Room k (A.deeper (lamEnv X lsc s.heap.objs.size f c2)) → PE (lamCx X A outer s H E lsc f c2) lb (t E))
    (hN : Ng[i]? = some a) (hv : Vis sg a) (hd : (a == ("__debug__" : Str)) = false) (hcd : (a == ("__classdict__" : Str)) = false) :
    PE ((cxOf CXg X.prog X.w X.K X.mg X.base Ng qg sg g cdg X.A X.stack s H Eg).tr pn xe) (.Call (.Name a p1) [] [] p2)
      (fun τ G Q => τ[i]? = some (some (.ref f)) ∧ G c2 = some (CodeO c2 (X.env.qual ++ "<lambda>")) ∧ t (WE W τ) σ G Q) := by
  constructor
  intro pz sz τ G Q IZ h
  obtain ⟨slot, code, rd⟩ := h
  apply wpAny_Call_Name_kw
  apply thn ((pe_var (pos := p1) (i := i) hN hv hd hcd).run pz sz τ G (fun v G1 => v = .ref f ∧ G1 = G) IZ ⟨.ref f, slot, rfl, rfl⟩)
  rintro u s1 ⟨v, G1, I1, r1, rfl, eG⟩
  rw [eG] at I1
  cases (show u = Value.ref f from r1)
  have here := I1.base.keep f _ there fresh off (fun z => nomatch (show f ∈ ([] : List Addr) from z))
  apply PySem.W.callWith_F0 ⟨_, _, _, _, here⟩
  have un : Un (frs X.stack) [] H G s.heap s1.heap := I1.base
  obtain ⟨⟨oc, vs, tt, h1, h2, h3⟩, _, _⟩ := I1.hok c2 _ code
  have ran : codeAny (model X.prog X.w) (X.A.deeper (envOfC qg sg s.heap.objs.size g cdg)) (.call (.ref f) ⟨[], []⟩)
      (CR (L2.CX X.prog X.w) (envOfC qg sg s.heap.objs.size g cdg :: X.stack) X.prog X.w G s1 Q (WE W τ)) s1 := by
    apply PySem.W.kla_callFunE room.depth here rfl L.co L.gen rfl ⟨c2, oc, vs, tt, rfl, h1, h2, h3⟩
    rw [none_in]
    apply wpAny_pure
    refine wpAny_newFunctionEnv (fun y hy => (L.own y hy).2) (fun y hy => absurd hy (by simp)) ?_ L.kind
    intro hh hns hsb
    refine ⟨I1.nolimit.fresh _ hsb, ?_⟩
    change codeAny _ _ (.expr lb (lamEnv X lsc s1.heap.objs.size f c2)) _ _
    have stays : ∀ b o, s1.heap.get? b = some o → hh.get? b = some o := by
      intro b o z
      exact hsb.extBut b o (Nat.ne_of_lt (Heap.lt_size z)) (Heap.get?_push_of_some _ z)
    have J := lam_start2 (E := WE W τ) (f := f) (c' := c2) (tk := s1.toks + ([] : List (Str × Value)).length) I L I1.env0 room.hd un hns stays
    apply PySem.W.kla_codeExpr
    apply wpAny_mono ((walk _ _ s1 G (WE W τ) (room.deeper _)).run [] _ _ G Q J rd) ?_ (fun _ _ z => z)
    rintro v s' ⟨w2, H2, J2, rv, q⟩
    exact ⟨w2, H2, J2.os, J2.bare, J2.base, J2.hok, rv, q⟩
  apply wpAny_call
  apply codeAny_mono ran
  intro res s' z
  cases res with
  | error e => exact passAt tk τ pz G s1 e s' I1 z
  | ok fl =>
    cases fl with
    | ret u => exact I1.after z
    | next => exact z.elim
    | brk => exact z.elim
    | cont => exact z.elim
end
def GivesS (X : Cx) (k : Nat) (Ng : List Str) (x : Str) (sg : Scope) (g : Addr) (cdg : Value) (bg : List Stmt) (a : Str) (q : Str) (TT : (XK → Hp → VK → Prop) → Hp → VK → Prop) : Prop :=
  ∀ (f c2 : Addr) (s : Shared) (H : Hp) (Q : VK) (tl : XK → Hp → VK → Prop), Room k (X.A.deeper (envOfC x sg s.heap.objs.size g cdg)) → (X.A.guards = some [] → (X.A.deeper (envOfC x sg s.heap.objs.size g cdg)).guards = some []) →
    (∀ (W : WX) (pn : List (Addr × Obj)) (xe : Value → Shared → Prop) (p1 p2 : Pos), Takes ((cxOf C8.CX0 X.prog X.w X.K X.mg X.base Ng x sg g cdg X.A X.stack s H C8.E0).nox.tr pn xe) W →
      PE ((cxOf C8.CX0 X.prog X.w X.K X.mg X.base Ng x sg g cdg X.A X.stack s H C8.E0).nox.tr pn xe) (.Call (.Name a p1) [] [] p2) (fun τ G Q => τ[0]? = some (some (.ref f)) ∧ G c2 = some (CodeO c2 q) ∧ tl (WE W τ) G Q)) →
    H c2 = some (CodeO c2 q) → TT tl H Q → ∃ t, PSs (cxOf C8.CX0 X.prog X.w X.K X.mg X.base Ng x sg g cdg X.A X.stack s H C8.E0).nox bg t ∧ t { nx := fun _ H' => Q .non H', rt := Q } (L2.start Ng [.ref f]) H
def tLm (T : List (Addr × Str)) (TT : (XK → Hp → VK → Prop) → Hp → VK → Prop) (t : XK → TE) : TE := fun σ H Q => Tabs T H ∧ ∀ H1, ExtN H H1 → Tabs T H1 → TT (fun E G R => t E σ G R) H1 Q
structure Hrd (K : PySem.W.Frag) (mg : Str → Option Value) (x a : Str) (st : Stmt) (Ng : List Str) (g : Addr) (fd : FuncData) : Prop where
  F : FunD K x x (defArgs st) (defBody st) (defScope st) [] [] g fd
  hm : mg x = some (.ref g)
  hb : L2.Binds K fd [a] []
  sg : FnScope Ng [a] (defScope st)
  hN : Ng[0]? = some a
  hv : Vis (defScope st) a
structure LamT (X : Cx) (T : List (Addr × Str)) (c P : Addr) : Prop where
  tb : TabB X.base X.mg c P
  mem : (P, X.env.qual ++ "<lambda>") ∈ T
  one : ∀ p ∈ T, p.1 = P → p.2 = X.env.qual ++ "<lambda>"
section
variable {X : Cx}
theorem lamS {T : List (Addr × Str)} {TT : (XK → Hp → VK → Prop) → Hp → VK → Prop} {x a : Str} {g c P : Addr} {st : Stmt} {fd : FuncData} {k : Nat} {Ng : List Str} {lps : Arguments} {lb : Expr} {lsc : Scope} {t : XK → TE} {p lpos pos : Pos}
    (D : Hrd X.K X.mg x a st Ng g fd) (gives : ∀ cdg q, GivesS X (k + 1) Ng x (defScope st) g cdg (defBody st) a q TT) (B : LamT X T c P) (hcode : X.env.code = .ref c) (room : Room (k + 2) X.A)
    (walk : ∀ (A : Around) (outer : List Env) (s : Shared) (H : Hp) (E : XK) (f c2 : Addr), Room k (A.deeper (lamEnv X lsc s.heap.objs.size f c2)) → PE (lamCx X A outer s H E lsc f c2) lb (t E))
    (hg : Gl X x := by rfl) (hL : lamSB X.env.scope lsc = true := by decide +kernel) (hdef : defaultsOf lps X.env = ([], []) := by rfl)
    (hbind : ∀ (q : Str) (cl : List (Str × Addr)) (pm cv ctv : Value), bindArgs (PySem.W.kla_fn "<lambda>" q lps lb lsc cl pm cv ctv) ⟨[], []⟩ = pure [] := by intros; rfl)
    (hdb : (x == ("__debug__" : Str)) = false := by decide) (hd : (a == ("__debug__" : Str)) = false := by decide) (hcd : (a == ("__classdict__" : Str)) = false := by decide) :
    PE X (.Call (.Name x p) [.Lambda lps lb lsc lpos] [] pos) (tLm T TT t) := by
  have L := lamS_by hL
  obtain ⟨F, hm, hb, sg, hN, hv⟩ := D
  obtain ⟨oc, od, dV, kV, doc, pm, an, cdv, ct, osl, rfl, lk, hcc, _, _⟩ := F.ex
  constructor
  intro pins s σ H Q I h
  obtain ⟨tabs, h⟩ := h
  apply wpAny_Call_Name_kw (ld_glob I hg hm ?_ hdb)
  apply PySem.W.callWith_K (h₀ := X.base) I.ok.mod.kin F.kp ?_ (by rfl) (by rfl)
  change wpAny _ _ (spliced ((false, eval (.Lambda lps lb lsc lpos) X.env) :: backTo pos (starEach [] X.env))) _ _ s
  apply Calls.spliced_cons
  apply lam_make2 I B.tb hcode B.mem B.one tabs hdef (L.has I.ok)
  intro f c2 pm2 ctv H1 s1 I1 ext tabs1 there fresh off code
  apply Calls.spliced_nil
  refine ⟨I1.kIn, ?_⟩
  have ran : codeAny (model X.prog X.w) X.A (.call (.ref g) ⟨[.ref f], []⟩) (CR C8.CX0 X.stack X.prog X.w H1 s1 Q C8.E0) s1 := by
    apply run_ofS (N := Ng) (ps := [a]) (us := [.ref f]) (vs := [.ref f]) lk hcc sg room I1.env0 (hb s1 [.ref f] I1.kIn rfl) (.cons rfl .nil) rfl
    intro room2
    obtain ⟨t2, d2, q2⟩ := gives cdv _ f c2 s1 H1 Q (fun E G R => t E σ G R) room2 (fun z => guards_deeper z) (fun W pn xe p1 p2 tk => actS (CXg := C8.CX0) (Eg := C8.E0) (Ng := Ng) (i := 0) I1 L there fresh off (hbind _ _ _ _ _) tk room2 (fun A outer s H E r => walk A outer s H E f c2 r) hN hv hd hcd) code (h H1 ext tabs1)
    exact ⟨t2, d2.nox, q2⟩
  apply wpAny_call
  apply codeAny_mono ran
  intro res s2 z
  cases res with
  | error e => exact (show False from z).elim
  | ok fl =>
    cases fl with
    | ret u => exact I1.after z
    | next => exact z.elim
    | brk => exact z.elim
    | cont => exact z.elim
end
end OZ
set_option maxRecDepth 100000
set_option maxHeartbeats 1000000
namespace OZ
open PySem PySem.Spec PyProof.Rows L2 LamX
theorem fnGC {P : Program} {w : World} {K : PySem.W.Frag} {mg : Str → Option Value} {base : Heap} {k : Nat} {f : Addr} {x qual : Str} {params : Arguments} {body : List Stmt} {scope : Scope} {fd : FuncData} {N ps : List Str} {sp : Sp} {dn : He.Defn}
    (F : FunD K x qual params body scope [] [] f fd) (hf : f = He.fAd K dn) (S : FnScope N ps scope) (len : ∀ vs H Q E, sp vs H Q E → vs.length = ps.length)
    (walk : ∀ (A : Around) (outer : List Env) (s : Shared) (H : Hp) (vs : List V) (Q : VK) (E : XK), Room k (A.deeper (envOfC qual scope s.heap.objs.size f (.ref (He.cT K dn).1))) → (A.deeper (envOfC qual scope s.heap.objs.size f (.ref (He.cT K dn).1))).guards = some [] → sp vs H Q E →
      ∃ t, PSs (cxOf (L2.CX P w) P w K mg base N qual scope f (.ref (He.cT K dn).1) A outer s H E) body t ∧ t { nx := fun _ H' => Q .non H', rt := Q } (start N vs) H) : FnG P w K mg base (k + 1) f fd ps sp := by
  obtain ⟨oc, od, dV, kV, doc, pm, an, cdv, ct, osl, rfl, lk, hcd, _, _⟩ := F.ex
  obtain ⟨c, rfl⟩ := He.codeIn_ref hcd
  have ec : (He.cT K dn).1 = c := He.codeOf_eq (hf ▸ lk) rfl
  rw [ec] at walk
  refine ⟨len, ?_⟩
  intro A outer s H args us vs Q E room gd env bnd rel want
  have kin : K.In s.heap := env.mod.kin.keeps (fun b o q => (env.bs b o q).1)
  have nolim : s.heap.NoLimit := env.mod.nolimit.keeps (fun b o q => (env.bs b o q).1)
  have kinds : ∀ y ∈ ps.zip us, scope.names.lookup y.1 = some .local ∨ (scope.names.lookup y.1 = some .cell ∧ ((cellsFrom (s.heap.objs.size + 1) scope.names []).lookup y.1).isSome = true) := by
    rintro ⟨y, v⟩ hy
    cases S.par y (List.of_mem_zip hy).1 with
    | inl q => exact Or.inl q
    | inr q => exact Or.inr ⟨q, PySem.W.cellsFrom_some _ _ _ (Or.inl q)⟩
  apply codeAny_call_function room.depth (kin _ _ lk) rfl S.co S.gen rfl (PySem.W.codeRec_of kin hcd) (bnd _ _ _ _ _)
  apply wpAny_newFunctionEnv_cells S.kind kinds
  rintro e2 rfl s1 entered
  refine ⟨nolim.keeps entered.toInCall.keep, codeAny_func ?_⟩
  obtain ⟨t, ht, hq⟩ := walk A outer s H vs Q E (room.deeper _) (guards_deeper gd) want
  have I := inv_start (CX := L2.CX P w) (E := E) S room.hd env (len _ _ _ _ want) rel entered
  apply wpAny_mono (ht.run [] s1 (start N vs) H _ I hq) ?_ (fun e s' z => z)
  intro fl s' z
  cases fl with
  | ret u => obtain ⟨v, σ', H', J, rv, q⟩ := z; exact ⟨v, H', J.os, J.bare, J.base, J.hok, rv, q⟩
  | next => obtain ⟨σ', H', J, q⟩ := z; exact ⟨V.non, H', J.os, J.bare, J.base, J.hok, rfl, q⟩
  | brk => obtain ⟨_, _, _, q⟩ := z; exact q.elim
  | cont => obtain ⟨_, _, _, q⟩ := z; exact q.elim
section
variable {T : List (Addr × Str)} {H H' : Hp} {p c l a : Addr} {n : Nat} {o : HO} {xs : List V}
theorem Tabs.same (s : Same H H') (t : Tabs T H) : Tabs T H' := LamX.Tabs.ext t s
theorem Tabs.but (hp : ∃ ys, H p = some (.lst ys)) (k : ∀ b u, b ≠ p → H b = some u → H' b = some u) (t : Tabs T H) : Tabs T H' := by
  obtain ⟨ys, hp⟩ := hp
  intro q hq
  obtain ⟨ps, h1, h2, h3⟩ := t q hq
  refine ⟨ps, k _ _ (fun z => ?_) h1, h2, fun pos cv e => ?_⟩
  · rw [z, hp] at h1; cases h1
  · obtain ⟨c, e1, e2⟩ := h3 pos cv e
    refine ⟨c, e1, k _ _ (fun z => ?_) e2⟩
    rw [z, hp] at e2
    unfold CodeO at e2
    cases e2
theorem Tabs.kp (hp : PenAt H p c n) (k : Kp p H H') (t : Tabs T H) : Tabs T H' := by
  obtain ⟨ns, b, l, h1, _⟩ := hp
  exact Tabs.but ⟨_, h1⟩ k t
theorem Tabs.lst (hl : H l = some (.lst xs)) (t : Tabs T H) : Tabs T (upd H l o) := Tabs.but ⟨_, hl⟩ (fun b u n e => by rw [upd_ne n]; exact e) t
theorem esat (e : ExtN H H') (h : H a = some o) (n : ∀ ps, o ≠ .tbl ps) : H' a = some o := e a o h n
theorem ExtN.free (e : ExtN H H') (h : H' a = none) : H a = none ∨ ∃ ps, H a = some (.tbl ps) := by
  cases z : H a with
  | none => exact .inl rfl
  | some o =>
    by_cases t : ∃ ps, o = .tbl ps
    · obtain ⟨ps, rfl⟩ := t
      exact .inr ⟨ps, rfl⟩
    · rw [e a o z fun ps y => t ⟨ps, y⟩] at h; cases h
theorem AmQ.extN {C : Addr} {q : Rat} (e : ExtN H H') (h : AmQ C H a q) : AmQ C H' a q := by
  obtain ⟨dx, h⟩ := h
  exact ⟨dx, e _ _ h fun ps z => by cases z⟩
theorem NumQ.extN {C : Addr} {v : V} {q : Rat} (e : ExtN H H') (h : NumQ C H v q) : NumQ C H' v q := by
  rcases h with h | ⟨a, e', h⟩
  · exact .inl h
  · exact .inr ⟨a, e', AmQ.extN e h⟩
theorem PenAt.extN (h : PenAt H p c n) (e : ExtN H H') : PenAt H' p c n := by
  obtain ⟨ns, b, l, h1, h2, h3, h4, h5⟩ := h
  exact ⟨ns, b, l, e _ _ h1 (fun ps z => by cases z), e _ _ h2 (fun ps z => by cases z), h3, h4, h5⟩
def KN (p : Addr) (H H' : Hp) : Prop := ∀ a o, a ≠ p → (∀ ps, o ≠ .tbl ps) → H a = some o → H' a = some o
theorem KN.refl : KN p H H := fun _ _ _ _ h => h
theorem KN.trans {H1 H2 : Hp} (a : KN p H H1) (b : KN p H1 H2) : KN p H H2 := fun c o n m h => b c o n m (a c o n m h)
theorem KN.kp (k : Kp p H H') : KN p H H' := fun a o n _ h => k a o n h
theorem KN.same (k : Same H H') : KN p H H' := fun a o _ _ h => k a o h
theorem KN.ext (k : ExtN H H') : KN p H H' := fun a o _ m h => k a o h m
theorem AmQ.kn {C : Addr} {q : Rat} {b : Addr} (hp : PenAt H p c n) (k : KN p H H') (h : AmQ C H b q) : AmQ C H' b q := by
  obtain ⟨dx, h⟩ := h
  refine ⟨dx, k _ _ (fun z => ?_) (fun ps z => by cases z) h⟩
  obtain ⟨ns, b', l, h1, _⟩ := hp
  rw [z, h1] at h; cases h
end
section
variable {H H' H1 : Hp} {l a : Addr} {o : HO} {xs : List V} {y : V} {Q : VK}
theorem z_app (hl : H l = some (.lst xs)) (hz : xs.length ≤ 1000) (h : ∀ H', Kp l H H' → H' l = some (.lst (xs ++ [y])) → Q .non H') : rAppend (.ref l) [y] H Q := y_app hl hz (h _ Kp.set upd_same)
theorem kpsat (k : Kp l H H') (hl : H l = some (.lst xs)) (h : H a = some o) (n : ∀ ys, o ≠ .lst ys) : H' a = some o := k a o (fun z => by rw [z, hl] at h; cases h; exact n _ rfl) h
theorem kpne (k : Kp l H H') (n : a ≠ l) (h : H a = some o) : H' a = some o := k a o n h
theorem AmQ.kpl {C : Addr} {q : Rat} (k : Kp l H H') (hl : H l = some (.lst xs)) (h : AmQ C H a q) : AmQ C H' a q := by
  obtain ⟨dx, h⟩ := h
  exact ⟨dx, kpsat k hl h fun ys z => by cases z⟩
theorem NumQ.kpl {C : Addr} {v : V} {q : Rat} (k : Kp l H H') (hl : H l = some (.lst xs)) (h : NumQ C H v q) : NumQ C H' v q := by
  rcases h with h | ⟨b, e, h⟩
  · exact .inl h
  · exact .inr ⟨b, e, AmQ.kpl k hl h⟩
theorem Tabs.kpl {T : List (Addr × Str)} (k : Kp l H H') (hl : H l = some (.lst xs)) (t : Tabs T H) : Tabs T H' := Tabs.but ⟨_, hl⟩ k t
theorem ExtN.seal (e : ExtN H H1) (n : H1 l = none) (k : KN l H1 H') : ExtN H H' := fun b o h m => by
  have h1 := e b o h m
  exact k b o (fun z => by rw [z, n] at h1; cases h1) m h1
end
theorem y_lm {T : List (Addr × Str)} {TT : (XK → Hp → VK → Prop) → Hp → VK → Prop} {t : XK → TE} {σ : L2.St} {H : Hp} {Q : VK} (hT : Tabs T H) (h : ∀ H1, ExtN H H1 → Tabs T H1 → TT (fun E G R => t E σ G R) H1 Q) : tLm T TT t σ H Q := ⟨hT, h⟩
def Nx (R : L2.St → Hp → Prop) (σ : L2.St) (H : Hp) : Prop := R σ H
theorem y_nx {R : L2.St → Hp → Prop} {σ σ2 : L2.St} {H : Hp} (e : σ = σ2) (h : R σ2 H) : Nx R σ H := by subst e; exact h
theorem x_gn {i : Nat} {v : V} {σ : L2.St} {H : Hp} {R : L2.St → Hp → Prop} (h : Nx R (σ.set i (some v)) H) : gName i v σ H R := h
theorem x_par {i j : Nat} {tA : TA} {D : Ends} {σ : L2.St} {H : Hp} (h : tA σ H fun vs H1 => ∃ v w, vs = [v, w] ∧ Nx D.nx ((σ.set i (some v)).set j (some w)) H1) : tPar i j tA D σ H := h
theorem x_aug {i : Nat} {te : TE} {ti : TIp} {D : Ends} {σ : L2.St} {H : Hp} (h : ∃ x, σ[i]? = some (some x) ∧ te σ H fun y H1 => ti x y H1 fun z H2 => Nx D.nx (σ.set i (some z)) H2) : tAug i te ti D σ H := h
theorem y_cut0 {t u : TS} {D : Ends} {σ : L2.St} {H : Hp} (h : t { D with nx := u D } σ H) : Evl.tCut t u D σ H := ⟨u D, h, fun _ _ z => z⟩
theorem map_all {α β : Type} {f : α → β} {P : β → Prop} {l : List α} (h : ∀ a ∈ l, P (f a)) : ∀ b ∈ l.map f, P b := fun b hb => by
  obtain ⟨a, ha, rfl⟩ := List.mem_map.mp hb
  exact h a ha
def lamsOf (K : PySem.W.Frag) (tf : List He.Defn) : List (Addr × Str) := tf.map fun d => ((He.cT K d).2, d.1 ++ ".<locals>." ++ "<lambda>")
end OZ
set_option maxRecDepth 100000
set_option maxHeartbeats 1000000
namespace OZ
open PySem PySem.Spec PyProof.Rows L2
def MtdK (P : Program) (w : World) (K : PySem.W.Frag) (mg : Str → Option Value) (base : Heap) (k : Nat) (C : Addr) (m : Str) (ps ks : List Str) (gV : List V → List V → List V) (sp : Sp) : Prop :=
  Cls K C ∧ ∃ (f : Addr) (fd : FuncData) (gU : List Value → List Value → List Value), Meth K C m f ∧ KBn K fd ps 1 ks gU gV ∧ FnOk P w K mg base (L2.CX P w) k f fd ps sp
def tMethK (C : Addr) (m : Str) (n : Nat) (sp : Sp) (gV : List V → List V → List V) (E : XK) (ta : TE) (t : TA) : TE := fun σ H Q => ta σ H fun x H1 => ∃ a dx fs, x = .ref a ∧ H1 a = some (.ins C dx fs) ∧ fs.lookup m = none ∧ t σ H1 fun zs H2 => zs.length = n ∧ sp (gV [x] zs) H2 Q E
section
variable {X : Cx} {k : Nat} {C : Addr} {m : Str} {ps ks : List Str} {gV : List V → List V → List V} {sp : Sp} {E : XK} {o : Expr} {kws : List Keyword} {ta : TE} {t : TA} {apos pos : Pos} {pl : Sem Bool}
theorem omKE (M : MtdK X.prog X.w X.K X.mg X.base k C m ps ks gV sp) (hr : Room k X.A) (hx : Passes (L2.CX X.prog X.w) X E) (he : PE X o ta) (hkw : PK X kws t)
    (hall : (backToKw pos (keywordEach kws X.env)).all (·.1.isSome) = true := by rfl) (hks : (backToKw pos (keywordEach kws X.env)).filterMap (·.1) = ks := by rfl)
    (hpl : ((backTo pos (starEach [] X.env)).any (·.1) || (backToKw pos (keywordEach kws X.env)).any (·.1.isNone)) = false := by rfl)
    (ht : eval (.Call (.Attribute o m apos) [] kws pos) X.env = (do
      let ov ← eval o X.env
      standAt apos.atName
      let (f, first) ← holding [ov] (getMethod ov m pl)
      callWith pos f first (backTo pos (starEach [] X.env)) (backToKw pos (keywordEach kws X.env))) := by rfl) : PE X (.Call (.Attribute o m apos) [] kws pos) (tMethK C m ks.length sp gV E ta t) := by
  obtain ⟨c, f, fd, gU, hm, hb, G⟩ := M
  constructor
  intro pins s σ H Q I h
  refine PySem.W.methodCall_KW (pl := pl) (thn (he.run pins s σ H _ I h) ?_) ht
  rintro u s1 ⟨x, H1, I1, rx, a, dx, fs, ex, ea, l, q⟩
  subst ex
  cases (show u = Value.ref a from rx)
  apply getmeth_ok I1 ea c hm l
  apply PySem.W.callWith_KW0 (h₀ := X.base) (first := [.ref a]) I1.ok.mod.kin hm.kp hall ?_ hpl
  apply thn (hkw.run pos pins s1 σ H1 _ I1 q)
  rintro ws s3 ⟨zs, H2, I3, rz, l2, q2⟩
  refine ⟨I3.kIn, ?_⟩
  rw [hks]
  show wpAny (model X.prog X.w) X.A (call (.ref f) [.ref a] (ks.zip ws)) _ _ _
  apply wpAny_call
  apply codeAny_mono (G.run X.A X.stack s3 H2 ⟨[.ref a], ks.zip ws⟩ _ _ Q E hr I3.env0 (hb.to s3 [.ref a] ws I3.kIn rfl (rz.length.symm.trans l2)) (hb.rel (vs := [.ref a]) (us := [.ref a]) (.cons rfl .nil) rz) q2)
  intro r s' z
  cases r with
  | error e => exact hx pins σ H2 s3 e s' I3 z
  | ok fl =>
    cases fl with
    | ret u => exact I3.after z
    | next => exact z.elim
    | brk => exact z.elim
    | cont => exact z.elim
theorem smKL (M : StcK X.prog X.w X.K X.mg X.base k C m ps ks gV sp) (hr : Room k X.A) (he : PE X o ta) (hkw : PK X kws t)
    (hall : (backToKw pos (keywordEach kws X.env)).all (·.1.isSome) = true := by rfl) (hks : (backToKw pos (keywordEach kws X.env)).filterMap (·.1) = ks := by rfl)
    (hpl : ((backTo pos (starEach [] X.env)).any (·.1) || (backToKw pos (keywordEach kws X.env)).any (·.1.isNone)) = false := by rfl)
    (ht : eval (.Call (.Attribute o m apos) [] kws pos) X.env = (do
      let ov ← eval o X.env
      standAt apos.atName
      let (f, first) ← holding [ov] (getMethod ov m pl)
      callWith pos f first (backTo pos (starEach [] X.env)) (backToKw pos (keywordEach kws X.env))) := by rfl) : PE X (.Call (.Attribute o m apos) [] kws pos) (tSMK C ks.length sp gV (fun _ => E0) ta t) :=
  pe_smK M hr (fun σ pins H s e s' I c => passL pins σ H s e s' I c) he hkw hall hks hpl ht
theorem smKX {W : WX} (M : StcK X.prog X.w X.K X.mg X.base k C m ps ks gV sp) (hr : Room k X.A) (tk : Takes X W) (he : PE X o ta) (hkw : PK X kws t)
    (hall : (backToKw pos (keywordEach kws X.env)).all (·.1.isSome) = true := by rfl) (hks : (backToKw pos (keywordEach kws X.env)).filterMap (·.1) = ks := by rfl)
    (hpl : ((backTo pos (starEach [] X.env)).any (·.1) || (backToKw pos (keywordEach kws X.env)).any (·.1.isNone)) = false := by rfl)
    (ht : eval (.Call (.Attribute o m apos) [] kws pos) X.env = (do
      let ov ← eval o X.env
      standAt apos.atName
      let (f, first) ← holding [ov] (getMethod ov m pl)
      callWith pos f first (backTo pos (starEach [] X.env)) (backToKw pos (keywordEach kws X.env))) := by rfl) : PE X (.Call (.Attribute o m apos) [] kws pos) (tSMK C ks.length sp gV (WE W) ta t) :=
  pe_smK M hr (fun σ => passAt tk σ) he hkw hall hks hpl ht
end
section
variable {σ : L2.St} {H : Hp} {Q : VK} {C : Addr} {m : Str} {n : Nat} {sp : Sp} {gV : List V → List V → List V} {ta : TE} {t : TA}
theorem y_smK {E : L2.St → XK} (h : ta σ H fun x H1 => x = .ref C ∧ t σ H1 fun zs H2 => zs.length = n ∧ sp (gV [] zs) H2 Q (E σ)) : tSMK C n sp gV E ta t σ H Q := h
theorem y_methK {E : XK} (h : ta σ H fun x H1 => ∃ a dx fs, x = .ref a ∧ H1 a = some (.ins C dx fs) ∧ fs.lookup m = none ∧ t σ H1 fun zs H2 => zs.length = n ∧ sp (gV [x] zs) H2 Q E) : tMethK C m n sp gV E ta t σ H Q := h
theorem z_rep {l : Addr} {k : Int} {xs : List V} (hl : H l = some (.lst xs)) (h0 : 0 ≤ k) (h1 : k ≤ 1000) (h2 : xs.length ≤ 1000) (h : ∀ p H', H p = none → Same H H' → H' p = some (.lst (List.replicate k.toNat xs).flatten) → Q (.ref p) H') : rRep (.ref l) (.int k) H Q := by
  refine ⟨l, k, xs, rfl, rfl, hl, by omega, by omega, ?_, fun p np => h p _ np (fun b o e => upd_old np e) upd_same⟩
  have e : k.toNat ≤ 1000 := by omega
  have := Nat.mul_le_mul h2 e
  rw [sizeLine_eq]; omega
end
theorem kbM {K : PySem.W.Frag} {x qual : Str} {params : Arguments} {body : List Stmt} {scope : Scope} {f : Addr} {fd : FuncData} {ps ks : List Str} (F : FunD K x qual params body scope [] [] f fd)
    (h : ∀ (kV doc pm : Value) (an : Option Addr) (cdv ct : Value) (a : Value) (ws : List Value), ws.length = ks.length → bindArgs (PySem.W.fnOf x qual params body scope .none kV doc pm an cdv ct) ⟨[a], ks.zip ws⟩ = pure (ps.zip (a :: ws))) : KBn K fd ps 1 ks (fun us ws => us ++ ws) (fun vs zs => vs ++ zs) := by
  obtain ⟨oc, od, dV, kV, doc, pm, an, cdv, ct, osl, rfl, lk, hcd, hD, hK⟩ := F.ex
  rcases hD with ⟨_, rfl⟩ | ⟨z, _⟩
  · constructor
    · intro s us ws _ hu hw
      match us, hu with
      | [a], _ => exact .of_eq (h kV doc pm an cdv ct a ws hw)
    · intro vs us zs ws h1 h2
      exact h1.append h2
  · exact absurd rfl z
end OZ
set_option maxRecDepth 100000
namespace OZ
open PySem PySem.Spec PyProof.Rows L2
theorem zero_q : ((0 : Int) : Rat) = 0 := rfl
theorem two_q : ((2 : Int) : Rat) = 2 := rfl
theorem three_q : ((3 : Int) : Rat) = 3 := rfl
theorem w_neg (q : Rat) : divq (0 - q.num) ((q.den : Int)) = -q := by
  have h1 := den0 q
  have e1 := nd q
  unfold divq
  simp only [Rat.intCast_add, Rat.intCast_sub, Rat.intCast_mul, Rat.intCast_neg, zero_q, one_q, two_q, three_q]
  generalize ((q.den : Int) : Rat) = d at *
  generalize (q.num : Rat) = n at *
  grind
theorem w_addi (q : Rat) (i : Int) : divq (q.num + i * (q.den : Int)) ((q.den : Int)) = q + (i : Rat) := by
  have h1 := den0 q
  have e1 := nd q
  unfold divq
  simp only [Rat.intCast_add, Rat.intCast_sub, Rat.intCast_mul, Rat.intCast_neg, zero_q, one_q, two_q, three_q]
  generalize ((q.den : Int) : Rat) = d at *
  generalize (q.num : Rat) = n at *
  grind
theorem w_subi (q : Rat) (i : Int) : divq (q.num - i * (q.den : Int)) ((q.den : Int)) = q - (i : Rat) := by
  have h1 := den0 q
  have e1 := nd q
  unfold divq
  simp only [Rat.intCast_add, Rat.intCast_sub, Rat.intCast_mul, Rat.intCast_neg, zero_q, one_q, two_q, three_q]
  generalize ((q.den : Int) : Rat) = d at *
  generalize (q.num : Rat) = n at *
  grind
theorem w_rsubi (q : Rat) (i : Int) : divq (i * (q.den : Int) - q.num) ((q.den : Int)) = -q + (i : Rat) := by
  have h1 := den0 q
  have e1 := nd q
  unfold divq
  simp only [Rat.intCast_add, Rat.intCast_sub, Rat.intCast_mul, Rat.intCast_neg, zero_q, one_q, two_q, three_q]
  generalize ((q.den : Int) : Rat) = d at *
  generalize (q.num : Rat) = n at *
  grind
theorem w_muli (q : Rat) (i : Int) : divq (q.num * i) ((q.den : Int)) = q * (i : Rat) := by
  have h1 := den0 q
  have e1 := nd q
  unfold divq
  simp only [Rat.intCast_add, Rat.intCast_sub, Rat.intCast_mul, Rat.intCast_neg, zero_q, one_q, two_q, three_q]
  generalize ((q.den : Int) : Rat) = d at *
  generalize (q.num : Rat) = n at *
  grind
theorem w_tot3 (q r : Rat) (i : Int) : divq (q.num * (r.den : Int) + i * (q.den : Int) * (r.den : Int) + r.num * (q.den : Int)) ((q.den : Int) * (r.den : Int)) = q + (i : Rat) + r := by
  have h1 := den0 q
  have e1 := nd q
  have h2 := den0 r
  have e2 := nd r
  unfold divq
  simp only [Rat.intCast_add, Rat.intCast_sub, Rat.intCast_mul, Rat.intCast_neg, zero_q, one_q, two_q, three_q]
  generalize ((q.den : Int) : Rat) = d at *
  generalize (q.num : Rat) = n at *
  generalize ((r.den : Int) : Rat) = f at *
  generalize (r.num : Rat) = m at *
  grind
theorem w_dbl (q : Rat) : divq (2 * q.num) ((q.den : Int)) = q + q := by
  have h1 := den0 q
  have e1 := nd q
  unfold divq
  simp only [Rat.intCast_add, Rat.intCast_sub, Rat.intCast_mul, Rat.intCast_neg, zero_q, one_q, two_q, three_q]
  generalize ((q.den : Int) : Rat) = d at *
  generalize (q.num : Rat) = n at *
  grind
theorem w_divi (q : Rat) {i : Int} (h : i ≠ 0) : divq (q.num) ((q.den : Int) * i) = q / (i : Rat) := by
  have h1 := den0 q
  have e1 := nd q
  have h3 : (i : Rat) ≠ 0 := fun z => h (Rat.intCast_eq_zero_iff.mp z)
  unfold divq
  simp only [Rat.intCast_add, Rat.intCast_sub, Rat.intCast_mul, Rat.intCast_neg, zero_q, one_q, two_q, three_q]
  generalize ((q.den : Int) : Rat) = d at *
  generalize (q.num : Rat) = n at *
  grind
theorem w_place (q r : Rat) (i : Int) : divq ((q.num * (r.den : Int) + r.num * (q.den : Int) - i * (q.den : Int) * (r.den : Int)) * r.num) ((q.den : Int) * (r.den : Int) * (r.den : Int)) = (q + r - (i : Rat)) * r := by
  have h1 := den0 q
  have e1 := nd q
  have h2 := den0 r
  have e2 := nd r
  unfold divq
  simp only [Rat.intCast_add, Rat.intCast_sub, Rat.intCast_mul, Rat.intCast_neg, zero_q, one_q, two_q, three_q]
  generalize ((q.den : Int) : Rat) = d at *
  generalize (q.num : Rat) = n at *
  generalize ((r.den : Int) : Rat) = f at *
  generalize (r.num : Rat) = m at *
  grind
theorem w_turn {t b : Int} : divq (0 - t) (0 - b) = divq t b := by
  unfold divq
  simp only [Rat.intCast_sub, zero_q]
  generalize (t : Rat) = x
  generalize (b : Rat) = y
  by_cases h : y = 0
  · subst h
    have e : (0 : Rat) - 0 = 0 := by grind
    rw [e, Rat.div_def, Rat.div_def, Rat.inv_zero, Rat.mul_zero, Rat.mul_zero]
  · have h2 : (0 : Rat) - y ≠ 0 := by grind
    grind
theorem w_mod (q r : Rat) {z : Int} (h : z = (q / r).floor) : divq (q.num * (r.den : Int) - z * r.num * (q.den : Int)) ((q.den : Int) * (r.den : Int)) = rmod q r := by
  rw [q_mod, h]; rfl
theorem w_modr (i : Int) (r : Rat) {z : Int} (h : z = ((i : Rat) / r).floor) : divq (i * (r.den : Int) - z * r.num) (r.den : Int) = rmod (i : Rat) r := by
  have h2 := den0 r
  have e2 := nd r
  unfold rmod
  rw [← h]
  unfold divq
  simp only [Rat.intCast_sub, Rat.intCast_mul]
  generalize ((r.den : Int) : Rat) = f at *
  generalize (r.num : Rat) = m at *
  grind
theorem w_modi (q : Rat) (i : Int) {z : Int} (h : z = (q / (i : Rat)).floor) : divq (q.num - z * (q.den : Int) * i) (q.den : Int) = rmod q (i : Rat) := by
  have h2 := den0 q
  have e2 := nd q
  unfold rmod
  rw [← h]
  unfold divq
  simp only [Rat.intCast_sub, Rat.intCast_mul]
  generalize ((q.den : Int) : Rat) = f at *
  generalize (q.num : Rat) = m at *
  grind
theorem w_mod3 (q : Rat) {z : Int} (h : z = (q / ((3 : Int) : Rat)).floor) : divq (q.num - z * 3 * (q.den : Int)) (q.den : Int) = rmod q ((3 : Int) : Rat) := by
  have e := w_modi q 3 h
  rw [← e]
  congr 1
  rw [Int.mul_assoc, Int.mul_assoc, Int.mul_comm 3]
theorem w_fl {q : Rat} {t b : Int} (h : divq t b = q) (b0 : b ≠ 0) : t.fdiv b = q.floor := by rw [← h, floor_div b0]
theorem w_flr (i : Int) {r : Rat} (h : r ≠ 0) : (i * (r.den : Int)).fdiv r.num = ((i : Rat) / r).floor := by
  apply w_fl _ (num0 h)
  have h2 := den0 r
  have h3 : (r.num : Rat) ≠ 0 := fun z => num0 h (Rat.intCast_eq_zero_iff.mp z)
  have e2 := nd r
  unfold divq
  simp only [Rat.intCast_mul]
  generalize ((r.den : Int) : Rat) = f at *
  generalize (r.num : Rat) = m at *
  grind
theorem w_fli (q : Rat) {i : Int} (h : i ≠ 0) : q.num.fdiv ((q.den : Int) * i) = (q / (i : Rat)).floor := w_fl (w_divi q h) (Int.mul_ne_zero (den_ne q) h)
theorem w_fl3 (q : Rat) : q.num.fdiv (3 * (q.den : Int)) = (q / ((3 : Int) : Rat)).floor := by
  rw [Int.mul_comm]; exact w_fli q (by decide)
theorem w_lt (q r : Rat) : (q.num * (r.den : Int) - r.num * (q.den : Int) < 0) ↔ q < r := by rw [← q_lt]; omega
theorem w_le (q r : Rat) : (q.num * (r.den : Int) - r.num * (q.den : Int) ≤ 0) ↔ q ≤ r := by rw [← q_le]; omega
theorem w_gt (q r : Rat) : (q.num * (r.den : Int) - r.num * (q.den : Int) > 0) ↔ r < q := by rw [← q_lt]; omega
theorem w_ge (q r : Rat) : (q.num * (r.den : Int) - r.num * (q.den : Int) ≥ 0) ↔ r ≤ q := by rw [← q_le]; omega
theorem w_eq (q r : Rat) : (q.num * (r.den : Int) - r.num * (q.den : Int) = 0) ↔ q = r := by
  have h1 := w_le q r
  have h2 := w_ge q r
  constructor
  · intro h
    exact Rat.le_antisymm (h1.mp (by omega)) (h2.mp (by omega))
  · intro h
    have a := h1.mpr (by rw [h]; exact Rat.le_refl)
    have b := h2.mpr (by rw [h]; exact Rat.le_refl)
    omega
theorem w_lti (q : Rat) (i : Int) : (q.num - i * (q.den : Int) < 0) ↔ q < (i : Rat) := by have := w_lt q (i : Rat); simpa using this
theorem w_lei (q : Rat) (i : Int) : (q.num - i * (q.den : Int) ≤ 0) ↔ q ≤ (i : Rat) := by have := w_le q (i : Rat); simpa using this
theorem w_gti (q : Rat) (i : Int) : (q.num - i * (q.den : Int) > 0) ↔ (i : Rat) < q := by have := w_gt q (i : Rat); simpa using this
theorem w_gei (q : Rat) (i : Int) : (q.num - i * (q.den : Int) ≥ 0) ↔ (i : Rat) ≤ q := by have := w_ge q (i : Rat); simpa using this
end OZ
set_option maxRecDepth 100000
set_option maxHeartbeats 1000000
namespace OZ
open PySem PySem.Spec PyProof.Rows L2
abbrev sEnv (qual : Str) (scope : Scope) (L f : Addr) (cd : Value) (cc : Addr) : Env := PySem.W.ksEnv qual scope L f cd cc
def supCx (P : Program) (w : World) (K : PySem.W.Frag) (mg : Str → Option Value) (base : Heap) (N : List Str) (qual : Str) (scope : Scope) (f : Addr) (cd : Value) (cc : Addr) (A : Around) (outer : List Env) (s : Shared) (H : Hp) (E : XK) : Cx where
  prog := P
  w := w
  K := K
  mg := mg
  base := base
  A := A.deeper (sEnv qual scope s.heap.objs.size f cd cc)
  N := N
  s_0 := s
  H_0 := H
  env := sEnv qual scope s.heap.objs.size f cd cc
  outer := outer
  stack := sEnv qual scope s.heap.objs.size f cd cc :: outer
  ex := []
  fn := fun _ => false
  calm := true
  pn := []
  xe := fun e s' => wpAny (model P w) (A.deeper (sEnv qual scope s.heap.objs.size f cd cc)) (leaving (sEnv qual scope s.heap.objs.size f cd cc) e) (fun _ s'' => L2.CX P w outer H s E e s'') (fun e' s'' => L2.CX P w outer H s E e' s'') s'
structure SupS (N ps : List Str) (sc : Scope) : Prop where
  kind : sc.kind = .function
  co : sc.isCoroutine = false
  gen : sc.isGenerator = false
  nd : N.Nodup
  pre : N.take ps.length = ps
  par : ∀ x ∈ ps, sc.names.lookup x = some .local
  nocell : ∀ y ∈ sc.names, y.2 ≠ .cell
  cls : ∀ y ∈ sc.names, y.2 = .free → y.1 = ("__class__" : Str)
theorem zip_look {x : Str} {u : Value} : ∀ {ps : List Str} {us : List Value} {i : Nat}, ps.Nodup → ps[i]? = some x → us[i]? = some u → (ps.zip us).reverse.lookup x = some u
  | [], _, _, _, h, _ => by cases h
  | _ :: _, [], _, _, _, h => by cases h
  | p :: r, v :: t, i, nd, h1, h2 => by
    rw [List.zip_cons_cons, List.reverse_cons, List.lookup_append]
    obtain ⟨n1, n2⟩ := List.nodup_cons.mp nd
    cases i with
    | zero =>
      cases h1
      cases h2
      have e : (r.zip t).reverse.lookup x = none := by
        rw [List.lookup_eq_none_iff]
        rintro ⟨y, u⟩ hq
        have m := (List.of_mem_zip (List.mem_reverse.mp hq)).1
        have ne : x ≠ y := fun z => n1 (by rw [z]; exact m)
        simpa using ne
      rw [e]
      simp
    | succ i =>
      rw [zip_look n2 (i := i) h1 h2]
      rfl
theorem sup_start {P : Program} {w : World} {K : PySem.W.Frag} {mg : Str → Option Value} {base : Heap} {N ps : List Str} {qual : Str} {scope : Scope} {f cc : Addr} {cd : Value} {A : Around} {outer : List Env} {s : Shared} {H : Hp} {E : XK} {us : List Value} {vs : List V} {h1 : Heap} {tk : Nat} {oc : Obj} {D : Value}
    (S : SupS N ps scope) (hd : A.handled = none) (e0 : Env0 P w K mg base A outer s H) (hl : vs.length = ps.length) (r : Vals vs us) (hcell : K.lookup cc = some oc) (hoc : oc.data = .cell (some D)) (hns : h1.Ns s.heap.objs.size fun y => (ps.zip us).reverse.lookup y) (kp : ∀ b o, s.heap.get? b = some o → h1.get? b = some o) :
    Inv (supCx P w K mg base N qual scope f cd cc A outer s H E) [] (L2.start N vs) H { s with heap := h1, toks := tk } := by
  have hpl : ps.length ≤ N.length := by
    have := congrArg List.length S.pre
    rw [List.length_take] at this
    omega
  have nox : ∀ b : Addr, b ∉ (supCx P w K mg base N qual scope f cd cc A outer s H E).ex := fun b z => absurd (show b ∈ ([] : List Addr) from z) (by simp)
  have one : ∀ {y c}, (sEnv qual scope s.heap.objs.size f cd cc).cells.lookup y = some c → y = ("__class__" : Str) ∧ c = cc := by
    intro y c z
    have z2 : ([(("__class__" : Str), cc)] : List (Str × Addr)).lookup y = some c := z
    have m := PySem.mem_of_lookup z2
    cases List.mem_singleton.mp m
    exact ⟨rfl, rfl⟩
  have inB : base.get? cc = some oc := e0.mod.kin cc oc hcell
  have inS : s.heap.get? cc = some oc ∧ H cc = none := e0.bs cc oc inB
  constructor
  · constructor
    · exact e0.mod
    · exact S.kind
    · rfl
    · rfl
    · exact Nat.le_refl _
    · intro y z c e1 e2
      exact (one e1).1.trans (one e2).1.symm
    · intro y hy
      have hy : scope.names.lookup y = some .cell ∨ scope.names.lookup y = some .free := hy
      rcases hy with hy | hy
      · exact absurd rfl (S.nocell _ (PySem.mem_of_lookup hy))
      · have e := S.cls _ (PySem.mem_of_lookup hy) rfl
        have e : y = ("__class__" : Str) := e
        subst e
        exact ⟨cc, rfl⟩
    · intro y c z _
      cases (show false = true from z)
    · exact fun _ => hd
    · exact Around.frames_deeper e0.frames
    · exact .inr ⟨rfl, rfl⟩
    · exact fun b z => absurd z (nox b)
    · exact e0.bs
    · exact e0.bsz
    · exact fun b _ _ => nox b
    · exact fun b z => absurd z (nox b)
    · exact e0.funs
    · exact e0.frf
  · rfl
  · exact e0.bare
  · exact Un.kept kp
  · refine ⟨_, hns, fun i y v e1 e2 e3 => ?_⟩
    have hi : i < vs.length := by
      unfold L2.start at e2
      by_cases hi : i < vs.length
      · exact hi
      · rw [List.getElem?_append_right (by simpa using hi), List.getElem?_replicate] at e2
        split at e2 <;> cases e2
    have ha : vs[i]? = some v := by
      unfold L2.start at e2
      rw [List.getElem?_append_left (by simpa using hi), List.getElem?_map] at e2
      cases z : vs[i]? with
      | none => rw [z] at e2; cases e2
      | some a => rw [z] at e2; cases e2; rfl
    obtain ⟨u, hu, rv⟩ := r.get ha
    have hp : ps[i]? = some y := by
      rw [← S.pre, List.getElem?_take_of_lt (by omega)]; exact e1
    have ndP : ps.Nodup := by rw [← S.pre]; exact S.nd.sublist (List.take_sublist _ _)
    exact ⟨u, rv, .inl ⟨S.par y (List.mem_of_getElem? hp), zip_look ndP hp hu⟩⟩
  · intro y c z
    obtain ⟨rfl, rfl⟩ := one z
    exact ⟨some D, oc, kp _ _ inS.1, hoc⟩
  · exact e0.hok.fresh (Nat.le_refl _)
  · intro y c z
    obtain ⟨rfl, rfl⟩ := one z
    exact inS.2
  · intro q hq
    exact absurd (show q ∈ ([] : List (Addr × Obj)) ++ [] from hq) (by simp)
  · exact e0.hok.kept kp
  · show (L2.start N vs).length = N.length
    unfold L2.start
    rw [List.length_append, List.length_map, List.length_replicate]
    omega
end OZ
set_option maxRecDepth 100000
set_option maxHeartbeats 1000000
namespace OZ
open PySem PySem.Spec PyProof.Rows L2
def PSU (X : Cx) (c : Code) (ss : List Stmt) (t : TS) : Prop := ∀ (pins : List (Addr × Obj)) (s : Shared) (σ : L2.St) (H : Hp) (D : Ends), Inv X pins σ H s → t D σ H → PySem.wpAt (model X.prog X.w) X.A c (execs ss X.env) (SP X pins D) X.xe s
section
variable {X : Cx} {c : Code} {st : Stmt} {ss : List Stmt} {t u : TS}
theorem psu_of (h : PSs X ss t) : PSU X c ss t := fun pins s σ H D I q => PySem.wpAt_of_wpAny (h.run pins s σ H D I q)
theorem at_cons {M : Model} {A : Around} {env : Env} {Q : Flow → Shared → Prop} {E : Value → Shared → Prop} {s : Shared}
    (h : PySem.wpAt M A c (exec st env) (fun f s' => match f with | .next => PySem.wpAt M A c (execs ss env) Q E s' | f => Q f s') E s) : PySem.wpAt M A c (execs (st :: ss) env) Q E s := by
  rw [execs_cons]
  apply PySem.wpAt_bind
  apply PySem.wpAt_mono h ?_ (fun _ _ z => z)
  intro f s' z
  cases f with
  | next => exact z
  | brk => exact PySem.wpAt_of_wpAny (wpAny_pure z)
  | cont => exact PySem.wpAt_of_wpAny (wpAny_pure z)
  | ret v => exact PySem.wpAt_of_wpAny (wpAny_pure z)
theorem psu_cons (h : PS X st t) (k : PSU X c ss u) : PSU X c (st :: ss) (tSeq t u) := by
  intro pins s σ H D I q
  apply at_cons
  apply PySem.wpAt_of_wpAny
  apply wpAny_mono (h.run pins s σ H { D with nx := u D } I q) ?_ (fun _ _ z => z)
  intro f s' z
  cases f with
  | next =>
    obtain ⟨σ', H', I', q'⟩ := z
    exact k pins s' σ' H' D I' q'
  | brk => exact z
  | cont => exact z
  | ret v => exact z
end
structure FunS (P : Program) (K : PySem.W.Frag) (x qual : Str) (st : Stmt) (dvs : List V) (cc D f : Addr) (fd : FuncData) : Prop where
  ex : ∃ (oc : Value) (od : Option Addr) (dV kV doc pm : Value) (an : Option Addr) (cda : Addr) (ct : Value) (osl : Array (Option Value)),
    fd = PySem.W.ksFn x qual (defArgs st) (defBody st) (defScope st) dV kV doc pm an (.ref cda) ct cc ∧ K.lookup f = some ⟨oc, od, .func fd, osl⟩ ∧ PySem.W.codeIn K (.ref cda) qual = true ∧ DflV K dV dvs ∧
    (∃ (ccl : Value) (cdd : Option Addr) (vs : Array Value) (ccs : Array (Option Value)) (file : Str) (tf : Tok), K.lookup cda = some ⟨ccl, cdd, .fields vs, ccs⟩ ∧ vs[2]? = some (.str file tf) ∧ ((P.main.file : Str) == file) = true)
  cell : ∃ (cl : Value) (cld : Option Addr) (csl : Array (Option Value)), K.lookup cc = some ⟨cl, cld, .cell (some (.ref D)), csl⟩
  kp : PySem.W.keepIn K (.ref f) = true
theorem fnSup {P : Program} {w : World} {K : PySem.W.Frag} {mg : Str → Option Value} {base : Heap} {k : Nat} {f cc D : Addr} {x qual : Str} {st : Stmt} {dvs : List V} {fd : FuncData} {N ps : List Str} {sp : Sp}
    (F : FunS P K x qual st dvs cc D f fd) (S : SupS N ps (defScope st)) (len : ∀ vs H Q E, sp vs H Q E → vs.length = ps.length)
    (walk : ∀ (cd : Value) (A : Around) (outer : List Env) (s : Shared) (H : Hp) (vs : List V) (Q : VK) (E : XK), fd.code = cd → Room k (A.deeper (sEnv qual (defScope st) s.heap.objs.size f cd cc)) → sp vs H Q E →
      ∃ t, PSU (supCx P w K mg base N qual (defScope st) f cd cc A outer s H E) (.func (defBody st) (sEnv qual (defScope st) s.heap.objs.size f cd cc)) (defBody st) t ∧ t { nx := fun _ H' => Q .non H', rt := Q } (L2.start N vs) H) : FnOk P w K mg base (L2.CX P w) (k + 1) f fd ps sp := by
  obtain ⟨oc, od, dV, kV, doc, pm, an, cda, ct, osl, rfl, lk, hcd, _, _⟩ := F.ex
  obtain ⟨cl, cld, csl, hcell⟩ := F.cell
  refine ⟨len, ?_⟩
  intro A outer s H args us vs Q E room env bnd rel want
  have kin : K.In s.heap := env.mod.kin.keeps (fun b o q => (env.bs b o q).1)
  have nolim : s.heap.NoLimit := env.mod.nolimit.keeps (fun b o q => (env.bs b o q).1)
  have locs : ∀ y ∈ ps.zip us, (defScope st).names.lookup y.1 = some .local := by
    rintro ⟨y, v⟩ hy
    exact S.par y (List.of_mem_zip hy).1
  obtain ⟨t, ht, hq⟩ := walk (.ref cda) A outer s H vs Q E rfl (room.deeper _) want
  refine PySem.ks_codeAny_call_defAt (body := defBody st) (binds := ps.zip us) room.depth (kin _ _ lk) rfl nolim (PySem.W.codeRec_of kin hcd) rfl bnd (fun y hy => S.nocell y hy) locs ?_ S.co S.gen S.kind
  intro h1 hns kp
  have I := sup_start (cd := .ref cda) (f := f) (qual := qual) (E := E) (w := w) (tk := s.toks + (ps.zip us).length) S room.hd env (len _ _ _ _ want) rel hcell rfl hns kp
  apply PySem.wpAt_mono (ht [] _ _ H _ I hq) ?_ (fun e s' z => z)
  intro fl s' z
  cases fl with
  | ret u => obtain ⟨v, σ', H', J, rv, q⟩ := z; exact ⟨v, H', J.os, J.bare, J.base, J.hok, rv, q⟩
  | next => obtain ⟨σ', H', J, q⟩ := z; exact ⟨V.non, H', J.os, J.bare, J.base, J.hok, rfl, q⟩
  | brk => obtain ⟨_, _, _, q⟩ := z; exact q.elim
  | cont => obtain ⟨_, _, _, q⟩ := z; exact q.elim
end OZ
set_option maxRecDepth 100000
set_option maxHeartbeats 1000000
namespace OZ
open PySem PySem.Spec PyProof.Rows L2
structure Abv (K : PySem.W.Frag) (C D g : Addr) (m : Str) : Prop where
  sub : PySem.W.mroIn K C (.ref D) = some true
  at_ : PySem.W.ks_superIn K C D m = some (some (.ref g))
  ty : PySem.W.typeIn K (.ref g) = some (.type "function")
  fn : PySem.W.fnIn K g = true
structure SupA (X : Cx) (D f cc : Addr) (slf : Str) : Prop where
  fun_ : X.env.func = some f
  fd : ∃ (oc : Value) (od : Option Addr) (osl : Array (Option Value)) (fd : FuncData) (ar : Arg), X.K.lookup f = some ⟨oc, od, .func fd, osl⟩ ∧ (fd.params.posonlyargs ++ fd.params.args).head? = some ar ∧ ar.arg = slf
  code : ∃ (cda : Addr) (ccl : Value) (cdd : Option Addr) (vs : Array Value) (ccs : Array (Option Value)) (file : Str) (tf : Tok), X.env.code = .ref cda ∧ X.K.lookup cda = some ⟨ccl, cdd, .fields vs, ccs⟩ ∧ vs[2]? = some (.str file tf) ∧ ((X.prog.main.file : Str) == file) = true
  cell : ∃ (cl : Value) (cld : Option Addr) (csl : Array (Option Value)), X.K.lookup cc = some ⟨cl, cld, .cell (some (.ref D)), csl⟩
  cells : X.env.cells = [(("__class__" : Str), cc)]
  cls : ∃ cd, PySem.W.clsIn X.K D = some cd
  no : X.mg "super" = none
  opq : PySem.W.nsIn X.K cStatics "thirdparty.any" = some none
  ks : X.env.kindOf "super" = some .globalImplicit
  kc : X.env.kindOf "__class__" = some .free
  ka : X.env.kindOf slf = some .local
  n0 : X.N[0]? = some slf
  top : (X.prog.main.scope.names.lookup ("super" : Str)).isSome = false
def tSup (K : PySem.W.Frag) (D g : Addr) (m : Str) (sp : Sp) (E : XK) (ta : TA) (u : TS) : TS := fun Z σ H => ∃ x C dx fs, σ[0]? = some (some (.ref x)) ∧ H x = some (.ins C dx fs) ∧ Abv K C D g m ∧ ta σ H fun vs H2 => sp (.ref x :: vs) H2 (fun _ H3 => u Z σ H3) E
section
variable {X : Cx} {body ss : List Stmt} {u : TS} {D f cc g : Addr} {self m : Str} {k : Nat} {fd : FuncData} {ps : List Str} {sp : Sp} {E : XK} {e : Expr} {es : List Expr} {ta : TA} {p0 p1 apos pos pos2 : Pos} {pl : Sem Bool}
theorem psu_super (S : SupA X D f cc self) (G : FnOk X.prog X.w X.K X.mg X.base (L2.CX X.prog X.w) k g fd ps sp) (hb : Binds X.K fd ps []) (hr : Room k X.A) (hx : Passes (L2.CX X.prog X.w) X E) (ha : PA X (e :: es) ta) (k2 : PSU X (.func body X.env) ss u)
    (hm : (m == ("__class__" : Str)) = false := by decide) (hst : starEach (e :: es) X.env = (false, eval e X.env) :: starEach es X.env := by rfl) (hpl : (backTo pos (starEach es X.env)).any (·.1) = false := by rfl)
    (hi : interactive X.env = false := by rfl) (hs : swapsWith (.Call (.Attribute (.Call (.Name "super" p0) [] [] p1) m apos) (e :: es) [] pos) none pos2.line X.env = pure false := by rfl)
    (ht : eval (.Call (.Attribute (.Call (.Name "super" p0) [] [] p1) m apos) (e :: es) [] pos) X.env = (do
      let ov ← attributeBase (.Call (.Name "super" p0) [] [] p1) m X.env (eval (.Call (.Name "super" p0) [] [] p1) X.env)
      standAt apos.atName
      let (f, first) ← holding [ov] (getMethod ov m pl)
      callWith pos f first (backTo pos (starEach (e :: es) X.env)) (backToKw pos (keywordEach [] X.env))) := by rfl) :
    PSU X (.func body X.env) (.Expr (.Call (.Attribute (.Call (.Name "super" p0) [] [] p1) m apos) (e :: es) [] pos) pos2 :: ss) (tSup X.K D g m sp E ta u) := by
  intro pins s σ H Z I h
  obtain ⟨x, C, dx, fs, h0, hx0, A, h⟩ := h
  obtain ⟨oc, od, osl, fdo, ar, lk, hp, har⟩ := S.fd
  obtain ⟨cda, ccl, cdd, vs, ccs, file, tf, hcode, lcd, hvs, hfile⟩ := S.code
  obtain ⟨cl, cld, csl, lcc⟩ := S.cell
  obtain ⟨cdD, hD⟩ := S.cls
  have kin := I.kIn
  obtain ⟨⟨odx, J⟩, hget⟩ := inst_of I hx0
  obtain ⟨oD, hD1, hD2⟩ : ∃ oD, s.heap.get? D = some oD ∧ oD.data = .cls cdD := by
    unfold PySem.W.clsIn at hD
    split at hD
    · rename_i c d cd' sl ho
      cases hD
      exact ⟨_, kin _ _ ho, rfl⟩
    · cases hD
  obtain ⟨mL, hns, hloc⟩ := I.loc
  have hself : mL ar.arg = some (.ref x) := by
    obtain ⟨u, ru, look⟩ := hloc 0 self (.ref x) S.n0 h0 (.inl S.ka)
    cases (show u = Value.ref x from ru)
    rw [har]
    rcases look with ⟨_, z⟩ | ⟨z, _⟩
    · exact z
    · rcases z with z | z <;> rw [S.ka] at z <;> cases z
  apply at_cons
  refine ks_wpAt_Expr_any ?_ hi hs
  rw [ht]
  apply PySem.wpAt_bind
  refine ks_wpAt_super_base (env := X.env) S.ks S.kc hm S.fun_ (kin _ _ lk) rfl hp hcode (kin _ _ lcd) rfl hvs hfile S.top ?_
  have kind := I.ok.kind
  obtain ⟨mb, b1, b2⟩ := I.mod.blt
  refine PySem.W.ks_loadName_global kind S.ks (Calls.loadGlobal_builtin (by rw [I.ok.glob]; exact I.mod.glob.keeps I.bk) S.no (by rw [I.ok.blt]; exact b1.keeps I.bk) ((b2 "super" (by decide)).trans (by decide +kernel)) ⟨rfl, ?_⟩)
  refine wpAny_loadName_free kind S.kc (by rw [S.cells]; rfl) ⟨_, kin _ _ lcc, rfl⟩ ?_
  refine wpAny_loadName_local kind (by rw [har]; exact S.ka) hns hself ?_
  obtain ⟨hh, gg, dd, tk, os⟩ := s
  refine ks_wpAny_isType_cls hD1 hD2 ⟨rfl, ?_⟩
  refine ks_wpAny_call_super hD1 hD2 J.at_ J.cls (fun c z => ?_) (PySem.W.looks_mroIn kin A.sub) (fun h' z keep => ?_)
  · have := J.no
    unfold PySem.W.notCls at this
    rw [z] at this
    exact Bool.noConfusion this
  have I1 : Inv X ((hh.objs.size, PySem.W.ks_superObj D x C) :: pins) σ H ⟨h', gg, dd, tk, os⟩ := ClX.pin_new I keep (Nat.le_refl _) z (fun v y => nomatch y)
  apply PySem.wpAt_of_wpAny
  apply wpAny_bind
  apply wpAny_standAt
  apply wpAny_bind
  apply wpAny_holding
  obtain ⟨cdC, hC⟩ : ∃ cdC, PySem.W.clsIn X.K C = some cdC := by
    cases hc : PySem.W.clsIn X.K C with
    | some cdC => exact ⟨_, rfl⟩
    | none =>
      have z2 := A.at_
      unfold PySem.W.ks_superIn at z2
      rw [hc] at z2
      cases z2
  have al := A.at_
  unfold PySem.W.ks_superIn at al
  rw [hC] at al
  obtain ⟨of, hof, hofc⟩ : ∃ of, h'.get? g = some of ∧ of.cls = .type "function" := by
    have ht' : (X.K.lookup g).map (·.cls) = some (.type "function") := A.ty
    cases z : X.K.lookup g with
    | none => rw [z] at ht'; cases ht'
    | some of => rw [z] at ht'; exact ⟨of, I1.kIn _ _ z, Option.some.inj ht'⟩
  refine PySem.ks_wpAny_getMethod_super (K := X.K) (l₀ := cdC.mro) (ClX.pin_at I1) (PySem.W.looks_opaque I1.kIn S.opq) ?_ rfl I1.kIn al hof hofc (PySem.W.ks_ne I1.kIn (inst_of I1 hx0).1.choose_spec hC) hm ?_
  · exact fun A Q E s k q => wpAny_bind ((PySem.W.looks_clsIn I1.kIn hC) A _ E s k (wpAny_pure q))
  have I2 : Inv X ((h'.objs.size, PySem.W.methodObj (.ref g) (.ref x)) :: (hh.objs.size, PySem.W.ks_superObj D x C) :: pins) σ H ⟨h'.push (PySem.W.methodObj (.ref g) (.ref x)), gg, dd, tk + 1, os⟩ :=
    ClX.pin_new I1 (fun _ _ z => Heap.get?_push_of_some _ z) (Nat.le_refl _) (Heap.get?_push_size h' rfl) (fun v z => nomatch z)
  have hq := ClX.pin_at I2
  have hL : h'.objs.size ≠ X.env.locals := (I2.pin (h'.objs.size, PySem.W.methodObj (.ref g) (.ref x)) (List.mem_append_right _ List.mem_cons_self)).2.2.1
  have hbs : X.base.get? h'.objs.size = none := ClX.base_none I1 (Nat.le_refl _)
  refine PySem.W.callWith_M (K := X.K) (h₀ := X.base) (first := []) I2.ok.mod.kin (news_at hL hbs hq) List.mem_cons_self A.fn ?_ hst hpl
  refine thn (ha.run pos _ _ σ H _ I2 h) fun us s3 ⟨vs, H2, I3, rv, q2⟩ => ⟨⟨ClX.pin_at I3, I3.kIn⟩, ?_⟩
  have r2 : Vals (V.ref x :: vs) (Value.ref x :: us) := .cons rfl rv
  have hl2 : (Value.ref x :: us).length = ps.length := by rw [← r2.length]; exact G.len _ _ _ _ q2
  have bb := hb s3 (Value.ref x :: us) I3.kIn (by rw [List.append_nil]; exact hl2)
  rw [List.append_nil] at bb
  refine wpAny_call (PySem.W.method_call (ClX.pin_at I3) (codeAny_mono (G.run X.A X.stack s3 H2 ⟨Value.ref x :: us, []⟩ (Value.ref x :: us) (V.ref x :: vs) _ E hr I3.env0 bb r2 q2) fun r s' z => ?_))
  cases r with
  | error e => exact hx _ σ H2 s3 e s' I3 z
  | ok fl =>
    cases fl with
    | ret u2 =>
      obtain ⟨v, H', I4, rv2, q4⟩ := I3.after z
      exact k2 pins _ σ H' Z (ClX.unpin (ClX.unpin I4)) q4
    | next => exact z.elim
    | brk => exact z.elim
    | cont => exact z.elim
end
end OZ
set_option maxRecDepth 100000
set_option maxHeartbeats 1000000
namespace OZ
open PySem PySem.Spec PyProof.Rows L2
def MkC (P : Program) (w : World) (K : PySem.W.Frag) (mg : Str → Option Value) (base : Heap) (k : Nat) (x : Str) (C : Addr) (ps : List Str) (dvs : List V) (sp : Sp) : Prop :=
  ∃ (f : Addr) (fd : FuncData) (ds : List Value), mg x = some (.ref C) ∧ Mk K C f ∧ FnOk P w K mg base (L2.CX P w) k f fd ps sp ∧ Binds K fd ps ds ∧ Vals dvs ds
def MkCK (P : Program) (w : World) (K : PySem.W.Frag) (mg : Str → Option Value) (base : Heap) (k : Nat) (x : Str) (C : Addr) (ps : List Str) (n : Nat) (ks : List Str) (gV : List V → List V → List V) (sp : Sp) : Prop :=
  ∃ (f : Addr) (fd : FuncData) (g : List Value → List Value → List Value), mg x = some (.ref C) ∧ Mk K C f ∧ FnOk P w K mg base (L2.CX P w) k f fd ps sp ∧ KBn K fd ps (n + 1) ks g gV
section
variable {X : Cx} {k n : Nat} {C : Addr} {ps ks : List Str} {dvs : List V} {gV : List V → List V → List V} {sp : Sp} {E : XK} {x : Str} {p pos : Pos} {e : Expr} {es : List Expr} {kws : List Keyword} {t tk : TA}
theorem mkC (M : MkC X.prog X.w X.K X.mg X.base k x C ps dvs sp) (hr : Room (k + 1) X.A) (hx : Passes (L2.CX X.prog X.w) X E) (ha : PA X (e :: es) t) (hg : Gl X x := by rfl) (hdb : (x == ("__debug__" : Str)) = false := by decide)
    (he : starEach (e :: es) X.env = (false, eval e X.env) :: starEach es X.env := by rfl) (hpl : (backTo pos (starEach es X.env)).any (·.1) = false := by rfl) : PE X (.Call (.Name x p) (e :: es) [] pos) (tMake C sp dvs E t) := by
  obtain ⟨f, fd, ds, hm, mk, G, hb, hd⟩ := M
  exact pe_make mk G hr hg hm hb hd hx ha hdb he hpl
theorem mkC0 (M : MkC X.prog X.w X.K X.mg X.base k x C ps dvs sp) (hr : Room (k + 1) X.A) (hx : Passes (L2.CX X.prog X.w) X E) (hg : Gl X x := by rfl) (hdb : (x == ("__debug__" : Str)) = false := by decide) : PE X (.Call (.Name x p) [] [] pos) (tMake C sp dvs E tNil) := by
  obtain ⟨f, fd, ds, hm, mk, G, hb, hd⟩ := M
  exact pe_make0 mk G hr hg hm hb hd hx hdb
theorem mkCK0 (M : MkCK X.prog X.w X.K X.mg X.base k x C ps 0 ks gV sp) (hr : Room (k + 1) X.A) (hx : Passes (L2.CX X.prog X.w) X E) (hkw : PK X kws tk) (hg : Gl X x := by rfl)
    (hall : (backToKw pos (keywordEach kws X.env)).all (·.1.isSome) = true := by rfl) (hks : (backToKw pos (keywordEach kws X.env)).filterMap (·.1) = ks := by rfl) (hdb : (x == ("__debug__" : Str)) = false := by decide)
    (hpl : ((backTo pos (starEach [] X.env)).any (·.1) || (backToKw pos (keywordEach kws X.env)).any (·.1.isNone)) = false := by rfl) : PE X (.Call (.Name x p) [] kws pos) (tMakeK C 0 ks.length sp gV E tNil tk) := by
  obtain ⟨f, fd, g, hm, mk, G, hb⟩ := M
  exact pe_makeK0 mk G hr hg hm hb hx hkw hall hks hdb hpl
theorem mkCK (M : MkCK X.prog X.w X.K X.mg X.base k x C ps n ks gV sp) (hr : Room (k + 1) X.A) (hx : Passes (L2.CX X.prog X.w) X E) (ha : PA X (e :: es) t) (hkw : PK X kws tk) (hg : Gl X x := by rfl)
    (hall : (backToKw pos (keywordEach kws X.env)).all (·.1.isSome) = true := by rfl) (hks : (backToKw pos (keywordEach kws X.env)).filterMap (·.1) = ks := by rfl) (hdb : (x == ("__debug__" : Str)) = false := by decide)
    (he : starEach (e :: es) X.env = (false, eval e X.env) :: starEach es X.env := by rfl) (hpl : ((backTo pos (starEach (e :: es) X.env)).any (·.1) || (backToKw pos (keywordEach kws X.env)).any (·.1.isNone)) = false := by rfl) :
    PE X (.Call (.Name x p) (e :: es) kws pos) (tMakeK C n ks.length sp gV E t tk) := by
  obtain ⟨f, fd, g, hm, mk, G, hb⟩ := M
  exact pe_makeK mk G hr hg hm hb hx ha hkw hall hks hdb he hpl
end
def Mks (C : Addr) (sp : Sp) (vs : List V) (H : Hp) (Q : VK) (E : XK) : Prop := ∀ x dx, H x = none → H dx = none → dx ≠ x → sp (.ref x :: vs) (upd (upd H dx (.own x)) x (.ins C dx [])) (fun v H2 => v = .non ∧ Q (.ref x) H2) E
section
variable {σ : L2.St} {H : Hp} {Q : VK} {C : Addr} {sp : Sp} {dvs : List V} {gV : List V → List V → List V} {E : XK} {n m : Nat} {t tk : TA}
theorem y_make (h : t σ H fun vs H1 => Mks C sp (vs ++ dvs) H1 Q E) : tMake C sp dvs E t σ H Q := h
theorem y_makeK (h : t σ H fun vs H1 => tk σ H1 fun zs H2 => vs.length = n ∧ zs.length = m ∧ ∀ x dx, H2 x = none → H2 dx = none → dx ≠ x → sp (gV (.ref x :: vs) zs) (upd (upd H2 dx (.own x)) x (.ins C dx [])) (fun v H3 => v = .non ∧ Q (.ref x) H3) E) : tMakeK C n m sp gV E t tk σ H Q := h
end
end OZ
set_option maxRecDepth 100000
set_option maxHeartbeats 2000000
namespace OZ
open PySem PySem.Spec PyProof.Rows L2 LamX
structure DefS where
  cls : Str
  name : Str
  qual : Str
  st : Stmt
  dfl : List He.Dv := []
abbrev FnV : Type := Option (Str × Str × Arguments × FuncBody × Scope × Addr × List Str × Addr)
def fnV (K : PySem.W.Frag) (a : Addr) : FnV := match K.lookup a with
  | some ⟨_, _, .func fd, _⟩ => some (fd.name, fd.qualname, fd.params, fd.body, fd.scope, fd.globals, fd.closure.map (·.1), fd.builtins)
  | _ => none
def DefS.at_ (d : DefS) (K : PySem.W.Frag) : Addr := He.ma K (He.ga K d.cls) d.name
def DefS.val (d : DefS) : FnV := some (d.name, d.qual, defArgs d.st, .stmts (defBody d.st), defScope d.st, mainGlobals, ["__class__"], builtinsNs)
def DefS.dvs (K : PySem.W.Frag) (d : DefS) : List V := d.dfl.map (He.Dv.v K)
def cellB (K : PySem.W.Frag) (D : Addr) (cl : List (Str × Addr)) : Bool := match cl with
  | [q] => (match K.lookup q.2 with
    | some ⟨_, _, .cell (some (.ref D2)), _⟩ => D2 == D
    | _ => false)
  | _ => false
def fileB (file : Str) (v : Option Value) : Bool := match v with
  | some (Value.str z _) => file == z
  | _ => false
def codeFB (K : PySem.W.Frag) (file : Str) (cd : Value) : Bool := match cd with
  | .ref cda => (match K.lookup cda with
    | some ⟨_, _, .fields vs, _⟩ => fileB file vs[2]?
    | _ => false)
  | _ => false
def DefS.ok (file : Str) (K : PySem.W.Frag) (d : DefS) : Bool := PySem.W.keepIn K (.ref (d.at_ K)) && (match K.lookup (d.at_ K) with
  | some ⟨_, _, .func fd, _⟩ => PySem.W.codeIn K fd.code d.qual && (He.dflB K fd.defaults (d.dvs K) && (cellB K (He.ga K d.cls) fd.closure && codeFB K file fd.code))
  | _ => false)
theorem cellB_ok {K : PySem.W.Frag} {D : Addr} {cl : List (Str × Addr)} (h : cellB K D cl = true) (e : cl.map (·.1) = [("__class__" : Str)]) : ∃ cc : Addr, cl = [(("__class__" : Str), cc)] ∧ ∃ (c : Value) (cld : Option Addr) (csl : Array (Option Value)), K.lookup cc = some ⟨c, cld, .cell (some (.ref D)), csl⟩ := by
  unfold cellB at h
  split at h
  · rename_i q
    obtain ⟨q1, q2⟩ := q
    simp only [List.map_cons, List.map_nil, List.cons.injEq, and_true] at e
    subst e
    refine ⟨q2, rfl, ?_⟩
    split at h
    · rename_i c cld D2 csl lk
      have e2 : D2 = D := by simpa using h
      subst e2
      exact ⟨_, _, _, lk⟩
    · cases h
  · cases h
theorem codeFB_ok {K : PySem.W.Frag} {file : Str} {cd : Value} (h : codeFB K file cd = true) : ∃ cda, cd = .ref cda ∧ ∃ (ccl : Value) (cdd : Option Addr) (vs : Array Value) (ccs : Array (Option Value)) (f2 : Str) (tf : Tok), K.lookup cda = some ⟨ccl, cdd, .fields vs, ccs⟩ ∧ vs[2]? = some (.str f2 tf) ∧ (file == f2) = true := by
  unfold codeFB at h
  split at h
  · rename_i cda
    refine ⟨cda, rfl, ?_⟩
    split at h
    · rename_i a b vs d lk
      unfold fileB at h
      split at h
      · rename_i z t e
        exact ⟨_, _, vs, _, z, t, lk, e, h⟩
      · cases h
    · cases h
  · cases h
theorem DefS.funS {P : Program} {K : PySem.W.Frag} {d : DefS} (e : fnV K (d.at_ K) = d.val) (c : d.ok P.main.file K = true) : ∃ cc fd, FunS P K d.name d.qual d.st (d.dvs K) cc (He.ga K d.cls) (d.at_ K) fd := by
  obtain ⟨kp, c2⟩ := He.ba c
  unfold fnV at e
  cases q : K.lookup (d.at_ K) with
  | none =>
    rw [q] at c2
    cases c2
  | some o =>
    obtain ⟨oc, od, dt, osl⟩ := o
    rw [q] at c2 e
    cases dt with
    | func fd =>
      obtain ⟨n1, n2, n3, n4, n5, n6, n7, n8, n9, n10, n11, n12, n13, n14, n15⟩ := fd
      have e2 : (some (n1, n2, n3, n4, n5, n6, n7.map (·.1), n15) : FnV) = some (d.name, d.qual, defArgs d.st, FuncBody.stmts (defBody d.st), defScope d.st, mainGlobals, [("__class__" : Str)], builtinsNs) := e
      simp only [Option.some.injEq, Prod.mk.injEq] at e2
      obtain ⟨h1, h2, h3, h4, h5, h6, h7, h8⟩ := e2
      subst h1 h2 h3 h4 h5 h6 h8
      have c3 : (PySem.W.codeIn K n13 d.qual && (He.dflB K n8 (d.dvs K) && (cellB K (He.ga K d.cls) n7 && codeFB K P.main.file n13))) = true := c2
      obtain ⟨k1, k2⟩ := He.ba c3
      obtain ⟨k3, k4⟩ := He.ba k2
      obtain ⟨k5, k6⟩ := He.ba k4
      obtain ⟨cc, rfl, hcell⟩ := cellB_ok k5 h7
      obtain ⟨cda, rfl, hcode⟩ := codeFB_ok k6
      exact ⟨cc, _, ⟨⟨oc, od, n8, n9, n10, n11, n12, cda, n14, osl, rfl, q, k1, He.dflB_ok k3, hcode⟩, hcell, kp⟩⟩
    | _ => cases c2
abbrev AlS : Type := AlZ × (Bool × List FnV)
structure ToldS (file : Str) (fn : List He5.DefA) (fs : List DefS) (tf : List He.Defn) (ex : PySem.W.Frag → Bool) (h : Heap) (K : PySem.W.Frag) : Prop where
  a : ToldA fn tf ex h K
  ok : (fs.all fun d => d.ok file K) = true
  val : (fs.map fun d => fnV K (d.at_ K)) = fs.map DefS.val
theorem ToldS.sup {P : Program} {fn : List He5.DefA} {fs : List DefS} {tf : List He.Defn} {ex : PySem.W.Frag → Bool} {h : Heap} {K : PySem.W.Frag} (c : ToldS P.main.file fn fs tf ex h K) (i : Nat) {d : DefS} (hd : fs[i]? = some d := by rfl) :
    ∃ cc fd, FunS P K d.name d.qual d.st (d.dvs K) cc (He.ga K d.cls) (d.at_ K) fd := by
  refine DefS.funS ?_ (List.all_eq_true.mp c.ok d (List.mem_of_getElem? hd))
  have e := congrArg (fun z => z[i]?) c.val
  simp only [List.getElem?_map, hd, Option.map_some, Option.some.injEq] at e
  exact e
def obsS (file : Str) (n : Nat) (fn : List He5.DefA) (fs : List DefS) (tf : List He.Defn) (ex : PySem.W.Frag → Bool) (g : Addr → Option Obj) : AlS := (obsY n fn tf ex g, (fs.all fun d => d.ok file (seenZ g n), fs.map fun d => fnV (seenZ g n) (d.at_ (seenZ g n))))
def valS (fn : List He5.DefA) (fs : List DefS) : AlS := (valY fn, (true, fs.map DefS.val))
theorem toldS_of {file : Str} {n : Nat} {fn : List He5.DefA} {fs : List DefS} {tf : List He.Defn} {ex : PySem.W.Frag → Bool} {h : Heap} (e : obsS file n fn fs tf ex h.get? = valS fn fs) : ToldS file fn fs tf ex h (seenZ h.get? n) :=
  ⟨toldA_of (congrArg (fun z : AlS => z.1) e), congrArg (fun z : AlS => z.2.1) e, congrArg (fun z : AlS => z.2.2) e⟩
def hookS (file : Str) (n : Nat) (fn : List He5.DefA) (fs : List DefS) (tf : List He.Defn) (ex : PySem.W.Frag → Bool) : PySem.W.Hook where
  α := AlS
  obs := fun s => obsS file n fn fs tf ex s.heap.get?
  val := fun _ => valS fn fs
  says := fun _ h => ∃ K : PySem.W.Frag, K.In h ∧ ToldS file fn fs tf ex h K
  of := fun _ _ e => ⟨_, He.frT_in, toldS_of e⟩
  keeps := fun _ _ _ ⟨K, hK, c⟩ kp => ⟨K, PySem.W.Frag.In.keeps hK kp, ⟨⟨c.a.d, c.a.more, c.a.hd, c.a.out, fun q hq => kp _ _ (c.a.empty q hq)⟩, c.ok, c.val⟩⟩
theorem obsS_eq {file : Str} {n : Nat} {fn : List He5.DefA} {fs : List DefS} {tf : List He.Defn} {ex : PySem.W.Frag → Bool} {g : Addr → Option Obj} {s : Shared} (h : ∀ a, g a = s.heap.get? a) : obsS file n fn fs tf ex g = (hookS file n fn fs tf ex).obs s := by
  have e : g = s.heap.get? := funext h
  subst e
  rfl
end OZ
set_option maxRecDepth 100000
set_option maxHeartbeats 1000000
namespace OZ
open PySem PySem.Spec PyProof.Rows L2 LamX
theorem supA_of {P : Program} {w : World} {K : PySem.W.Frag} {mg : Str → Option Value} {base : Heap} {x qual self : Str} {st : Stmt} {dvs : List V} {cc D f : Addr} {fd : FuncData} {N : List Str} {cd : Value} {A : Around} {outer : List Env} {s : Shared} {H : Hp} {E : XK} {ar : Arg}
    (F : FunS P K x qual st dvs cc D f fd) (hcd : fd.code = cd) (hp : ((defArgs st).posonlyargs ++ (defArgs st).args).head? = some ar) (har : ar.arg = self) (hD : ∃ c, PySem.W.clsIn K D = some c) (no : mg "super" = none) (opq : PySem.W.nsIn K cStatics "thirdparty.any" = some none)
    (ks : (defScope st).names.lookup ("super" : Str) = some .globalImplicit) (kc : (defScope st).names.lookup ("__class__" : Str) = some .free) (ka : (defScope st).names.lookup self = some .local) (n0 : N[0]? = some self)
    (top : (P.main.scope.names.lookup ("super" : Str)).isSome = false) : SupA (supCx P w K mg base N qual (defScope st) f cd cc A outer s H E) D f cc self := by
  obtain ⟨oc, od, dV, kV, doc, pm, an, cda, ct, osl, rfl, lk, hcode, _, ccl, cdd, vs, ccs, file, tf, l1, l2, l3⟩ := F.ex
  obtain ⟨cl, cld, csl, hcell⟩ := F.cell
  have e : cd = .ref cda := hcd.symm
  subst e
  exact { fun_ := rfl, fd := ⟨oc, od, osl, _, ar, lk, hp, har⟩, code := ⟨cda, ccl, cdd, vs, ccs, file, tf, rfl, l1, l2, l3⟩, cell := ⟨cl, cld, csl, hcell⟩, cells := rfl, cls := hD, no := no, opq := opq, ks := ks, kc := kc, ka := ka, n0 := n0, top := top }
def abvB (K : PySem.W.Frag) (C D B : Addr) (m : Str) : Bool := decide (PySem.W.mroIn K C (.ref D) = some true) && (decide (PySem.W.ks_superIn K C D m = some (some (.ref (He.ma K B m)))) && (decide (PySem.W.typeIn K (.ref (He.ma K B m)) = some (.type "function")) && PySem.W.fnIn K (He.ma K B m)))
theorem abvB_ok {K : PySem.W.Frag} {C D B : Addr} {m : Str} (h : abvB K C D B m = true) : Abv K C D (He.ma K B m) m := by
  unfold abvB at h
  obtain ⟨h1, h⟩ := He.ba h
  obtain ⟨h2, h⟩ := He.ba h
  obtain ⟨h3, h4⟩ := He.ba h
  exact ⟨of_decide_eq_true h1, of_decide_eq_true h2, of_decide_eq_true h3, h4⟩
theorem FunS.binds0 {P : Program} {K : PySem.W.Frag} {x qual : Str} {st : Stmt} {cc D f : Addr} {fd : FuncData} {ps : List Str} (F : FunS P K x qual st [] cc D f fd)
    (h : ∀ (kV doc pm : Value) (an : Option Addr) (cdv ct : Value) (us : List Value), us.length = ps.length → bindArgs (PySem.W.ksFn x qual (defArgs st) (defBody st) (defScope st) .none kV doc pm an cdv ct cc) ⟨us, []⟩ = pure (ps.zip us)) : Binds K fd ps [] := by
  obtain ⟨oc, od, dV, kV, doc, pm, an, cda, ct, osl, rfl, lk, hcode, hD, _⟩ := F.ex
  rcases hD with ⟨_, rfl⟩ | ⟨z, _⟩
  · intro s us _ hl
    rw [List.append_nil] at hl ⊢
    exact .of_eq (h kV doc pm an _ ct us hl)
  · exact absurd rfl z
theorem FunS.binds1 {P : Program} {K : PySem.W.Frag} {x qual : Str} {st : Stmt} {dvs : List V} {cc D f : Addr} {fd : FuncData} {ps : List Str} (F : FunS P K x qual st dvs cc D f fd) (n j : Nat) (hd : dvs ≠ []) (hn : n + (dvs.length - j) = ps.length)
    (h : ∀ (T : Addr) (kV doc pm : Value) (an : Option Addr) (cdv ct : Value) (us its : List Value), us.length = n → its.length = dvs.length →
      ∃ k, bindArgs (PySem.W.ksFn x qual (defArgs st) (defBody st) (defScope st) (.ref T) kV doc pm an cdv ct cc) ⟨us, []⟩ = seqItems? (.ref T) >>= k ∧ k (some its.toArray) = pure (ps.zip (us ++ its.drop j))) : ∃ ds, Vals (dvs.drop j) ds ∧ Binds K fd ps ds := by
  obtain ⟨oc, od, dV, kV, doc, pm, an, cda, ct, osl, rfl, lk, hcode, hD, _⟩ := F.ex
  rcases hD with ⟨e, _⟩ | ⟨_, T, o, its, m, rfl, lT, oT, rT⟩
  · exact absurd e hd
  · refine ⟨its.drop j, rT.drop j, fun s us X hlen => ?_⟩
    have l1 : its.length = dvs.length := rT.length.symm
    have l2 : us.length = n := by
      rw [List.length_append, List.length_drop, l1] at hlen
      omega
    obtain ⟨k, e1, e2⟩ := h T kV doc pm an _ ct us its l2 l1
    refine BindsTo.of_looks fun M => ?_
    rw [e1]
    exact looks_items X lT oT (.of_pure e2)
theorem FunS.kbindsD {P : Program} {K : PySem.W.Frag} {x qual : Str} {st : Stmt} {dvs : List V} {cc D f : Addr} {fd : FuncData} {ps : List Str} (F : FunS P K x qual st dvs cc D f fd) (n : Nat) (ks : List Str) (g : {α : Type} → List α → List α → List α → List α) (hd : dvs ≠ [])
    (hrel : ∀ {vs ds zs : List V} {us its ws : List Value}, Vals vs us → Vals ds its → Vals zs ws → Vals (g vs ds zs) (g us its ws))
    (h : ∀ (T : Addr) (kV doc pm : Value) (an : Option Addr) (cdv ct : Value) (us its ws : List Value), us.length = n → its.length = dvs.length → ws.length = ks.length →
      ∃ k, bindArgs (PySem.W.ksFn x qual (defArgs st) (defBody st) (defScope st) (.ref T) kV doc pm an cdv ct cc) ⟨us, ks.zip ws⟩ = seqItems? (.ref T) >>= k ∧ k (some its.toArray) = pure (ps.zip (g us its ws))) :
    ∃ its : List Value, KBn K fd ps n ks (fun us ws => g us its ws) (fun vs zs => g vs dvs zs) := by
  obtain ⟨oc, od, dV, kV, doc, pm, an, cda, ct, osl, rfl, lk, hcode, hD, _⟩ := F.ex
  rcases hD with ⟨e, _⟩ | ⟨_, T, o, its, m, rfl, lT, oT, rT⟩
  · exact absurd e hd
  · refine ⟨its, ⟨fun s us ws X l1 l2 => ?_, fun r1 r2 => hrel r1 rT r2⟩⟩
    obtain ⟨k, e1, e2⟩ := h T kV doc pm an _ ct us its ws l1 rT.length.symm l2
    refine BindsTo.of_looks fun M => ?_
    rw [e1]
    exact looks_items X lT oT (.of_pure e2)
theorem kbindsD {K : PySem.W.Frag} {x qual : Str} {params : Arguments} {body : List Stmt} {scope : Scope} {dvs : List V} {f : Addr} {fd : FuncData} {ps : List Str} (F : FunD K x qual params body scope dvs [] f fd) (n : Nat) (ks : List Str) (g : {α : Type} → List α → List α → List α → List α) (hd : dvs ≠ [])
    (hrel : ∀ {vs ds zs : List V} {us its ws : List Value}, Vals vs us → Vals ds its → Vals zs ws → Vals (g vs ds zs) (g us its ws))
    (h : ∀ (T : Addr) (kV doc pm : Value) (an : Option Addr) (cdv ct : Value) (us its ws : List Value), us.length = n → its.length = dvs.length → ws.length = ks.length →
      ∃ k, bindArgs (PySem.W.fnOf x qual params body scope (.ref T) kV doc pm an cdv ct) ⟨us, ks.zip ws⟩ = seqItems? (.ref T) >>= k ∧ k (some its.toArray) = pure (ps.zip (g us its ws))) :
    ∃ its : List Value, KBn K fd ps n ks (fun us ws => g us its ws) (fun vs zs => g vs dvs zs) := by
  obtain ⟨oc, od, dV, kV, doc, pm, an, cdv, ct, osl, rfl, lk, hcd, hD, hK⟩ := F.ex
  rcases hD with ⟨e, _⟩ | ⟨_, T, o, its, m, rfl, lT, oT, rT⟩
  · exact absurd e hd
  · refine ⟨its, ⟨fun s us ws X l1 l2 => ?_, fun r1 r2 => hrel r1 rT r2⟩⟩
    obtain ⟨k, e1, e2⟩ := h T kV doc pm an cdv ct us its ws l1 rT.length.symm l2
    refine BindsTo.of_looks fun M => ?_
    rw [e1]
    exact looks_items X lT oT (.of_pure e2)
end OZ
set_option maxRecDepth 100000
set_option maxHeartbeats 1000000
namespace OZ
open PySem PySem.Spec PyProof.Rows L2 LamX
def InsK (H H' : Hp) : Prop := ∀ a C dx fs, H a = some (.ins C dx fs) → H' a = some (.ins C dx fs)
section
variable {H H1 H' : Hp} {l p c a C : Addr} {n : Nat} {xs : List V} {v : V} {q : Rat} {K : PySem.W.Frag} {t : Value}
theorem InsK.refl : InsK H H := fun _ _ _ _ h => h
theorem InsK.trans (a : InsK H H1) (b : InsK H1 H') : InsK H H' := fun c C dx fs h => b c C dx fs (a c C dx fs h)
theorem InsK.same (s : Same H H') : InsK H H' := fun _ _ _ _ h => s _ _ h
theorem InsK.ext (e : ExtN H H') : InsK H H' := fun _ _ _ _ h => e _ _ h fun ps z => by cases z
theorem InsK.kpl (hl : H l = some (.lst xs)) (k : Kp l H H') : InsK H H' := fun _ _ _ _ h => k _ _ (fun z => by rw [z, hl] at h; cases h) h
theorem InsK.pen (hp : PenAt H p c n) (k : Kp p H H') : InsK H H' := by
  obtain ⟨ns, b, l, h1, _⟩ := hp
  exact InsK.kpl h1 k
theorem AmQ.ik (k : InsK H H') (h : AmQ C H a q) : AmQ C H' a q := by
  obtain ⟨dx, h⟩ := h
  exact ⟨dx, k _ _ _ _ h⟩
theorem NumQ.ik (k : InsK H H') (h : NumQ C H v q) : NumQ C H' v q := by
  rcases h with h | ⟨b, e, h⟩
  · exact .inl h
  · exact .inr ⟨b, e, AmQ.ik k h⟩
theorem tyX_kp (n : v ≠ .ref p) (k : Kp p H H') (h : TyX K H v t) : TyX K H' v t := by
  have off : ∀ {b : Addr} {o : HO}, v = .ref b → H b = some o → H' b = some o := fun e h => k _ _ (fun z => n (by rw [e, z])) h
  cases h with
  | base b =>
    cases b with
    | non => exact .base .non
    | bl x => exact .base (.bl x)
    | int i => exact .base (.int i)
    | str x => exact .base (.str x)
    | flt x => exact .base (.flt x)
    | lst e => exact .base (.lst (off rfl e))
    | frz e => exact .base (.frz (off rfl e))
    | tup e => exact .base (.tup (off rfl e))
    | dK e => exact .base (.dK (off rfl e))
    | dT e => exact .base (.dT (off rfl e))
    | ins e cl ha hn htk hm => exact .base (.ins (off rfl e) cl ha hn htk hm)
  | byt b => exact .byt b
  | set e => exact .set (off rfl e)
  | kList e c => exact .kList e c
  | kTuple e c => exact .kTuple e c
  | kDict e c => exact .kDict e c
  | fTuple e => exact .fTuple (off rfl e)
  | fDict e => exact .fDict (off rfl e)
theorem tyX_ext (k : ExtN H H') (h : TyX K H v t) : TyX K H' v t := by
  cases h with
  | base b =>
    cases b with
    | non => exact .base .non
    | bl x => exact .base (.bl x)
    | int i => exact .base (.int i)
    | str x => exact .base (.str x)
    | flt x => exact .base (.flt x)
    | lst e => exact .base (.lst (k _ _ e fun ps z => by cases z))
    | frz e => exact .base (.frz (k _ _ e fun ps z => by cases z))
    | tup e => exact .base (.tup (k _ _ e fun ps z => by cases z))
    | dK e => exact .base (.dK (k _ _ e fun ps z => by cases z))
    | dT e => exact .base (.dT (k _ _ e fun ps z => by cases z))
    | ins e cl ha hn htk hm => exact .base (.ins (k _ _ e fun ps z => by cases z) cl ha hn htk hm)
  | byt b => exact .byt b
  | set e => exact .set (k _ _ e fun ps z => by cases z)
  | kList e c => exact .kList e c
  | kTuple e c => exact .kTuple e c
  | kDict e c => exact .kDict e c
  | fTuple e => exact .fTuple (k _ _ e fun ps z => by cases z)
  | fDict e => exact .fDict (k _ _ e fun ps z => by cases z)
def VK1 (v : V) (H H' : Hp) : Prop := ∀ a o, v = .ref a → H a = some o → (∀ ps, o ≠ .tbl ps) → H' a = some o
theorem VK1.refl : VK1 v H H := fun _ _ _ h _ => h
theorem VK1.trans (a : VK1 v H H1) (b : VK1 v H1 H') : VK1 v H H' := fun c o e h n => b c o e (a c o e h n) n
theorem VK1.same (s : Same H H') : VK1 v H H' := fun _ _ _ h _ => s _ _ h
theorem VK1.ext (e : ExtN H H') : VK1 v H H' := fun _ _ _ h n => e _ _ h n
theorem VK1.kp (n : v ≠ .ref p) (k : Kp p H H') : VK1 v H H' := fun a o e h _ => k _ _ (fun z => n (by rw [e, z])) h
theorem tyX_vk (k : VK1 v H H') (h : TyX K H v t) : TyX K H' v t := by
  cases h with
  | base b =>
    cases b with
    | non => exact .base .non
    | bl x => exact .base (.bl x)
    | int i => exact .base (.int i)
    | str x => exact .base (.str x)
    | flt x => exact .base (.flt x)
    | lst e => exact .base (.lst (k _ _ rfl e fun ps z => by cases z))
    | frz e => exact .base (.frz (k _ _ rfl e fun ps z => by cases z))
    | tup e => exact .base (.tup (k _ _ rfl e fun ps z => by cases z))
    | dK e => exact .base (.dK (k _ _ rfl e fun ps z => by cases z))
    | dT e => exact .base (.dT (k _ _ rfl e fun ps z => by cases z))
    | ins e cl ha hn htk hm => exact .base (.ins (k _ _ rfl e fun ps z => by cases z) cl ha hn htk hm)
  | byt b => exact .byt b
  | set e => exact .set (k _ _ rfl e fun ps z => by cases z)
  | kList e c => exact .kList e c
  | kTuple e c => exact .kTuple e c
  | kDict e c => exact .kDict e c
  | fTuple e => exact .fTuple (k _ _ rfl e fun ps z => by cases z)
  | fDict e => exact .fDict (k _ _ rfl e fun ps z => by cases z)
theorem KdV.vk (k : VK1 v H H') (h : KdV K H v) : KdV K H' v := by
  obtain ⟨t, b1, b2, ty, r⟩ := h
  exact ⟨t, b1, b2, tyX_vk k ty, r⟩
theorem NumQ.vk (k : VK1 v H H') (h : NumQ C H v q) : NumQ C H' v q := by
  rcases h with h | ⟨b, e, dx, h⟩
  · exact .inl h
  · exact .inr ⟨b, e, dx, k b _ e h fun ps z => by cases z⟩
def StrV (K : PySem.W.Frag) (H : Hp) (v : V) : Prop := ∃ (t : Value) (b : Bool), TyX K H v t ∧ PySem.W.kitOne K t (.type "str") = some b ∧ ((b = true ∧ ∃ z : Str, v = .str z ∧ z.length ≤ 10000) ∨ (b = false ∧ ∀ z : Str, v ≠ .str z))
theorem StrV.str {z : Str} (h : z.length ≤ 10000) : StrV K H (.str z) := ⟨_, true, .base (.str z), kit_ty (a := "str") (b := "str") (r := true) (by decide +kernel), .inl ⟨rfl, z, rfl, h⟩⟩
theorem StrV.vk (k : VK1 v H H') (h : StrV K H v) : StrV K H' v := by
  obtain ⟨t, b, ty, r⟩ := h
  exact ⟨t, b, tyX_vk k ty, r⟩
theorem StrV.dq {d : PyData} (h : Dq p H v d) (hz : ∀ x, d = .str x → x.length ≤ 10000) : StrV K H v := by
  have ty := h.ty (K := K)
  cases h with
  | non => exact ⟨_, false, ty, kit_ty (a := "NoneType") (b := "str") (r := false) (by decide +kernel), .inr ⟨rfl, fun z e => by cases e⟩⟩
  | bl b => exact ⟨_, false, ty, kit_ty (a := "bool") (b := "str") (r := false) (by decide +kernel), .inr ⟨rfl, fun z e => by cases e⟩⟩
  | int i => exact ⟨_, false, ty, kit_ty (a := "int") (b := "str") (r := false) (by decide +kernel), .inr ⟨rfl, fun z e => by cases e⟩⟩
  | str x => exact .str (hz x rfl)
  | lst n h a => exact ⟨_, false, ty, kit_ty (a := "list") (b := "str") (r := false) (by decide +kernel), .inr ⟨rfl, fun z e => by cases e⟩⟩
  | tup n h a => exact ⟨_, false, ty, kit_ty (a := "tuple") (b := "str") (r := false) (by decide +kernel), .inr ⟨rfl, fun z e => by cases e⟩⟩
  | dic n h a => exact ⟨_, false, ty, kit_ty (a := "dict") (b := "str") (r := false) (by decide +kernel), .inr ⟨rfl, fun z e => by cases e⟩⟩
theorem StrV.ins {dx : Addr} {fs : List (Str × V)} (o : OC K C) (k1 : PySem.W.kitOne K (.ref C) (.type "str") = some false) (h : H a = some (.ins C dx fs)) : StrV K H (.ref a) :=
  ⟨_, false, o.ty h, k1, .inr ⟨rfl, fun z e => by cases e⟩⟩
theorem StrV.none : StrV K H .non := .dq (p := 0) .non fun x e => by cases e
theorem StrV.bl {b : Bool} : StrV K H (.bl b) := .dq (p := 0) (.bl b) fun x e => by cases e
theorem StrV.int {i : Int} : StrV K H (.int i) := .dq (p := 0) (.int i) fun x e => by cases e
theorem StrV.tup {xs : List V} (h : H a = some (.tup xs)) : StrV K H (.ref a) := ⟨_, false, .base (.tup h), kit_ty (a := "tuple") (b := "str") (r := false) (by decide +kernel), .inr ⟨rfl, fun z e => by cases e⟩⟩
theorem StrV.lst {xs : List V} (h : H a = some (.lst xs)) : StrV K H (.ref a) := ⟨_, false, .base (.lst h), kit_ty (a := "list") (b := "str") (r := false) (by decide +kernel), .inr ⟨rfl, fun z e => by cases e⟩⟩
theorem StrV.dK {xs : List (Key × V)} (h : H a = some (.dK xs)) : StrV K H (.ref a) := ⟨_, false, .base (.dK h), kit_ty (a := "dict") (b := "str") (r := false) (by decide +kernel), .inr ⟨rfl, fun z e => by cases e⟩⟩
theorem KdV.none : KdV K H .non := .dq (p := 0) .non
theorem KdV.bl {b : Bool} : KdV K H (.bl b) := .dq (p := 0) (.bl b)
theorem KdV.str {z : Str} : KdV K H (.str z) := .dq (p := 0) (.str z)
theorem KdV.tup {xs : List V} (h : H a = some (.tup xs)) : KdV K H (.ref a) := ⟨_, false, false, .base (.tup h), kit_ty (a := "tuple") (b := "int") (r := false) (by decide +kernel), kit_ty (a := "tuple") (b := "bool") (r := false) (by decide +kernel), rfl⟩
theorem KdV.lst {xs : List V} (h : H a = some (.lst xs)) : KdV K H (.ref a) := ⟨_, false, false, .base (.lst h), kit_ty (a := "list") (b := "int") (r := false) (by decide +kernel), kit_ty (a := "list") (b := "bool") (r := false) (by decide +kernel), rfl⟩
theorem KdV.dK {xs : List (Key × V)} (h : H a = some (.dK xs)) : KdV K H (.ref a) := ⟨_, false, false, .base (.dK h), kit_ty (a := "dict") (b := "int") (r := false) (by decide +kernel), kit_ty (a := "dict") (b := "bool") (r := false) (by decide +kernel), rfl⟩
theorem y_draw {m : Int} {Q : VK} {E : XK} (hP : PenAt H p c n) (hn : n ≤ 1000000) (h0 : 0 < m) (h1 : m.natAbs < 2 ^ 4000) (k : ∀ (r : Int) (H' : Hp), 0 ≤ r → r < m → PenAt H' p c (n + 1) → Kp p H H' → Q (.int r) H') : spDraw [.ref p, .int m] H Q E := ⟨p, c, n, m, rfl, hP, hn, h0, h1, k⟩
theorem y_drawC {m : Int} {Q : VK} {E : XK} (hP : PenAt H p c n) (hn : n ≤ 1000000) (h0 : 0 < m) (h1 : m.natAbs < 2 ^ 4000) (k : ∀ (r : Int) (H' : Hp), 0 ≤ r → r < m → PenAt H' p c (n + 1) → Kp p H H' → Q (.int r) H') : spDraw ([.ref p, .int m] ++ []) H Q E := y_draw hP hn h0 h1 k
theorem PenAt.ne_tup (P : PenAt H p c n) (h : H a = some (.tup xs)) : a ≠ p := by
  obtain ⟨ns, b, l, h1, _⟩ := P
  intro z; rw [z, h1] at h; cases h
theorem PenAt.ne_ins {dx : Addr} {fs : List (Str × V)} (P : PenAt H p c n) (h : H a = some (.ins C dx fs)) : a ≠ p := by
  obtain ⟨ns, b, l, h1, _⟩ := P
  intro z; rw [z, h1] at h; cases h
theorem PenAt.ne_dK {kvs : List (Key × V)} (P : PenAt H p c n) (h : H a = some (.dK kvs)) : a ≠ p := by
  obtain ⟨ns, b, l, h1, _⟩ := P
  intro z; rw [z, h1] at h; cases h
theorem allv_nil {P : V → Prop} : ∀ x ∈ ([] : List V), P x := fun x h => by cases h
theorem allv_cons {P : V → Prop} {x : V} (h : P x) (r : ∀ y ∈ xs, P y) : ∀ y ∈ x :: xs, P y := fun y hy => by
  rcases List.mem_cons.mp hy with e | e
  · rw [e]; exact h
  · exact r y e
theorem allv_app {P : V → Prop} {ys : List V} (h : ∀ y ∈ xs, P y) (r : ∀ y ∈ ys, P y) : ∀ y ∈ xs ++ ys, P y := fun y hy => by
  rcases List.mem_append.mp hy with e | e
  · exact h y e
  · exact r y e
theorem allv_rep {P : V → Prop} {k : Nat} (h : ∀ y ∈ xs, P y) : ∀ y ∈ (List.replicate k xs).flatten, P y := fun y hy => by
  obtain ⟨l, hl, hy⟩ := List.mem_flatten.mp hy
  rw [(List.mem_replicate.mp hl).2] at hy
  exact h y hy
end
end OZ
set_option maxRecDepth 100000
set_option maxHeartbeats 1000000
namespace OZ
open PySem PySem.Spec PyProof.Rows L2 LamX
section
variable {σ : L2.St} {H : Hp} {Q : VK} {td ty tv : TE} {D : Ends} {a : Addr} {kvs : List (Key × V)} {z : Str} {v : V}
theorem z_disp {trs : List (TE × TE)} (h : ∀ p H0, H p = none → Same H H0 → H0 p = some (.dK []) → tPairs trs σ H0 fun ps H2 => H2 p = some (.dK []) ∧ ∃ kvs : List (Key × V), ps = kvs.map (fun kv => (kV kv.1, kv.2)) ∧ kvs.length ≤ 15 ∧ Q (.ref p) (upd H2 p (.dK (mergeK [] kvs)))) : tDisp trs σ H Q :=
  fun p np => h p _ np (fun b o e => upd_old np e) upd_same
theorem y_dend {ps : List (V × V)} {p : Addr} (hp : H p = some (.dK [])) (kvs : List (Key × V)) (e : ps = kvs.map (fun kv => (kV kv.1, kv.2))) (hl : kvs.length ≤ 15) (k : ∀ H3, Kp p H H3 → H3 p = some (.dK (mergeK [] kvs)) → Q (.ref p) H3) :
    H p = some (.dK []) ∧ ∃ kvs : List (Key × V), ps = kvs.map (fun kv => (kV kv.1, kv.2)) ∧ kvs.length ≤ 15 ∧ Q (.ref p) (upd H p (.dK (mergeK [] kvs))) := ⟨hp, kvs, e, hl, k _ Kp.set upd_same⟩
theorem z_dnew (h : ∀ p H', H p = none → Same H H' → H' p = some (.dK []) → Q (.ref p) H') : tDNewK σ H Q := fun p np => h p _ np (fun b o e => upd_old np e) upd_same
theorem y_dget (h : td σ H fun x H1 => ty σ H1 fun y H2 => ∃ a v, x = .ref a ∧ DGet H2 a y (some v) ∧ Q v H2) : tDGet td ty σ H Q := h
theorem z_dgetS (hp : H a = some (.dK kvs)) (hv : valV kvs (.inr z) = some v) (k : Q v H) : ∃ a' v', V.ref a = .ref a' ∧ DGet H a' (.str z) (some v') ∧ Q v' H := ⟨a, v, rfl, hv ▸ DGet.k (k := .inr z) hp, k⟩
theorem y_dput (h : tv σ H fun v H1 => td σ H1 fun x H2 => ty σ H2 fun y H3 => ∃ a H4, x = .ref a ∧ DPut H3 a y v H4 ∧ D.nx σ H4) : sDPut td ty tv D σ H := h
theorem z_dputS {R : Hp → Prop} (hp : H a = some (.dK kvs)) (hl : kvs.length ≤ 1000) (k : ∀ H', Kp a H H' → H' a = some (.dK (putK kvs (.inr z) v)) → R H') : ∃ a' H4, V.ref a = .ref a' ∧ DPut H a' (.str z) v H4 ∧ R H4 :=
  ⟨a, _, rfl, DPut.k (k := .inr z) hp (Nat.lt_of_le_of_lt hl (by decide)), k _ Kp.set upd_same⟩
end
def StcD (P : Program) (w : World) (K : PySem.W.Frag) (mg : Str → Option Value) (base : Heap) (k : Nat) (C : Addr) (m : Str) (ps : List Str) (dvs : List V) (sp : Sp) : Prop :=
  ClX.CRead K C (.type "type") ∧ ∃ (p g : Addr) (fd : FuncData) (rest : List Value) (ds : List Value), PySem.W.findCls K (.ref C) (.type "type") m = some (.get (.builtin "staticmethod.__get__") (.ref p) .none (.ref C)) ∧
    PySem.W.recIn K p "staticmethod" = some (.ref g :: rest) ∧ PySem.W.keepIn K (.ref g) = true ∧ Binds K fd ps ds ∧ Vals dvs ds ∧ FnOk P w K mg base (L2.CX P w) k g fd ps sp
def tSMD (C : Addr) (sp : Sp) (dvs : List V) (E : L2.St → XK) (ta : TE) (t : TA) : TE := fun σ H Q => ta σ H fun x H1 => x = .ref C ∧ t σ H1 fun vs H2 => sp (vs ++ dvs) H2 Q (E σ)
theorem y_smD {C : Addr} {sp : Sp} {dvs : List V} {E : L2.St → XK} {ta : TE} {t : TA} {σ : L2.St} {H : Hp} {Q : VK} (h : ta σ H fun x H1 => x = .ref C ∧ t σ H1 fun vs H2 => sp (vs ++ dvs) H2 Q (E σ)) : tSMD C sp dvs E ta t σ H Q := h
section
variable {X : Cx} {k : Nat} {C : Addr} {m : Str} {ps : List Str} {dvs : List V} {sp : Sp} {o e : Expr} {es : List Expr} {ta : TE} {t : TA} {apos pos : Pos} {pl : Sem Bool}
theorem pe_smD {E : L2.St → XK} (M : StcD X.prog X.w X.K X.mg X.base k C m ps dvs sp) (hr : Room k X.A) (hx : ∀ σ, PassesAt (L2.CX X.prog X.w) X σ (E σ)) (he : PE X o ta) (ha : PA X (e :: es) t) (hst : starEach (e :: es) X.env = (false, eval e X.env) :: starEach es X.env := by rfl) (hpl : (backTo pos (starEach es X.env)).any (·.1) = false := by rfl)
    (ht : eval (.Call (.Attribute o m apos) (e :: es) [] pos) X.env = (do
      let ov ← eval o X.env
      standAt apos.atName
      let (f, first) ← holding [ov] (getMethod ov m pl)
      callWith pos f first (backTo pos (starEach (e :: es) X.env)) (backToKw pos (keywordEach [] X.env))) := by rfl) : PE X (.Call (.Attribute o m apos) (e :: es) [] pos) (tSMD C sp dvs E ta t) := by
  obtain ⟨r, p, g, fd, rest, ds, h1, h2, hk, hb, hd, G⟩ := M
  constructor
  intro pins s σ H Q I h
  refine PySem.W.methodCall_KW (pl := pl) (thn (he.run pins s σ H _ I h) ?_) ht
  rintro u s1 ⟨x, H1, I1, rx, ex, q⟩
  subst ex
  cases (show u = Value.ref C from rx)
  apply getsm I1 r h1 h2
  intro s2 I2
  refine PySem.W.callWith_K (h₀ := X.base) I2.ok.mod.kin hk (thn (ha.run pos pins s2 σ H1 _ I2 q) ?_) hst hpl
  rintro us s3 ⟨vs, H2, I3, rv, q2⟩
  exact ⟨I3.kIn, run_fnSD G hr hb hd (hx σ) I3 rv q2⟩
theorem smDL (M : StcD X.prog X.w X.K X.mg X.base k C m ps dvs sp) (hr : Room k X.A) (he : PE X o ta) (ha : PA X (e :: es) t) (hst : starEach (e :: es) X.env = (false, eval e X.env) :: starEach es X.env := by rfl) (hpl : (backTo pos (starEach es X.env)).any (·.1) = false := by rfl)
    (ht : eval (.Call (.Attribute o m apos) (e :: es) [] pos) X.env = (do
      let ov ← eval o X.env
      standAt apos.atName
      let (f, first) ← holding [ov] (getMethod ov m pl)
      callWith pos f first (backTo pos (starEach (e :: es) X.env)) (backToKw pos (keywordEach [] X.env))) := by rfl) : PE X (.Call (.Attribute o m apos) (e :: es) [] pos) (tSMD C sp dvs (fun _ => E0) ta t) :=
  pe_smD M hr (fun σ pins H s e s' I c => passL pins σ H s e s' I c) he ha hst hpl ht
theorem smDX {W : WX} (M : StcD X.prog X.w X.K X.mg X.base k C m ps dvs sp) (hr : Room k X.A) (tk : Takes X W) (he : PE X o ta) (ha : PA X (e :: es) t) (hst : starEach (e :: es) X.env = (false, eval e X.env) :: starEach es X.env := by rfl) (hpl : (backTo pos (starEach es X.env)).any (·.1) = false := by rfl)
    (ht : eval (.Call (.Attribute o m apos) (e :: es) [] pos) X.env = (do
      let ov ← eval o X.env
      standAt apos.atName
      let (f, first) ← holding [ov] (getMethod ov m pl)
      callWith pos f first (backTo pos (starEach (e :: es) X.env)) (backToKw pos (keywordEach [] X.env))) := by rfl) : PE X (.Call (.Attribute o m apos) (e :: es) [] pos) (tSMD C sp dvs (WE W) ta t) :=
  pe_smD M hr (fun σ => passAt tk σ) he ha hst hpl ht
end
end OZ
set_option maxRecDepth 100000
set_option maxHeartbeats 1000000
namespace OZ
open PySem PySem.Spec PyProof.Rows L2 LamX
section
variable {K : PySem.W.Frag} {σ : L2.St} {H : Hp} {Q : VK} {te : TE} {g : TG} {tt : TT} {vs : List Nat} {a b : Addr} {xs : List V}
theorem l_list (Pv : Addr → Nat → Hp → Prop) (h0 : ∀ D G, H D = none → Same H G → G D = some (.lst []) → (∀ c o, c ≠ D → G c = some o → H c = some o) → Pv D 0 G) (hl : ∀ D i G, H D = none → i ≤ xs.length → Pv D i G → SqL K G a xs)
    (hs : ∀ D i x H1, H D = none → xs[i]? = some x → Pv D i H1 → g x (wipe σ vs) H1 fun σ2 H2 => wipe σ2 vs = wipe σ vs ∧ tt σ2 H2 fun b H3 =>
      if b = true then te σ2 H3 fun y H4 => ∃ acc, H4 D = some (.lst acc) ∧ acc.length < sizeLine ∧ Pv D (i + 1) (upd H4 D (.lst (acc ++ [y]))) else Pv D (i + 1) H3) (hd : ∀ D H1, H D = none → Pv D xs.length H1 → Q (.ref D) H1) : LcB (Itl K a) g tt te vs σ H Q :=
  fun D hD => lc_list (Pv D) (h0 D _ hD (fun b o e => upd_old hD e) upd_same (fun c o n e => by rw [upd_ne n] at e; exact e)) (fun i G hi p => hl D i G hD hi p) (fun i x H1 hx p => hs D i x H1 hD hx p) (fun H1 p => hd D H1 hD p)
theorem y_lcL {H0 : Hp} {x : V} (hx : x = .ref a) (hs : SqL K H a xs) (h : LcB (Itl K a) g tt te vs σ H Q) : ∃ a', x = .ref a' ∧ (∃ xs, SqL K H a' xs) ∧ LcB (Itl K a') g tt te vs σ H Q := ⟨a, hx, ⟨xs, hs⟩, h⟩
theorem y_neD0 (ha : H a = some (.lst [])) (hb : H b = some (.lst [])) (q : Q (.bl false) H) : rNeD K (.ref a) (.ref b) H Q := ⟨_, _, .lst (SqL.of ha) .nil, .lst (SqL.of hb) .nil, rfl, rfl, q⟩
theorem y_eqD0 (ha : H a = some (.lst [])) (hb : H b = some (.lst [])) (q : Q (.bl true) H) : rEqD K (.ref a) (.ref b) H Q := ⟨_, _, .lst (SqL.of ha) .nil, .lst (SqL.of hb) .nil, rfl, rfl, q⟩
theorem dp_ss : ∀ zs : List Str, DpAll K H (zs.map V.str) (zs.map PyData.str)
  | [] => .nil
  | z :: r => .cons (.str z) (dp_ss r)
theorem eqv_ss : ∀ zs ys : List Str, PyData.eqvAll (zs.map PyData.str) (ys.map PyData.str) = decide (zs = ys)
  | [], [] => by simp [PyData.eqvAll]
  | [], y :: r => by simp [PyData.eqvAll]
  | z :: r, [] => by simp [PyData.eqvAll]
  | z :: r, y :: t => by
    simp only [List.map_cons, PyData.eqvAll, eqv_ss r t, PyData.eqv]
    by_cases e : z = y
    · subst e; simp
    · simp [e]
theorem lay_ss : ∀ zs : List Str, (∀ z ∈ zs, PyData.strOk z = true) → PyData.canLayAll0 (zs.map PyData.str) = true ∧ PyData.depthAll (zs.map PyData.str) = 0
  | [], _ => by simp [PyData.canLayAll0, PyData.depthAll]
  | z :: r, h => by
    obtain ⟨h1, h2⟩ := lay_ss r fun y hy => h y (List.mem_cons_of_mem _ hy)
    simp [PyData.canLayAll0, PyData.canLay0, PyData.depthAll, PyData.depth, h1, h2, h z List.mem_cons_self]
theorem shp_ss (zs : List Str) (h : ∀ z ∈ zs, PyData.strOk z = true) : SeqAt.shaped (.list (zs.map PyData.str)) = true := by
  obtain ⟨h1, h2⟩ := lay_ss zs h
  simp [SeqAt.shaped, PyData.canLay0, PyData.depth, h1, h2]
theorem y_eqDs (zs ys : List Str) (hz : ∀ z ∈ zs, PyData.strOk z = true) (hy : ∀ z ∈ ys, PyData.strOk z = true) (ha : H a = some (.lst (zs.map V.str))) (hb : H b = some (.lst (ys.map V.str))) (q : Q (.bl (decide (zs = ys))) H) : rEqD K (.ref a) (.ref b) H Q := by
  refine ⟨_, _, .lst (SqL.of ha) (dp_ss zs), .lst (SqL.of hb) (dp_ss ys), shp_ss zs hz, shp_ss ys hy, ?_⟩
  have e : PyData.eqv (.list (zs.map PyData.str)) (.list (ys.map PyData.str)) = decide (zs = ys) := by simp [PyData.eqv, eqv_ss]
  rw [e]; exact q
theorem y_neDs (zs ys : List Str) (hz : ∀ z ∈ zs, PyData.strOk z = true) (hy : ∀ z ∈ ys, PyData.strOk z = true) (ha : H a = some (.lst (zs.map V.str))) (hb : H b = some (.lst (ys.map V.str))) (q : Q (.bl (!decide (zs = ys))) H) : rNeD K (.ref a) (.ref b) H Q := by
  refine ⟨_, _, .lst (SqL.of ha) (dp_ss zs), .lst (SqL.of hb) (dp_ss ys), shp_ss zs hz, shp_ss ys hy, ?_⟩
  have e : PyData.eqv (.list (zs.map PyData.str)) (.list (ys.map PyData.str)) = decide (zs = ys) := by simp [PyData.eqv, eqv_ss]
  rw [e]; exact q
end
def MksG (C : Addr) (sp : Sp) (f : Addr → List V) (H : Hp) (Q : VK) (E : XK) : Prop := ∀ x dx, H x = none → H dx = none → dx ≠ x → sp (f x) (upd (upd H dx (.own x)) x (.ins C dx [])) (fun v H2 => v = .non ∧ Q (.ref x) H2) E
theorem MksG.of {C : Addr} {sp : Sp} {f : Addr → List V} {vs : List V} {H : Hp} {Q : VK} {E : XK} (h : Mks C sp vs H Q E) (e : ∀ x, f x = .ref x :: vs) : MksG C sp f H Q E := fun x dx h1 h2 h3 => by rw [e]; exact h x dx h1 h2 h3
theorem y_makeKG {σ : L2.St} {H : Hp} {Q : VK} {C : Addr} {sp : Sp} {gV : List V → List V → List V} {E : XK} {n m : Nat} {t tk : TA} (h : t σ H fun vs H1 => tk σ H1 fun zs H2 => vs.length = n ∧ zs.length = m ∧ MksG C sp (fun x => gV (.ref x :: vs) zs) H2 Q E) : tMakeK C n m sp gV E t tk σ H Q := h
end OZ
set_option maxRecDepth 100000
set_option maxHeartbeats 1000000
namespace OZ
open PySem PySem.Spec PyProof.Rows L2 LamX
section
variable {H H' : Hp} {d a p c : Addr} {n : Nat} {o : HO} {kvs : List (Key × V)} {T : List (Addr × Str)}
theorem kpdat (k : Kp d H H') (hd : H d = some (.dK kvs)) (h : H a = some o) (n : ∀ ys, o ≠ .dK ys) : H' a = some o := k a o (fun z => by rw [z, hd] at h; cases h; exact n _ rfl) h
theorem PenAt.kpd (P : PenAt H p c n) (hd : H d = some (.dK kvs)) (k : Kp d H H') : PenAt H' p c n := by
  obtain ⟨ns, b, l, h1, h2, h3, h4, h5⟩ := P
  exact ⟨ns, b, l, kpdat k hd h1 (fun _ z => by cases z), kpdat k hd h2 (fun _ z => by cases z), h3, h4, h5⟩
theorem InsK.kpd (hd : H d = some (.dK kvs)) (k : Kp d H H') : InsK H H' := fun _ _ _ _ h => kpdat k hd h fun _ z => by cases z
theorem Tabs.kpd (k : Kp d H H') (hd : H d = some (.dK kvs)) (t : Tabs T H) : Tabs T H' := by
  intro q hq
  obtain ⟨ps, h1, h2, h3⟩ := t q hq
  refine ⟨ps, kpdat k hd h1 (fun _ z => by cases z), h2, fun pos cv e => ?_⟩
  obtain ⟨c, e1, e2⟩ := h3 pos cv e
  exact ⟨c, e1, kpdat k hd e2 fun _ z => by unfold CodeO at z; cases z⟩
end
theorem ix_listK {X : Cx} {K : PySem.W.Frag} (hK : X.K = K := by rfl) : IxR X (rIxL K) := hK ▸ ix_list
theorem ix_tupK {X : Cx} {K : PySem.W.Frag} (hK : X.K = K := by rfl) : IxR X (rIxT K) := hK ▸ ix_tup
theorem y_dendR {H : Hp} {R : Hp → Prop} {ps : List (V × V)} {p : Addr} (kvs kvs2 : List (Key × V)) (hp : H p = some (.dK [])) (e : ps = kvs.map (fun kv => (kV kv.1, kv.2))) (hl : kvs.length ≤ 15) (e2 : mergeK [] kvs = kvs2) (k : ∀ H3, Kp p H H3 → H3 p = some (.dK kvs2) → R H3) :
    H p = some (.dK []) ∧ ∃ kvs : List (Key × V), ps = kvs.map (fun kv => (kV kv.1, kv.2)) ∧ kvs.length ≤ 15 ∧ R (upd H p (.dK (mergeK [] kvs))) := ⟨hp, kvs, e, hl, k _ Kp.set (by rw [e2]; exact upd_same)⟩
theorem seq_by {t u : TS} {D : Ends} {σ : L2.St} {H : Hp} (Post : L2.St → Hp → Prop) (h1 : ∀ R : L2.St → Hp → Prop, (∀ σ' H', Post σ' H' → R σ' H') → t { D with nx := R } σ H) (h2 : ∀ σ' H', Post σ' H' → u D σ' H') : tSeq t u D σ H := h1 (u D) h2
theorem z_dgetR {H : Hp} {a : Addr} {kvs : List (Key × V)} {z : Str} {v : V} {R : V → Prop} (hp : H a = some (.dK kvs)) (hv : valV kvs (.inr z) = some v) (k : R v) : ∃ a' v', V.ref a = .ref a' ∧ DGet H a' (.str z) (some v') ∧ R v' := ⟨a, v, rfl, hv ▸ DGet.k (k := .inr z) hp, k⟩
end OZ
set_option maxRecDepth 100000
set_option maxHeartbeats 1000000
namespace OZ
open PySem PySem.Spec PyProof.Rows L2 LamX
mutual
inductive Dw (K : PySem.W.Frag) (H : Hp) : V → PyData → Prop
  | str (x : Str) : Dw K H (.str x) (.str x)
  | int (i : Int) : Dw K H (.int i) (.int i)
  | bl (b : Bool) : Dw K H (.bl b) (.bool b)
  | lst {a : Addr} {xs : List V} {ds : List PyData} : H a = some (.lst xs) → DwAll K H xs ds → Dw K H (.ref a) (.list ds)
  | tup {a : Addr} {xs : List V} {ds : List PyData} : SqT K H a xs → DwAll K H xs ds → Dw K H (.ref a) (.tuple ds)
inductive DwAll (K : PySem.W.Frag) (H : Hp) : List V → List PyData → Prop
  | nil : DwAll K H [] []
  | cons {v : V} {vs : List V} {d : PyData} {ds : List PyData} : Dw K H v d → DwAll K H vs ds → DwAll K H (v :: vs) (d :: ds)
end
section
variable {X : Cx} {pins : List (Addr × Obj)} {σ : L2.St} {H : Hp} {s : Shared} {K : PySem.W.Frag}
mutual
theorem Dw.reads (sm : ∃ o, X.K.lookup sysModules = some o) (I : Inv X pins σ H s) : ∀ (d : PyData) (v : V) (u : Value), Dw X.K H v d → RelV v u → ∃ as, Reads s.heap u d as ∧ sysModules ∉ as
  | .none, _, _, h, r => by cases h
  | .bool b, _, _, h, r => by
    cases h; cases r
    exact ⟨[], .bool b, by simp⟩
  | .int i, _, _, h, r => by
    cases h; obtain ⟨t, rfl⟩ := r
    exact ⟨[], .int i t, by simp⟩
  | .str x, _, _, h, r => by
    cases h; obtain ⟨t, rfl⟩ := r
    exact ⟨[], .str x t, by simp⟩
  | .list ds, _, _, h, r => by
    cases h with
    | lst hs ha =>
      cases r
      obtain ⟨its, rv, ⟨o, n, ho, hc, _, hd⟩, _⟩ := I.list (SqL.of hs)
      obtain ⟨as, hr, hn⟩ := DwAll.reads sm I ds _ its ha rv
      exact ⟨_, Reads.list ho hc hd hr, by simp only [List.mem_cons, not_or]; exact ⟨sm_ne sm I hs, hn⟩⟩
  | .tuple ds, _, _, h, r => by
    cases h with
    | tup hs ha =>
      cases r
      obtain ⟨its, rv, ⟨o, ho, hc, n, hd⟩, _⟩ := I.tuple hs
      obtain ⟨as, hr, hn⟩ := DwAll.reads sm I ds _ its ha rv
      exact ⟨_, Reads.tuple ho hc hd hr, hn⟩
  | .dict ds, _, _, h, r => by cases h
theorem DwAll.reads (sm : ∃ o, X.K.lookup sysModules = some o) (I : Inv X pins σ H s) : ∀ (ds : List PyData) (vs : List V) (us : List Value), DwAll X.K H vs ds → Vals vs us → ∃ as, ReadsAll s.heap us ds as ∧ sysModules ∉ as
  | [], _, _, h, r => by
    cases h; cases r
    exact ⟨[], .nil, by simp⟩
  | d :: ds, _, _, h, r => by
    cases h with
    | cons h1 h2 =>
      cases r with
      | cons r1 r2 =>
        obtain ⟨as, q1, n1⟩ := Dw.reads sm I d _ _ h1 r1
        obtain ⟨bs, q2, n2⟩ := DwAll.reads sm I ds _ _ h2 r2
        exact ⟨as ++ bs, .cons q1 q2, by simp only [List.mem_append, not_or]; exact ⟨n1, n2⟩⟩
end
end
def rReprW (K : PySem.W.Frag) : List V → Hp → VK → Prop := fun xs H Q => ∃ (a : Addr) (d : PyData), xs = [.ref a] ∧ Dw K H (.ref a) d ∧ Fit d 20 10000 ∧ Q (.str d.shown) H
theorem c_reprW {X : Cx} {k : Nat} (gd : X.A.guards = some []) (hr : Room k X.A) (sm : ∃ o, X.K.lookup sysModules = some o) : CallR X (.builtin "repr") (rReprW X.K) := by
  intro pins s σ H xs us Q I r h
  obtain ⟨a, d, rfl, hd, hf, q⟩ := h
  obtain ⟨u, rfl, ru⟩ := vals1 r
  have hsz := hf.len (Nat.le_refl _)
  obtain ⟨as, hrd, hns⟩ := Dw.reads sm I d _ u hd ru
  have hu := hr.un
  cases (show u = Value.ref _ from ru)
  exact repr_of_reads' hrd hf.sh (fun _ => hns) gd (by have := hf.dp; omega) (fun _ _ e => e) (fun h' u tk hk => ⟨.str _, H, I.kept hk, ⟨_, rfl⟩, q⟩) hsz
def cvS (K : PySem.W.Frag) (C : Addr) (f z : Str) : Bool := match PySem.W.findCls K (.ref C) (.type "type") f with
  | some (.val (.str x _)) => x == z
  | _ => false
theorem cvS_ok {K : PySem.W.Frag} {C : Addr} {f z : Str} (h : cvS K C f z = true) : ∃ u, ClX.CVal K C (.type "type") f (.str z) u := by
  unfold cvS at h
  split at h
  · rename_i x t e
    have ez : x = z := by simpa using h
    subst ez
    exact ⟨_, ⟨e, ⟨t, rfl⟩⟩⟩
  · cases h
def cvT (K : PySem.W.Frag) (C : Addr) (f : Str) (zs : List Str) : Bool := match PySem.W.findCls K (.ref C) (.type "type") f with
  | some (.val (.ref a)) => (match K.lookup a with
    | some ⟨.type c, _, .seq its _, _⟩ => decide (c = "tuple") && (decide (its.size ≤ sizeLine) && He.relAll (zs.map V.str) its.toList)
    | _ => false)
  | _ => false
theorem cvT_ok {K : PySem.W.Frag} {C : Addr} {f : Str} {zs : List Str} (h : cvT K C f zs = true) : ∃ a, ClX.CVal K C (.type "type") f (.ref a) (.ref a) ∧ ∀ H : Hp, SqT K H a (zs.map V.str) := by
  unfold cvT at h
  split at h
  · rename_i a e
    split at h
    · rename_i c od its n sl lk
      obtain ⟨h1, h⟩ := He.ba h
      obtain ⟨h2, h3⟩ := He.ba h
      refine ⟨a, ⟨e, rfl⟩, fun H => .inr ⟨_, its, n, lk, congrArg Value.type (of_decide_eq_true h1), rfl, of_decide_eq_true h2, He.relAll_ok h3⟩⟩
    · cases h
  · cases h
theorem y_cval {K : PySem.W.Frag} {ta : TE} {f : Str} {σ : L2.St} {H : Hp} {Q : VK} (h : ta σ H fun x H1 => ∃ C mc v u, x = .ref C ∧ ClX.CRead K C mc ∧ ClX.CVal K C mc f v u ∧ Q v H1) : ClX.tCVal K ta f σ H Q := h
def prBI (K : PySem.W.Frag) (C D : Addr) (f : Str) : Bool := decide (PySem.W.findIn K (.ref C) f = some (some (.ref (He.ma K D f)))) && prB K D f
theorem prBI_ok {K : PySem.W.Frag} {C D : Addr} {f : Str} (h : prBI K C D f = true) : PropOf K C f (He.ma K D f) (He5.wf K D "property" f) := by
  unfold prBI at h
  obtain ⟨h1, h2⟩ := He.ba h
  obtain ⟨_, b, c, d⟩ := prB_ok h2
  exact ⟨of_decide_eq_true h1, b, c, d⟩
end OZ
set_option maxRecDepth 100000
namespace LW
open PySem PySem.Spec PyProof.Rows L2 OZ
abbrev LET : Str := "abcdefghijklmnopqrstuvwxyz"
abbrev CA (K : PySem.W.Frag) : Addr := He.ga K "Amount"
abbrev CN (K : PySem.W.Frag) : Addr := He.ga K "NoDivisor"
abbrev CTl (K : PySem.W.Frag) : Addr := He.ga K "Tool"
abbrev CSc (K : PySem.W.Frag) : Addr := He.ga K "Scale"
abbrev CRk (K : PySem.W.Frag) : Addr := He.ga K "Ranker"
abbrev CBT (K : PySem.W.Frag) : Addr := He.ga K "BadTool"
abbrev SEN : List Str := ["rising", "falling", "unsure"]
def kitB (K : PySem.W.Frag) (t u : Value) (b : Bool) : Bool := decide (PySem.W.kitOne K t u = some b)
def toolB (K : PySem.W.Frag) : Bool := ocB K (CSc K) && (ocB K (CRk K) && ((["name", "sense", "doubt"] : List Str).all (fun f => decide (PySem.W.findIn K (.ref (CSc K)) f = some none)) && ((["name", "sense", "doubt"] : List Str).all (fun f => decide (PySem.W.findIn K (.ref (CRk K)) f = some none)) &&
  (bTypes.all (fun T => kitB K (.ref (CSc K)) (.type T) false && kitB K (.type T) (.ref (CSc K)) false) && (bTypes.all (fun T => kitB K (.ref (CRk K)) (.type T) false && kitB K (.type T) (.ref (CRk K)) false) && (bTypes.all (fun T => kitB K (.type T) (.ref (CTl K)) false) && (bTypes.all (fun T => kitB K (.ref (CA K)) (.type T) false) &&
  (kitB K (.ref (CSc K)) (.ref (CSc K)) true && (kitB K (.ref (CSc K)) (.ref (CRk K)) false && (kitB K (.ref (CSc K)) (.ref (CTl K)) true && (kitB K (.ref (CRk K)) (.ref (CSc K)) false && (kitB K (.ref (CRk K)) (.ref (CRk K)) true && (kitB K (.ref (CRk K)) (.ref (CTl K)) true && (kitB K (.ref (CSc K)) (.ref (CA K)) false && (kitB K (.ref (CRk K)) (.ref (CA K)) false &&
  (kitB K (.ref (CA K)) (.ref (CTl K)) false && (kitB K (.ref (CA K)) (.ref (CSc K)) false && (kitB K (.ref (CA K)) (.ref (CRk K)) false && ((PySem.W.clsIn K (CSc K)).isSome && ((PySem.W.clsIn K (CRk K)).isSome && (abvB K (CSc K) (CSc K) (CTl K) "__init__" && abvB K (CRk K) (CRk K) (CTl K) "__init__")))))))))))))))))))))
def mkB (K : PySem.W.Frag) (C : Addr) : Bool := PySem.W.makesIn K C && (methB K C "__init__" && (PySem.W.keepIn K (.ref C) && crdB K C))
end LW
set_option maxRecDepth 100000
set_option maxHeartbeats 2000000
namespace OZ
open PySem PySem.Spec PyProof.Rows L2 LamX
abbrev AlT : Type := AlS × List (Option (List (Option (Str × Int))))
structure ToldT (file : Str) (fn : List He5.DefA) (fs : List DefS) (ds : List (Str × List Str)) (tf : List He.Defn) (ex : PySem.W.Frag → Bool) (w : World) (h : Heap) (K : PySem.W.Frag) : Prop where
  s : ToldS file fn fs tf ex h K
  dic : (ds.map fun d => He.dicW K (He.ga K d.1)) = ds.map fun d => some (He.keysIn w.params d.2)
def obsT (file : Str) (n : Nat) (fn : List He5.DefA) (fs : List DefS) (ds : List (Str × List Str)) (tf : List He.Defn) (ex : PySem.W.Frag → Bool) (g : Addr → Option Obj) : AlT := (obsS file n fn fs tf ex g, ds.map fun d => He.dicW (seenZ g n) (He.ga (seenZ g n) d.1))
def valT (fn : List He5.DefA) (fs : List DefS) (ds : List (Str × List Str)) (w : World) : AlT := (valS fn fs, ds.map fun d => some (He.keysIn w.params d.2))
theorem toldT_of {file : Str} {n : Nat} {fn : List He5.DefA} {fs : List DefS} {ds : List (Str × List Str)} {tf : List He.Defn} {ex : PySem.W.Frag → Bool} {w : World} {h : Heap} (e : obsT file n fn fs ds tf ex h.get? = valT fn fs ds w) : ToldT file fn fs ds tf ex w h (seenZ h.get? n) :=
  ⟨toldS_of (congrArg (fun z : AlT => z.1) e), congrArg (fun z : AlT => z.2) e⟩
def hookT (file : Str) (n : Nat) (fn : List He5.DefA) (fs : List DefS) (ds : List (Str × List Str)) (tf : List He.Defn) (ex : PySem.W.Frag → Bool) : PySem.W.Hook where
  α := AlT
  obs := fun s => obsT file n fn fs ds tf ex s.heap.get?
  val := fun w => valT fn fs ds w
  says := fun w h => ∃ K : PySem.W.Frag, K.In h ∧ ToldT file fn fs ds tf ex w h K
  of := fun _ _ e => ⟨_, He.frT_in, toldT_of e⟩
  keeps := fun _ _ _ ⟨K, hK, ct⟩ kp => ⟨K, PySem.W.Frag.In.keeps hK kp, ⟨⟨⟨ct.s.a.d, ct.s.a.more, ct.s.a.hd, ct.s.a.out, fun q hq => kp _ _ (ct.s.a.empty q hq)⟩, ct.s.ok, ct.s.val⟩, ct.dic⟩⟩
theorem obsT_eq {file : Str} {n : Nat} {fn : List He5.DefA} {fs : List DefS} {ds : List (Str × List Str)} {tf : List He.Defn} {ex : PySem.W.Frag → Bool} {g : Addr → Option Obj} {s : Shared} (h : ∀ a, g a = s.heap.get? a) : obsT file n fn fs ds tf ex g = (hookT file n fn fs ds tf ex).obs s := by
  have e : g = s.heap.get? := funext h
  subst e
  rfl
def dItB (K : PySem.W.Frag) (d x z : Str) : Bool := match PySem.W.nsIn K (He.ga K d) x with
  | some (some (.str y _)) => y == z
  | _ => false
theorem ToldT.item {file : Str} {fn : List He5.DefA} {fs : List DefS} {ds : List (Str × List Str)} {tf : List He.Defn} {ex : PySem.W.Frag → Bool} {w : World} {h : Heap} {K : PySem.W.Frag} (c : ToldT file fn fs ds tf ex w h K) (i : Nat) {d x z : Str} {ks : List Str} (hd : ds[i]? = some (d, ks)) (hx : dItB K d x z = true) : KDct K w (He.ga K d) x (.str z) := by
  have e := congrArg (fun z => z[i]?) c.dic
  simp only [List.getElem?_map, hd, Option.map_some, Option.some.injEq] at e
  obtain ⟨es, n, kd⟩ := He.dicW_ok e
  unfold dItB at hx
  split at hx
  · rename_i y t q
    have ey : y = z := by simpa using hx
    subst ey
    exact ⟨es, n, _, kd.1, kd.2, q, ⟨t, rfl⟩⟩
  · cases hx
end OZ
set_option maxRecDepth 100000
namespace LW
open PySem PySem.Spec PyProof.Rows L2 OZ
def mthB (K : PySem.W.Frag) (C D : Addr) (m : Str) : Bool := decide (PySem.W.findIn K (.ref C) m = some (some (.ref (He.ma K D m)))) && PySem.W.isFn K (.ref (He.ma K D m))
theorem mthB_ok {K : PySem.W.Frag} {C D : Addr} {m : Str} (h : mthB K C D m = true) : PySem.W.findIn K (.ref C) m = some (some (.ref (He.ma K D m))) ∧ PySem.W.isFn K (.ref (He.ma K D m)) = true := by
  unfold mthB at h
  simpa only [Bool.and_eq_true, decide_eq_true_eq] using h
def neB (K : PySem.W.Frag) (C : Addr) : Bool := decide (PySem.W.findIn K (.ref C) "__ne__" = some (some (.builtin "object.__ne__")))
def nfB (K : PySem.W.Frag) (C : Addr) (Ds : List Addr) : Bool := (bTypes.all fun T => PySem.W.notFirst K C (.type T)) && Ds.all fun D => PySem.W.notFirst K C (.ref D)
theorem nfB_ok {K : PySem.W.Frag} {C : Addr} {Ds : List Addr} (h : nfB K C Ds = true) : (∀ T ∈ bTypes, PySem.W.notFirst K C (.type T) = true) ∧ ∀ D ∈ Ds, PySem.W.notFirst K C (.ref D) = true := by
  unfold nfB at h
  obtain ⟨h1, h2⟩ := He.ba h
  exact ⟨fun T hT => List.all_eq_true.mp h1 T hT, fun D hD => List.all_eq_true.mp h2 D hD⟩
end LW
set_option maxRecDepth 100000
namespace LW
open PySem PySem.Spec PyProof.Rows L2 OZ
def topS (i : Nat) : Stmt := PySem.Challenge.pw_ownzeros_k12_tools_turned_and_renamed.main.body.getD i (.Pass ⟨0, 0, 0, 0⟩)
abbrev FnP (K : PySem.W.Frag) (x : Str) (st : Stmt) (f : Addr) (fd : FuncData) : Prop := FunD K x x (defArgs st) (defBody st) (defScope st) [] [] f fd
structure TopP (K : PySem.W.Frag) (mg : Str → Option Value) : Prop where
  n_len : mg "len" = none
  n_int : mg "int" = none
  n_abs : mg "abs" = none
  n_list : mg "list" = none
local macro_rules | `(tactic| walk_at "ex") => `(tactic| first
  | assumption
  | (refine ExAt.new ?_ ?_; assumption; walk_at "ex"))
local macro_rules | `(tactic| walk_at "same") => `(tactic| first
  | assumption
  | exact same0
  | (refine same_new ?_ ?_; walk_at "same"; assumption))
local macro_rules | `(tactic| walk_at "free") => `(tactic| first
  | assumption
  | exact free_upd (by walk_at "free"))
local macro_rules | `(tactic| walk_at "hp") => `(tactic| first
  | assumption
  | exact upd_same
  | (refine upd_old ?_ ?_; (first | assumption | exact free_upd (by assumption)); walk_at "hp")
  | (refine upd_oth ?_ ?_; (first | assumption | exact Ne.symm (by assumption)); walk_at "hp"))
local macro_rules | `(tactic| walk_at "side") => `(tactic| first
  | assumption
  | decide
  | omega
  | exact ⟨by omega, by omega, by omega⟩
  | exact Or.inl ⟨by omega, by omega⟩
  | exact Or.inr ⟨by omega, by omega⟩
  | (show (_ : Int) ≠ 0; omega)
  | exact wide_div (b := 64) (by omega) (by omega) (by decide) (by decide)
  | exact wide_div (b := 4000) (by assumption) (by assumption) (by decide) (by decide))
local macro_rules | `(tactic| walk_at "y") => `(tactic| first
  | ((with_reducible refine y_var ?_); refine ⟨_, rfl, ?_⟩)
  | with_reducible refine y_c ?_
  | with_reducible refine y_op ?_
  | with_reducible refine y_cb ?_
  | with_reducible refine y_cons ?_
  | with_reducible refine y_nil ?_
  | with_reducible refine y_seq ?_
  | with_reducible refine y_asg ?_
  | with_reducible refine y_gn ?_
  | with_reducible refine y_gsub ?_
  | with_reducible refine y_ret ?_
  | with_reducible refine y_drop ?_
  | with_reducible refine y_next ?_
  | with_reducible refine y_ifS ?_
  | with_reducible refine y_test ?_
  | with_reducible refine y_B ?_
  | with_reducible refine y_ex ?_
  | with_reducible refine y_not ?_
  | with_reducible refine y_and ?_
  | with_reducible refine y_or ?_
  | with_reducible refine y_notV ?_
  | with_reducible refine y_andV ?_
  | with_reducible refine y_orV ?_
  | with_reducible refine y_ifE ?_
  | with_reducible refine y_un ?_
  | with_reducible refine y_par ?_
  | with_reducible refine y_ex2 ?_
  | with_reducible refine y_call ?_
  | with_reducible refine y_callS ?_
  | with_reducible refine y_I0 ?_
  | ((with_reducible refine y_I ?_ ?_); (walk_at "side"))
  | with_reducible refine y_U ?_
  | ((with_reducible refine y_eq ?_ ?_); (exact rfl))
  | ((with_reducible refine y_ne ?_ ?_); (exact rfl))
  | ((with_reducible refine' y_ixL ?k1 ?k2 ?k3); (case k1 => walk_at "hp"); (case k2 => exact rfl))
  | ((with_reducible refine' y_ixT ?k1 ?k2 ?k3); (case k1 => walk_at "hp"); (case k2 => exact rfl))
  | ((with_reducible refine' y_setL ?k1 ?k2 ?k3); (case k1 => walk_at "hp"); (case k2 => exact rfl))
  | with_reducible refine y_int ?_
  | with_reducible refine y_intB ?_
  | with_reducible refine y_abs ?_
  | ((with_reducible refine' y_lenL ?k1 ?k3); (case k1 => walk_at "hp"))
  | ((with_reducible refine' y_lenT ?k1 ?k3); (case k1 => walk_at "hp"))
  | ((with_reducible refine y_lenS ?_ ?_); (walk_at "side"))
  | with_reducible refine y_isN ?_
  | with_reducible refine y_notN ?_
  | ((with_reducible refine y_addS ?_ ?_); (walk_at "side"))
  | with_reducible refine y_inC ?_
  | with_reducible refine y_notInC ?_
  | with_reducible refine y_sl ?_
  | with_reducible refine y_part ?_
  | with_reducible refine y_nopart ?_
  | with_reducible refine y_exI ?_
  | ((with_reducible refine y_slS ?_ ?_); (walk_at "side"))
  | with_reducible refine y_lst ?_
  | with_reducible refine y_tup ?_
  | ((with_reducible refine' y_chI ?k1 ?k2); (case k1 => exact rfl))
  | with_reducible refine y_chain ?_
  | with_reducible refine y_yes ?_
  | with_reducible refine y_att ?_
  | ((with_reducible refine y_disp ?_ ?_); (exact Nat.le_of_ble_eq_true rfl); (intro pp hpp))
  | ((with_reducible refine' y_gtup ?k1 ?k2 ?k3); (case k1 => walk_at "hp"); (case k2 => exact rfl))
  | with_reducible refine y_gcons ?_
  | with_reducible refine y_gnil ?_
  | with_reducible refine y_mkO ?_
  | with_reducible refine y_callKw ?_
  | with_reducible refine y_xv ?_
  | with_reducible refine y_xv0 ?_
  | with_reducible refine y_bm ?_
  | ((with_reducible refine' y_tyL ?k1 ?k2); (case k1 => walk_at "hp"))
  | ((with_reducible refine' y_app ?k1 ?k2 ?k3); (case k1 => walk_at "hp"); (case k2 => (first | exact Nat.le_of_ble_eq_true rfl | walk_at "side")))
  | ((with_reducible refine' y_cat ?k1 ?k2 ?k3 ?k4); (case k1 => walk_at "hp"); (case k2 => walk_at "hp"); (case k3 => (first | exact Nat.le_of_ble_eq_true rfl | walk_at "side")); (intro pp hpp))
  | ((with_reducible refine' y_slL ?k1 ?k2); (case k1 => walk_at "hp"); (intro pp hpp))
  | ((with_reducible refine' y_in ?k1 ?k2 ?k3 ?k4); (case k1 => walk_at "hp"); (case k2 => exact rfl); (case k3 => exact rfl))
  | with_reducible refine y_iteT ?_
  | with_reducible refine y_iteF ?_
  | with_reducible refine y_iteNT ?_
  | with_reducible refine y_iteNF ?_
  | ((with_reducible refine y_iteY ?_ ?_); (first | exact rfl | assumption | omega))
  | ((with_reducible refine y_iteX ?_ ?_); (first | focus (intro zz; cases zz; done) | assumption | omega))
  | ((with_reducible refine y_iteNY ?_ ?_); (first | exact rfl | assumption | omega))
  | ((with_reducible refine y_iteNX ?_ ?_); (first | focus (intro zz; cases zz; done) | assumption | omega))
  | ((with_reducible refine y_ite ?_ ?_) <;> intro hh)
  | ((with_reducible refine y_iteN ?_ ?_) <;> intro hh)
  | dsimp only)
section
variable {P : Program} {w : World} {K : PySem.W.Frag} {mg : Str → Option Value} {base : Heap}
abbrev s_draw : Stmt := topS 42
theorem sc_draw : FnScope ["_law_pen_here", "_law_many", "_law_digit", "_law_at", "_law_cell", "_law_great", "_law_mixed"] ["_law_pen_here", "_law_many"] (defScope s_draw) := ⟨rfl, rfl, rfl, by decide +kernel, rfl, by decide +kernel, by decide +kernel⟩
theorem ok_draw {f : Addr} {fd : FuncData} (F : FnP K "_law_draw" s_draw f fd) (T : TopP K mg) : FnOk P w K mg base (L2.CX P w) 1 f fd ["_law_pen_here", "_law_many"] spDraw := by
  have nd := sc_draw.nd
  refine F.ok sc_draw (fun vs H Q E h => ?_) (fun cdv A outer s H vs Q E hr h => ?_)
  · obtain ⟨p, c, n, m, rfl, _⟩ := h
    rfl
  · obtain ⟨p, c, n, m, rfl, ⟨ns, b, l, hp, hc, hb0, hbn, hl0⟩, hn, hm0, hm1, k⟩ := h
    have hu64 := hr.units
    refine ⟨_, PSs.nox (pss_cons (ps_if (pt_cmpR op_gt (pe_ix ix_list (pv 0) pe_int (fun _ _ => rfl)) pe_int (nomark _))
        (pss_cons (ps_set (i := 2) nd rfl (Or.inl rfl) (pe_op op_modN (pe_callTy c_int (by rfl) T.n_int (by decide +kernel) (pa_cons (pe_ix ix_list (pv 0) pe_int (fun _ _ => rfl)) pa_nil)) (pv 1)))
        (pss_cons (ps_asg (pe_op op_fdivW (pe_callTy c_int (by rfl) T.n_int (by decide +kernel) (pa_cons (pe_ix ix_list (pv 0) pe_int (fun _ _ => rfl)) pa_nil)) (pv 1)) (pg_sub (pv 0) pe_int set_list))
        (pss_one (ps_ret (pv 2)))))
        pss_nil)
      (pss_cons (ps_set (i := 3) nd rfl (Or.inl rfl) (pe_ix ix_list (pv 0) pe_int (fun _ _ => rfl)))
      (pss_cons (ps_asg (pe_op op_add (pv 3) pe_int) (pg_sub (pv 0) pe_int set_list))
      (pss_cons (ps_set (i := 4) nd rfl (Or.inl rfl) (pe_op op_add (pe_op op_mul pe_int (pv 3)) pe_int))
      (Evl.pss_cut (ps_if (pt_cmpR (op_neD hu64) (pe_ix ix_list (pv 0) pe_int (fun _ _ => rfl)) (pe_lst pa_nil) (nomark _))
        (pss_one (ps_set (i := 4) nd rfl (Or.inl rfl) (pe_ix ix_list (pe_ix ix_list (pv 0) pe_int (fun _ _ => rfl)) (pe_op op_modN (pe_callTy c_int (by rfl) T.n_int (by decide +kernel) (pa_cons (pv 3) pa_nil)) (pe_callB c_len (by rfl) T.n_len (by decide +kernel) (pa_cons (pe_ix ix_list (pv 0) pe_int (fun _ _ => rfl)) pa_nil))) (fun _ _ => rfl))))
        pss_nil)
      (pss_cons (ps_if (PW.pt (pw_and (pt_cmpR op_lt (pv 3) (pe_callB c_len (by rfl) T.n_len (by decide +kernel) (pa_cons (pe_ix ix_list (pv 0) pe_int (fun _ _ => rfl)) pa_nil)) (nomark _)) (pw_and1 (pt_cmpR op_ge (pe_callB c_abs (by rfl) T.n_abs (by decide +kernel) (pa_cons (pv 4) pa_nil)) (pe_op op_pow pe_int pe_int) (nomark _)))))
        (pss_cons (ps_set (i := 5) nd rfl (Or.inl rfl) (pe_op op_add (pe_op op_mul pe_int (pe_op op_sub (pe_callB c_abs (by rfl) T.n_abs (by decide +kernel) (pa_cons (pv 4) pa_nil)) (pe_op op_pow pe_int pe_int))) (pe_callTy c_int (by rfl) T.n_int (by decide +kernel) (pa_cons (pe_cmpR op_lt (pv 4) pe_int (nomark _)) pa_nil))))
        (pss_cons (ps_asg (pe_op op_fdivW (pe_callTy c_int (by rfl) T.n_int (by decide +kernel) (pa_cons (pv 5) pa_nil)) (pv 1)) (pg_sub (pv 0) pe_int set_list))
        (pss_one (ps_ret (pe_op op_modN (pe_callTy c_int (by rfl) T.n_int (by decide +kernel) (pa_cons (pv 5) pa_nil)) (pv 1))))))
        pss_nil)
      (pss_cons (ps_set (i := 6) nd rfl (Or.inl rfl) (pe_op op_modN (pe_callTy c_int (by rfl) T.n_int (by decide +kernel) (pa_cons (pe_op op_pow (pe_op op_add (pe_op op_add (pe_op op_modN (pe_callTy c_int (by rfl) T.n_int (by decide +kernel) (pa_cons (pv 4) pa_nil)) pe_int) (pe_op op_mul pe_int (pv 3))) pe_int) pe_int) pa_nil)) pe_int))
      (pss_cons (ps_set (i := 6) nd rfl (Or.inl rfl) (pe_op op_modN (pe_callTy c_int (by rfl) T.n_int (by decide +kernel) (pa_cons (pe_op op_pow (pe_op op_add (pe_op op_add (pe_op op_mul (pv 6) (pe_op op_add (pe_op op_mul pe_int (pv 3)) pe_int)) (pe_op op_mul (pe_op op_mul pe_int (pv 3)) (pv 3))) pe_int) pe_int) pa_nil)) pe_int))
      (pss_one (ps_ret (pe_op op_modN (pe_callTy c_int (by rfl) T.n_int (by decide +kernel) (pa_cons (pe_op op_fdivW (pv 6) pe_int) pa_nil)) (pv 1)))))))))))), ?_⟩
    have ncp : c ≠ p := ne_of hc hp (Ne.symm (lst_ne ns))
    have dv : ∀ a : Int, CDivW a m := fun a => wide_div hm0 hm1 (by decide) (by decide)
    repeat walk_at "y"
    · exact k _ _ (fmod_pos hm0).1 (fmod_pos hm0).2 ⟨ns, b, _, upd_same, upd_oth ncp hc, hb0, by omega, ediv_nn hm0 (by omega)⟩ Kp.set
    · repeat walk_at "y"
      refine ⟨fun σ' H' => ∃ z : Int, σ' = [some (.ref p), some (.int m), none, some (.int b), some (.int z), none, none] ∧ H' p = some (.lst [.ref c, .int (b + 1), .int l]) ∧ H' c = some (.lst (ns.map V.int)) ∧ Kp p H H', ?_, ?_⟩
      · repeat walk_at "y"
        rename_i q hq
        have hc1 : (upd H p (.lst [.ref c, .int (b + 1), .int l])) c = some (.lst (ns.map V.int)) := upd_oth ncp hc
        have kp2 : Kp p H (upd (upd H p (.lst [.ref c, .int (b + 1), .int l])) q (.lst [])) := Kp.set.trans (Kp.new hq)
        refine ⟨_, _, .lst (SqL.of (upd_old hq hc1)) (ints_dp ns), .lst (SqL.of upd_same) .nil, PySem.W.ke_shaped_ints ns, rfl, ?_⟩
        repeat walk_at "y"
        refine y_iteB (fun h1 => ?_) (fun h1 => ?_)
        · have hns : 0 < ns.length := by
            cases ns with
            | nil => exact absurd h1 (by decide)
            | cons a r => exact Nat.succ_pos _
          have hfm := fmod_pos (a := b) (m := (ns.length : Int)) (by omega)
          have hlt : (b.fmod (ns.length : Int)).toNat < ns.length := by omega
          have hp2 : (upd (upd H p (.lst [.ref c, .int (b + 1), .int l])) q (.lst [])) p = some (.lst [.ref c, .int (b + 1), .int l]) := upd_old hq upd_same
          have hc2 : (upd (upd H p (.lst [.ref c, .int (b + 1), .int l])) q (.lst [])) c = some (.lst (ns.map V.int)) := upd_old hq hc1
          repeat walk_at "y"
          refine y_I ?_ ?_
          · show ((ns.map V.int).length : Int) ≠ 0
            rw [List.length_map]; omega
          refine y_ixL (v := V.int (ns[(b.fmod (ns.length : Int)).toNat]'hlt)) hc2 (ix_lt (j := (b.fmod (ns.length : Int)).toNat) ?_ ?_) ?_
          · rw [List.getElem?_map, List.getElem?_eq_getElem hlt]; rfl
          · rw [List.length_map]; omega
          · exact ⟨_, rfl, hp2, hc2, kp2⟩
        · exact ⟨_, rfl, upd_old hq upd_same, upd_old hq hc1, kp2⟩
      · rintro σ' H1 ⟨z, rfl, hp1, hc1, kp1⟩
        have fin : ∀ (r : Int) (H' : Hp) (l' : Int), 0 ≤ r → r < m → 0 ≤ l' → H' p = some (.lst [.ref c, .int (b + 1), .int l']) → H' c = some (.lst (ns.map V.int)) → Kp p H H' → Q (.int r) H' := fun r H' l' h1 h2 h3 h4 h5 h6 =>
          k r H' h1 h2 ⟨ns, b + 1, l', h4, h5, by omega, by omega, h3⟩ h6
        have gre : ∀ z : Int, 10 ^ Int.toNat 18 ≤ (if z < 0 then -z else z) → 0 ≤ 2 * ((if z < 0 then -z else z) - 10 ^ Int.toNat 18) + (if decide (z < 0) = true then 1 else 0) := fun z h => by
          have : (0 : Int) ≤ (if decide (z < 0) = true then 1 else 0) := by split <;> decide
          omega
        repeat walk_at "y"
        · exact fin _ _ _ (fmod_pos hm0).1 (fmod_pos hm0).2 (ediv_nn hm0 (gre z ‹_›)) upd_same (upd_oth ncp hc1) (kp1.trans Kp.set)
        all_goals
          have q1 := fmod_pos (a := z) (m := 2147483549) (by decide)
          repeat walk_at "y"
          have q2 := fmod_pos (a := (z.fmod 2147483549 + 53068 * b + 432) ^ Int.toNat 5) (m := 2147483629) (by decide)
          generalize Int.fmod ((z.fmod 2147483549 + 53068 * b + 432) ^ _) 2147483629 = mx at *
          have q3 := mul_bd (x := mx) (y := 2 * b + 125) (A := 2147483648) (B := 2010000) q2.1 (by omega) (by omega) (by omega)
          have q4 := mul_bd (x := 62164 * b) (y := b) (A := 100000000000) (B := 1000001) (by omega) (by omega) (by omega) (by omega)
          repeat walk_at "y"
          exact fin _ _ _ (fmod_pos hm0).1 (fmod_pos hm0).2 hl0 hp1 hc1 kp1
def spPen (K : PySem.W.Frag) : Sp := fun vs H Q _ => ∃ (a : Addr) (ns : List Int), vs = [.ref a] ∧ SqL K H a (ns.map V.int) ∧ ns.length ≤ 63 ∧ ∀ p c H', Same H H' → H p = none → H c = none → PenAt H' p c 0 → Q (.ref p) H'
abbrev s_pen : Stmt := topS 41
theorem sc_pen : FnScope ["_law_script"] ["_law_script"] (defScope s_pen) := ⟨rfl, rfl, rfl, by decide +kernel, rfl, by decide +kernel, by decide +kernel⟩
theorem ok_pen {f : Addr} {fd : FuncData} (F : FnP K "_law_pen" s_pen f fd) (T : TopP K mg) : FnOk P w K mg base (L2.CX P w) 1 f fd ["_law_script"] (spPen K) := by
  have nd := sc_pen.nd
  refine F.ok sc_pen (fun vs H Q E h => ?_) (fun cdv A outer s H vs Q E hr h => ?_)
  · obtain ⟨a, ns, rfl, _⟩ := h
    rfl
  · obtain ⟨a, ns, rfl, hS, hl, k⟩ := h
    refine ⟨_, PSs.nox (pss_one (ps_ret (pe_lst (pa_cons (pe_callTy c_list (by rfl) T.n_list (by decide +kernel) (pa_cons (pe_slice sl_list (pv 0) po_none (po_some pe_int)) pa_nil)) (pa_cons pe_int (pa_cons pe_int pa_nil)))))), ?_⟩
    repeat walk_at "y"
    refine ⟨a, _, rfl, hS, fun q hq => ?_⟩
    repeat walk_at "y"
    refine ⟨q, _, rfl, .inl (SqL.of upd_same), fun c hc => ?_⟩
    repeat walk_at "y"
    rename_i p hp
    refine k p c _ (fun b o e => upd_old hp (upd_old hc (upd_old hq e))) (free_upd (free_upd hp)) (free_upd hc) ⟨(ns.take 63), 0, 0, upd_same, upd_old hp ?_, by decide, by decide, by decide⟩
    rw [upd_same]
    have e : cutV (ns.map V.int) none (some 63) = (ns.take 63).map V.int := by
      unfold cutV
      have h1 : HT.sIx (ns.map V.int).length 0 none = 0 := rfl
      have h2 : HT.sIx (ns.map V.int).length (ns.map V.int).length (some 63) = min 63 (ns.map V.int).length := HT.sIx_nat _ _ 63
      rw [h1, h2, List.drop_zero, List.map_take, Nat.sub_zero]
      rw [← List.take_take, List.take_length]
    rw [e]
def spPick : Sp := fun vs H Q _ => ∃ (p c : Addr) (n : Nat) (v : V), vs = [.ref p, v] ∧ PenAt H p c n ∧ n ≤ 1000000 ∧
  ((∃ (l : Addr) (xs : List V), v = .ref l ∧ l ≠ p ∧ H l = some (.lst xs) ∧ 0 < xs.length ∧ xs.length ≤ 1000 ∧ ∀ (i : Nat) x H', xs[i]? = some x → PenAt H' p c (n + 1) → Kp p H H' → Q x H') ∨
   ∃ z : Str, v = .str z ∧ 0 < z.length ∧ z.length ≤ 1000 ∧ ∀ (i : Nat) j H', z.cps.toList[i]? = some j → PenAt H' p c (n + 1) → Kp p H H' → Q (.str ⟨#[j]⟩) H')
abbrev s_pick : Stmt := topS 43
theorem sc_pick : FnScope ["_law_pen_here", "_law_some"] ["_law_pen_here", "_law_some"] (defScope s_pick) := ⟨rfl, rfl, rfl, by decide +kernel, rfl, by decide +kernel, by decide +kernel⟩
theorem ok_pick {f : Addr} {fd : FuncData} (F : FnP K "_law_pick" s_pick f fd) (T : TopP K mg) (F_law_draw : Fnc P w K mg base 1 "_law_draw" ["_law_pen_here", "_law_many"] spDraw) : FnOk P w K mg base (L2.CX P w) 2 f fd ["_law_pen_here", "_law_some"] spPick := by
  have nd := sc_pick.nd
  refine F.ok sc_pick (fun vs H Q E h => ?_) (fun cdv A outer s H vs Q E hr h => ?_)
  · obtain ⟨p, c, n, v, rfl, _⟩ := h
    rfl
  · obtain ⟨p, c, n, v, rfl, hP, hn, h⟩ := h
    refine ⟨_, PSs.nox (pss_one (ps_ret (pe_ix ix_seq (pv 1) (oc F_law_draw (hr.mono (by decide)) (pa_cons (pv 0) (pa_cons (pe_callB call_len (by rfl) T.n_len (by decide +kernel) (pa_cons (pv 1) pa_nil)) pa_nil))) (fun _ _ => rfl)))), ?_⟩
    rcases h with ⟨l, xs, rfl, nl, hl, h0, h1, k⟩ | ⟨z, rfl, h0, h1, k⟩
    · repeat walk_at "y"
      refine ⟨_, _, rfl, .inl ⟨xs, SqL.of hl, rfl⟩, ?_⟩
      repeat walk_at "y"
      refine ⟨p, c, n, _, rfl, hP, hn, by omega, ?_, fun r H1 r0 r1 P1 k1 => ?_⟩
      · exact Nat.lt_of_le_of_lt (show _ ≤ 1000 by omega) (by decide)
      · have hlt : r.toNat < xs.length := by omega
        exact .inl ⟨l, xs, r, xs[r.toNat]'hlt, rfl, rfl, SqL.of (k1 _ _ nl hl), ix_lt (j := r.toNat) (List.getElem?_eq_getElem hlt) (by omega), k r.toNat _ H1 (List.getElem?_eq_getElem hlt) P1 k1⟩
    · have hsz : z.length ≤ sizeLine := by rw [sizeLine_eq]; omega
      repeat walk_at "y"
      refine ⟨_, _, rfl, ⟨hsz, rfl⟩, ?_⟩
      repeat walk_at "y"
      refine ⟨p, c, n, _, rfl, hP, hn, by omega, ?_, fun r H1 r0 r1 P1 k1 => ?_⟩
      · exact Nat.lt_of_le_of_lt (show _ ≤ 1000 by omega) (by decide)
      · have hlen : z.cps.toList.length = z.length := by simp [Str.length]
        have hlt : r.toNat < z.cps.toList.length := by omega
        exact .inr (.inr ⟨z, r, z.cps.toList[r.toNat]'hlt, rfl, rfl, hsz, ix_ltN (j := r.toNat) (List.getElem?_eq_getElem hlt) (by omega), k r.toNat _ H1 (List.getElem?_eq_getElem hlt) P1 k1⟩)
end
end LW
set_option maxRecDepth 100000
set_option maxHeartbeats 0
namespace LW
open PySem PySem.Spec PyProof.Rows L2 OZ
def d_is_int : He5.DefA := defT "is_int" (topS 12)
def d_shared_by : He5.DefA := defT "shared_by" (topS 16)
def d_halves : He5.DefA := defT "halves" (topS 23)
def d_is_name : He5.DefA := defT "is_name" (topS 13)
def d_figures_of : He5.DefA := defT "figures_of" (topS 18)
def d_integer_text : He5.DefA := defT "integer_text" (topS 19)
def d_need_parts : He5.DefA := defT "need_parts" (topS 31)
def d_need_doubt : He5.DefA := defT "need_doubt" (topS 32)
def d_pen : He5.DefA := defT "_law_pen" (topS 41)
def d_draw : He5.DefA := defT "_law_draw" (topS 42)
def d_pick : He5.DefA := defT "_law_pick" (topS 43)
def d_number : He5.DefA := defT "_law_number" (topS 44)
def d_passed : He5.DefA := defT "_law_passed" (topS 45)
def d_plain : He5.DefA := defT "_law_plain" (topS 46)
def d_made : He5.DefA := defT "_law_made" (topS 47)
def d_is : He5.DefA := defT "_law_is" (topS 48)
def d_turned : He5.DefA := defT "_law_turned" (topS 49)
def d_refused : He5.DefA := defT "_law_refused" (topS 50)
def d_changed_right : He5.DefA := defT "_law_changed_right" (topS 51)
def d_wrong_right : He5.DefA := defT "_law_wrong_right" (topS 52)
def d_equal_right : He5.DefA := defT "_law_equal_right" (topS 53)
def d_law : He5.DefA := defT "law" (topS 54)
def d_BadAmount___init__ : He5.DefA := defM "BadAmount" "__init__" "BadAmount.__init__" (inClass (topS 5) 0) []
def d_Amount___init__ : He5.DefA := defM "Amount" "__init__" "Amount.__init__" (inClass (topS 24) 0) [(.int 1)]
def d_Amount_is_number : He5.DefA := defW "staticmethod" "Amount" "is_number" "Amount.is_number" (inClass (topS 24) 1) []
def d_Amount_of : He5.DefA := defW "staticmethod" "Amount" "of" "Amount.of" (inClass (topS 24) 2) []
def d_Amount___add__ : He5.DefA := defM "Amount" "__add__" "Amount.__add__" (inClass (topS 24) 7) []
def d_Amount___radd__ : He5.DefA := defM "Amount" "__radd__" "Amount.__radd__" (inClass (topS 24) 8) []
def d_Amount___sub__ : He5.DefA := defM "Amount" "__sub__" "Amount.__sub__" (inClass (topS 24) 9) []
def d_Amount___rsub__ : He5.DefA := defM "Amount" "__rsub__" "Amount.__rsub__" (inClass (topS 24) 10) []
def d_Amount___mul__ : He5.DefA := defM "Amount" "__mul__" "Amount.__mul__" (inClass (topS 24) 11) []
def d_Amount___rmul__ : He5.DefA := defM "Amount" "__rmul__" "Amount.__rmul__" (inClass (topS 24) 12) []
def d_Amount___floordiv__ : He5.DefA := defM "Amount" "__floordiv__" "Amount.__floordiv__" (inClass (topS 24) 13) []
def d_Amount___rfloordiv__ : He5.DefA := defM "Amount" "__rfloordiv__" "Amount.__rfloordiv__" (inClass (topS 24) 14) []
def d_Amount___mod__ : He5.DefA := defM "Amount" "__mod__" "Amount.__mod__" (inClass (topS 24) 15) []
def d_Amount___rmod__ : He5.DefA := defM "Amount" "__rmod__" "Amount.__rmod__" (inClass (topS 24) 16) []
def d_Amount___neg__ : He5.DefA := defM "Amount" "__neg__" "Amount.__neg__" (inClass (topS 24) 17) []
def d_Amount___abs__ : He5.DefA := defM "Amount" "__abs__" "Amount.__abs__" (inClass (topS 24) 18) []
def d_Amount___bool__ : He5.DefA := defM "Amount" "__bool__" "Amount.__bool__" (inClass (topS 24) 19) []
def d_Amount___lt__ : He5.DefA := defM "Amount" "__lt__" "Amount.__lt__" (inClass (topS 24) 20) []
def d_Amount___le__ : He5.DefA := defM "Amount" "__le__" "Amount.__le__" (inClass (topS 24) 21) []
def d_Amount___gt__ : He5.DefA := defM "Amount" "__gt__" "Amount.__gt__" (inClass (topS 24) 22) []
def d_Amount___ge__ : He5.DefA := defM "Amount" "__ge__" "Amount.__ge__" (inClass (topS 24) 23) []
def d_Amount___eq__ : He5.DefA := defM "Amount" "__eq__" "Amount.__eq__" (inClass (topS 24) 24) []
def d_Amount___str__ : He5.DefA := defM "Amount" "__str__" "Amount.__str__" (inClass (topS 24) 25) []
def d_BadTool___init__ : He5.DefA := defM "BadTool" "__init__" "BadTool.__init__" (inClass (topS 6) 0) []
def d_Tool___init__ : He5.DefA := defM "Tool" "__init__" "Tool.__init__" (inClass (topS 33) 2) []
def d_Tool_with_sense : He5.DefA := defM "Tool" "with_sense" "Tool.with_sense" (inClass (topS 33) 7) []
def d_Tool_renamed : He5.DefA := defM "Tool" "renamed" "Tool.renamed" (inClass (topS 33) 8) []
def d_Tool___neg__ : He5.DefA := defM "Tool" "__neg__" "Tool.__neg__" (inClass (topS 33) 9) []
def d_Tool___eq__ : He5.DefA := defM "Tool" "__eq__" "Tool.__eq__" (inClass (topS 33) 10) []
def d_Tool___str__ : He5.DefA := defM "Tool" "__str__" "Tool.__str__" (inClass (topS 33) 11) []
def d_Scale_made_as : He5.DefA := defM "Scale" "made_as" "Scale.made_as" (inClass (topS 34) 5) []
def d_Scale_told_words : He5.DefA := defM "Scale" "told_words" "Scale.told_words" (inClass (topS 34) 6) []
def d_Scale_with_doubt : He5.DefA := defM "Scale" "with_doubt" "Scale.with_doubt" (inClass (topS 34) 7) []
def d_Ranker_made_as : He5.DefA := defM "Ranker" "made_as" "Ranker.made_as" (inClass (topS 35) 5) []
def d_Ranker_told_words : He5.DefA := defM "Ranker" "told_words" "Ranker.told_words" (inClass (topS 35) 6) []
def d_Scale___init__ : DefS := ⟨"Scale", "__init__", "Scale.__init__", inClass (topS 34) 1, [(.str "rising"), (.int 0)]⟩
def d_Ranker___init__ : DefS := ⟨"Ranker", "__init__", "Ranker.__init__", inClass (topS 35) 1, [(.str "rising")]⟩
def fn : List He5.DefA := [d_is_int, d_shared_by, d_halves, d_is_name, d_figures_of, d_integer_text, d_need_parts, d_need_doubt, d_pen, d_draw, d_pick, d_number, d_passed, d_plain, d_made, d_is, d_turned, d_refused, d_changed_right, d_wrong_right, d_equal_right, d_law, d_BadAmount___init__, d_Amount___init__, d_Amount_is_number, d_Amount_of, d_Amount___add__, d_Amount___radd__, d_Amount___sub__, d_Amount___rsub__, d_Amount___mul__, d_Amount___rmul__, d_Amount___floordiv__, d_Amount___rfloordiv__, d_Amount___mod__, d_Amount___rmod__, d_Amount___neg__, d_Amount___abs__, d_Amount___bool__, d_Amount___lt__, d_Amount___le__, d_Amount___gt__, d_Amount___ge__, d_Amount___eq__, d_Amount___str__, d_BadTool___init__, d_Tool___init__, d_Tool_with_sense, d_Tool_renamed, d_Tool___neg__, d_Tool___eq__, d_Tool___str__, d_Scale_made_as, d_Scale_told_words, d_Scale_with_doubt, d_Ranker_made_as, d_Ranker_told_words]
def fs : List DefS := [d_Scale___init__, d_Ranker___init__]
def glos : List Str := [("OwnError" : Str), ("BadInput" : Str), ("NoAnswer" : Str), ("BadAmount" : Str), ("BadTool" : Str), ("BadText" : Str), ("NoDivisor" : Str), ("Amount" : Str), ("Tool" : Str), ("Scale" : Str), ("Ranker" : Str), ("_wall" : Str), ("is_int" : Str), ("is_name" : Str), ("shared_by" : Str), ("number_of" : Str), ("figures_of" : Str), ("integer_text" : Str), ("plain_number" : Str), ("signed_number" : Str), ("amount_told" : Str), ("halves" : Str), ("need_parts" : Str), ("need_doubt" : Str), ("doubt_in" : Str), ("tool_at" : Str), ("need_end" : Str), ("tool_in" : Str), ("_law_pen" : Str), ("_law_draw" : Str), ("_law_pick" : Str), ("_law_number" : Str), ("_law_passed" : Str), ("_law_plain" : Str), ("_law_made" : Str), ("_law_is" : Str), ("_law_turned" : Str), ("_law_refused" : Str), ("_law_changed_right" : Str), ("_law_wrong_right" : Str), ("_law_equal_right" : Str), ("law" : Str)]
def frees : List Str := [("len" : Str), ("int" : Str), ("abs" : Str), ("list" : Str), ("isinstance" : Str), ("bool" : Str), ("repr" : Str), ("range" : Str), ("enumerate" : Str), ("str" : Str), ("tuple" : Str), ("all" : Str), ("super" : Str), ("sorted" : Str), ("set" : Str), ("dict" : Str), ("zip" : Str), ("sum" : Str), ("any" : Str)]
def tfs : List He.Defn := [("_law_wrong_right", none)]
def exB (K : PySem.W.Frag) : Bool := ((glos.all fun x => (He.Fa.glo x).ok K)) && (((frees.all fun x => (He.Fa.free x).ok K)) && ((amB K (He.ga K "Amount")) && ((xcB K (He.ga K "BadAmount")) && ((xcB K (He.ga K "NoDivisor")) && ((decide (PySem.W.findIn K (.ref (He.ga K "BadAmount")) "value" = some none)) && (((decide (PySem.W.findIn K (.ref (He.ga K "BadAmount")) "__init__" = some (some (.ref (He.ma K (He.ga K "BadAmount") "__init__")))) && decide (PySem.W.typeIn K (.ref (He.ma K (He.ga K "BadAmount") "__init__")) = some (.type "function")))) && ((PySem.W.excIn K (He.ga K "NoDivisor") [.type "ValueError", .type "Exception", .type "BaseException", .type "object"] "ValueError.__new__") && (((K.lookup sysModules).isSome) && ((toolB K) && ((xcB K (He.ga K "BadTool")) && ((decide (PySem.W.findIn K (.ref (He.ga K "BadTool")) "part" = some none)) && (((decide (PySem.W.findIn K (.ref (He.ga K "BadTool")) "__init__" = some (some (.ref (He.ma K (He.ga K "BadTool") "__init__")))) && decide (PySem.W.typeIn K (.ref (He.ma K (He.ga K "BadTool") "__init__")) = some (.type "function")))) && ((He.tupB K "SENSES" (SEN.map He.Dv.str)) && (((He.Fa.glo "SENSES").ok K) && (((He.Fa.glo "OTHER_SENSES").ok K) && (((He.Fa.str "LETTERS" LET).ok K) && (((He.Fa.int "LONGEST" 8).ok K) && ((decide (PySem.W.nsIn K cStatics "thirdparty.any" = some none)) && ((mkB K (He.ga K "Scale")) && ((mkB K (He.ga K "Ranker")) && (((([(He.ga K "Scale"), (He.ga K "Ranker")] : List Addr).all fun C => (["with_sense", "renamed", "__neg__", "__eq__", "__str__"] : List Str).all fun m => mthB K C (He.ga K "Tool") m)) && ((((["made_as", "told_words", "with_doubt"] : List Str).all (fun m => mthB K (He.ga K "Scale") (He.ga K "Scale") m) && (["made_as", "told_words"] : List Str).all (fun m => mthB K (He.ga K "Ranker") (He.ga K "Ranker") m))) && ((neB K (He.ga K "Scale")) && ((neB K (He.ga K "Ranker")) && ((nfB K (He.ga K "Scale") [(He.ga K "Scale"), (He.ga K "Ranker"), (He.ga K "Amount")]) && ((nfB K (He.ga K "Ranker") [(He.ga K "Scale"), (He.ga K "Ranker"), (He.ga K "Amount")]) && (((([("rising", "falling"), ("falling", "rising"), ("unsure", "unsure")] : List (Str × Str)).all fun p => dItB K "OTHER_SENSES" p.1 p.2)) && ((decide (PySem.W.exmOne K (.ref (He.ga K "BadTool")) (.ref (He.ga K "OwnError")) = some true)) && (kitB K (.ref (He.ga K "BadTool")) (.ref (He.ga K "BadTool")) true)))))))))))))))))))))))))))))
def dics : List (Str × List Str) := [("OTHER_SENSES", [("rising" : Str), ("falling" : Str), ("unsure" : Str)])]
abbrev R : PySem.W.OpenRow := PySem.W.OpenLaw.row PySem.Challenge.rw_ownzeros_k12_tools_turned_and_renamed
abbrev fil : Str := (PySem.Challenge.rw_ownzeros_k12_tools_turned_and_renamed).prog.main.file
abbrev hk : PySem.W.Hook := hookT fil 5 fn fs dics tfs exB
def ob (s : PySem.W.SharedT) : AlT := obsT fil 5 fn fs dics tfs exB (HandSHeadRun.getT s)
theorem ob_eq (s : PySem.W.SharedT) : ob s = hk.obs s.abs := obsT_eq (HandSHeadRun.getT_eq s)
def names : List Str := [("_wall" : Str), ("OwnError" : Str), ("BadInput" : Str), ("NoAnswer" : Str), ("BadAmount" : Str), ("BadTool" : Str), ("BadText" : Str), ("NoDivisor" : Str), ("LETTERS" : Str), ("LONGEST" : Str), ("is_int" : Str), ("is_name" : Str), ("FIGURES" : Str), ("shared_by" : Str), ("number_of" : Str), ("figures_of" : Str), ("integer_text" : Str), ("plain_number" : Str), ("signed_number" : Str), ("amount_told" : Str), ("halves" : Str), ("Amount" : Str), ("SENSES" : Str), ("OTHER_SENSES" : Str), ("SCALE_WORDS" : Str), ("RANKER_WORDS" : Str), ("NAME_WORDS" : Str), ("need_parts" : Str), ("need_doubt" : Str), ("Tool" : Str), ("Scale" : Str), ("Ranker" : Str), ("doubt_in" : Str), ("tool_at" : Str), ("need_end" : Str), ("tool_in" : Str), ("_law_pen" : Str), ("_law_draw" : Str), ("_law_pick" : Str), ("_law_number" : Str), ("_law_passed" : Str), ("_law_plain" : Str), ("_law_made" : Str), ("_law_is" : Str), ("_law_turned" : Str), ("_law_refused" : Str), ("_law_changed_right" : Str), ("_law_wrong_right" : Str), ("_law_equal_right" : Str)]
abbrev RunP (w : World) : Prop := HandSHeadRun.RunEq R (PySem.W.view R.prog [54]) hk ob 40000 names w
theorem runF (w : World) : RunP (w.withFollow "special-get-raises" false) := by
  intro os
  kernel_rfl
theorem runT (w : World) : RunP (w.withFollow "special-get-raises" true) := by
  intro os
  kernel_rfl
theorem run (w : World) : RunP w := PySem.W.byRow2 "special-get-raises" (P := RunP) runF runT w
end LW
set_option maxRecDepth 100000
set_option maxHeartbeats 1000000
namespace OZ
open PySem PySem.Spec PyProof.Rows L2 LamX
def MthP (P : Program) (w : World) (K : PySem.W.Frag) (mg : Str → Option Value) (base : Heap) (k : Nat) (PC : Addr → Prop) (m : Str) (ps : List Str) (sp : Addr → Sp) : Prop := ∀ C, PC C → Mth P w K mg base k C m ps (sp C)
def MtdP (P : Program) (w : World) (K : PySem.W.Frag) (mg : Str → Option Value) (base : Heap) (k : Nat) (PC : Addr → Prop) (m : Str) (ps : List Str) (sp : Addr → Sp) : Prop := ∀ C, PC C → Mtd P w K mg base k C m ps (sp C)
def MtdKP (P : Program) (w : World) (K : PySem.W.Frag) (mg : Str → Option Value) (base : Heap) (k : Nat) (PC : Addr → Prop) (m : Str) (ps ks : List Str) (gV : List V → List V → List V) (sp : Addr → Sp) : Prop := ∀ C, PC C → MtdK P w K mg base k C m ps ks gV (sp C)
def rStrP (PC : Addr → Prop) (sp : Addr → Sp) (E : XK) : List V → Hp → VK → Prop := fun xs H Q => ∃ a C dx fs, xs = [.ref a] ∧ H a = some (.ins C dx fs) ∧ PC C ∧ sp C [.ref a] H (fun z H' => ∃ y : Str, z = .str y ∧ Q (.str y) H') E
def rCmpP (K : PySem.W.Frag) (PC : Addr → Prop) (sp : Addr → Sp) (E : XK) : R2 := fun x y H Q => ∃ C, PC C ∧ rCmp K C (sp C) E x y H Q
def rNeP (K : PySem.W.Frag) (PC : Addr → Prop) (sp : Addr → Sp) (E : XK) : R2 := fun x y H Q => ∃ C, PC C ∧ rNeOwn K C (sp C) E x y H Q
def rUnP (PC : Addr → Prop) (sp : Addr → Sp) (E : XK) : V → Hp → VK → Prop := fun x H Q => ∃ C, PC C ∧ rUn C (sp C) E x H Q
def tMethP (PC : Addr → Prop) (m : Str) (sp : Addr → Sp) (E : XK) (ta : TE) (t : TA) : TE := fun σ H Q => ta σ H fun x H1 => ∃ a C dx fs, x = .ref a ∧ H1 a = some (.ins C dx fs) ∧ PC C ∧ fs.lookup m = none ∧ t σ H1 fun vs H2 => sp C (x :: vs) H2 Q E
def tMethKP (PC : Addr → Prop) (m : Str) (n : Nat) (sp : Addr → Sp) (gV : List V → List V → List V) (E : XK) (ta : TE) (t : TA) : TE := fun σ H Q => ta σ H fun x H1 => ∃ a C dx fs, x = .ref a ∧ H1 a = some (.ins C dx fs) ∧ PC C ∧ fs.lookup m = none ∧ t σ H1 fun zs H2 => zs.length = n ∧ sp C (gV [x] zs) H2 Q E
section
variable {X : Cx} {k : Nat} {PC : Addr → Prop} {m : Str} {ps ks : List Str} {gV : List V → List V → List V} {sp : Addr → Sp} {E : XK} {o e : Expr} {es : List Expr} {kws : List Keyword} {ta : TE} {t : TA} {apos pos : Pos} {pl : Sem Bool}
theorem c_strP (M : MthP X.prog X.w X.K X.mg X.base k PC "__str__" ps sp) (hr : Room (k + 2) X.A) (hx : Passes (L2.CX X.prog X.w) X E) : CallR X (.type "str") (rStrP PC sp E) := by
  intro pins s σ H xs us Q I r h
  obtain ⟨a, C, dx, fs, rfl, ha, pc, q⟩ := h
  obtain ⟨u, rfl, ru⟩ := vals1 r
  cases (show u = Value.ref a from ru)
  obtain ⟨f, fd, h1, h2, hb, F⟩ := M C pc
  obtain ⟨⟨od, J⟩, hg⟩ := inst_of I ha
  have hr2 : Room k X.A.in1.in1 := (show Room (k + 1) X.A.in1 from Room.in1 hr).in1
  apply PySem.W.kso_call hr2.units0 I.kIn J h1 h2
  apply wpAny_mono (run_own (A := X.A.in1.in1) F hr2 I.env0.in1.in1 hb hx I (vs := [.ref a]) (us := [.ref a]) (.cons rfl .nil) q) ?_ fun _ _ e => e
  rintro v s' ⟨z', H', I', rz, y, rfl, qz⟩
  obtain ⟨tk, rfl⟩ := (show ∃ t, v = Value.str y t from rz)
  exact ⟨.str y, H', I', ⟨tk, rfl⟩, qz⟩
theorem o_eqP (M : MthP X.prog X.w X.K X.mg X.base k PC "__eq__" ps sp) (hr : Room k X.A) (hx : Passes (L2.CX X.prog X.w) X E) : OpR X (compareOp .Eq) (rCmpP X.K PC sp E) := by
  intro pins s σ H x y v u Q I rx ry h
  obtain ⟨C, pc, h⟩ := h
  exact o_cmp (op := .Eq) (fun _ _ => rfl) (M C pc) hr hx pins s σ H x y v u Q I rx ry h
theorem o_neP (oc : ∀ C, PC C → OC X.K C ∧ PySem.W.findIn X.K (.ref C) "__ne__" = some (some (.builtin "object.__ne__"))) (M : MthP X.prog X.w X.K X.mg X.base k PC "__eq__" ps sp) (hr : Room (k + 1) X.A) (hx : Passes (L2.CX X.prog X.w) X E) : OpR X (compareOp .NotEq) (rNeP X.K PC sp E) := by
  intro pins s σ H x y v u Q I rx ry h
  obtain ⟨C, pc, h⟩ := h
  exact o_neOwn (oc C pc).1 (oc C pc).2 (M C pc) hr hx pins s σ H x y v u Q I rx ry h
theorem o_negP (M : MthP X.prog X.w X.K X.mg X.base k PC "__neg__" ps sp) (hr : Room k X.A) (hx : Passes (L2.CX X.prog X.w) X E) : UnR X (unaryOp .USub) (rUnP PC sp E) := by
  intro pins s σ H x v Q I rx h
  obtain ⟨C, pc, h⟩ := h
  exact o_neg (M C pc) hr hx pins s σ H x v Q I rx h
theorem omP0 (M : MtdP X.prog X.w X.K X.mg X.base k PC m ps sp) (hr : Room k X.A) (hx : Passes (L2.CX X.prog X.w) X E) (he : PE X o ta)
    (ht : eval (.Call (.Attribute o m apos) [] [] pos) X.env = (do
      let ov ← eval o X.env
      standAt apos.atName
      let (f, first) ← holding [ov] (getMethod ov m pl)
      callWith pos f first (backTo pos (starEach [] X.env)) (backToKw pos (keywordEach [] X.env))) := by rfl) : PE X (.Call (.Attribute o m apos) [] [] pos) (tMethP PC m sp E ta tNil) := by
  refine ⟨fun pins s σ H Q I h => ?_⟩
  refine PySem.W.methodCall_KW (pl := pl) (thn (he.run pins s σ H _ I h) fun u s1 ⟨x, H1, I1, rx, a, C, dx, fs, ex, ea, pc, l, q⟩ => ?_) ht
  subst ex
  obtain rfl : u = Value.ref a := rx
  obtain ⟨c, f, fd, hm, hb, F⟩ := M C pc
  refine getmeth_ok I1 ea c hm l ?_
  exact PySem.W.callWith_K0 (first := [.ref a]) I1.kIn hm.kp (run_fn (us := [.ref a]) (vs := [.ref a]) F hr hb .nil hx I1 (.cons rfl .nil) q)
theorem omP (M : MtdP X.prog X.w X.K X.mg X.base k PC m ps sp) (hr : Room k X.A) (hx : Passes (L2.CX X.prog X.w) X E) (he : PE X o ta) (ha : PA X (e :: es) t)
    (hst : starEach (e :: es) X.env = (false, eval e X.env) :: starEach es X.env := by rfl) (hpl : (backTo pos (starEach es X.env)).any (·.1) = false := by rfl)
    (ht : eval (.Call (.Attribute o m apos) (e :: es) [] pos) X.env = (do
      let ov ← eval o X.env
      standAt apos.atName
      let (f, first) ← holding [ov] (getMethod ov m pl)
      callWith pos f first (backTo pos (starEach (e :: es) X.env)) (backToKw pos (keywordEach [] X.env))) := by rfl) : PE X (.Call (.Attribute o m apos) (e :: es) [] pos) (tMethP PC m sp E ta t) := by
  refine ⟨fun pins s σ H Q I h => ?_⟩
  refine PySem.W.methodCall_KW (pl := pl) (thn (he.run pins s σ H _ I h) fun u s1 ⟨x, H1, I1, rx, a, C, dx, fs, ex, ea, pc, l, q⟩ => ?_) ht
  subst ex
  obtain rfl : u = Value.ref a := rx
  obtain ⟨c, f, fd, hm, hb, F⟩ := M C pc
  refine getmeth_ok I1 ea c hm l ?_
  refine PySem.W.callWith_K (h₀ := X.base) (first := [.ref a]) I1.ok.mod.kin hm.kp (thn (ha.run pos pins s1 σ H1 _ I1 q) fun us s2 ⟨vs, H2, I2, r2, q2⟩ => ?_) hst hpl
  exact ⟨I2.kIn, run_fn (us := .ref a :: us) (vs := .ref a :: vs) F hr hb .nil hx I2 (.cons rfl r2) (by simpa using q2)⟩
theorem omKP (M : MtdKP X.prog X.w X.K X.mg X.base k PC m ps ks gV sp) (hr : Room k X.A) (hx : Passes (L2.CX X.prog X.w) X E) (he : PE X o ta) (hkw : PK X kws t)
    (hall : (backToKw pos (keywordEach kws X.env)).all (·.1.isSome) = true := by rfl) (hks : (backToKw pos (keywordEach kws X.env)).filterMap (·.1) = ks := by rfl)
    (hpl : ((backTo pos (starEach [] X.env)).any (·.1) || (backToKw pos (keywordEach kws X.env)).any (·.1.isNone)) = false := by rfl)
    (ht : eval (.Call (.Attribute o m apos) [] kws pos) X.env = (do
      let ov ← eval o X.env
      standAt apos.atName
      let (f, first) ← holding [ov] (getMethod ov m pl)
      callWith pos f first (backTo pos (starEach [] X.env)) (backToKw pos (keywordEach kws X.env))) := by rfl) : PE X (.Call (.Attribute o m apos) [] kws pos) (tMethKP PC m ks.length sp gV E ta t) := by
  constructor
  intro pins s σ H Q I h
  refine PySem.W.methodCall_KW (pl := pl) (thn (he.run pins s σ H _ I h) ?_) ht
  rintro u s1 ⟨x, H1, I1, rx, a, C, dx, fs, ex, ea, pc, l, q⟩
  subst ex
  obtain ⟨c, f, fd, gU, hm, hb, G⟩ := M C pc
  cases (show u = Value.ref a from rx)
  apply getmeth_ok I1 ea c hm l
  apply PySem.W.callWith_KW0 (h₀ := X.base) (first := [.ref a]) I1.ok.mod.kin hm.kp hall ?_ hpl
  apply thn (hkw.run pos pins s1 σ H1 _ I1 q)
  rintro ws s3 ⟨zs, H2, I3, rz, l2, q2⟩
  refine ⟨I3.kIn, ?_⟩
  rw [hks]
  show wpAny (model X.prog X.w) X.A (call (.ref f) [.ref a] (ks.zip ws)) _ _ _
  apply wpAny_call
  apply codeAny_mono (G.run X.A X.stack s3 H2 ⟨[.ref a], ks.zip ws⟩ _ _ Q E hr I3.env0 (hb.to s3 [.ref a] ws I3.kIn rfl (rz.length.symm.trans l2)) (hb.rel (vs := [.ref a]) (us := [.ref a]) (.cons rfl .nil) rz) q2)
  intro r s' z
  cases r with
  | error e => exact hx pins σ H2 s3 e s' I3 z
  | ok fl =>
    cases fl with
    | ret u => exact I3.after z
    | next => exact z.elim
    | brk => exact z.elim
    | cont => exact z.elim
def tFmtP (PC : Addr → Prop) (sp : Addr → Sp) (E : XK) (te : TE) : TE := fun σ H Q => te σ H fun x H1 => ∃ a C dx fs, x = .ref a ∧ H1 a = some (.ins C dx fs) ∧ PC C ∧ sp C [.ref a] H1 (fun z H' => ∃ y : Str, z = .str y ∧ Q (.str y) H') E
theorem pe_fmtP (oc : ∀ C, PC C → PySem.W.findIn X.K (.ref C) "__format__" = some (some (.builtin "object.__format__")) ∧ PySem.W.mroIn X.K C (.type "object") = some true) (M : MthP X.prog X.w X.K X.mg X.base k PC "__str__" ps sp) (hr : Room (k + 1) X.A) (hx : Passes (L2.CX X.prog X.w) X E) (he : PE X e ta) :
    PE X (.FormattedValue e (-1) none pos) (tFmtP PC sp E ta) := by
  refine ⟨fun pins s σ H Q I h => ?_⟩
  refine wpAny_FormattedValue_plain (thn (he.run pins s σ H _ I h) fun v s1 hv => ?_)
  obtain ⟨x, H1, I1, r1, a, C, dx, fs, rfl, ha, pc, q⟩ := hv
  cases (show v = Value.ref a from r1)
  obtain ⟨f, fd, h1, h2, hb, F⟩ := M C pc
  obtain ⟨⟨od, J⟩, hg⟩ := inst_of I1 ha
  have hr2 : Room k X.A.in1 := Room.in1 hr
  apply PySem.W.kfo_fieldS hr2.units0 I1.kIn J (oc C pc).1 (oc C pc).2 h1 h2
  apply wpAny_mono (run_own (A := X.A.in1) F hr2 (I1.tok _).env0.in1 hb hx (I1.tok _) (vs := [.ref a]) (us := [.ref a]) (.cons rfl .nil) q) ?_ fun _ _ e => e
  rintro v s' ⟨z', H', I', rz, y, rfl, qz⟩
  obtain ⟨tk, rfl⟩ := (show ∃ t, v = Value.str y t from rz)
  exact ⟨.str y, H', I', ⟨tk, rfl⟩, qz⟩
end
section
variable {σ : L2.St} {H : Hp} {Q : VK} {PC : Addr → Prop} {m : Str} {n : Nat} {sp : Addr → Sp} {gV : List V → List V → List V} {E : XK} {ta : TE} {t : TA}
theorem y_methP (h : ta σ H fun x H1 => ∃ a C dx fs, x = .ref a ∧ H1 a = some (.ins C dx fs) ∧ PC C ∧ fs.lookup m = none ∧ t σ H1 fun vs H2 => sp C (x :: vs) H2 Q E) : tMethP PC m sp E ta t σ H Q := h
theorem y_methKP (h : ta σ H fun x H1 => ∃ a C dx fs, x = .ref a ∧ H1 a = some (.ins C dx fs) ∧ PC C ∧ fs.lookup m = none ∧ t σ H1 fun zs H2 => zs.length = n ∧ sp C (gV [x] zs) H2 Q E) : tMethKP PC m n sp gV E ta t σ H Q := h
theorem y_fmtP (h : ta σ H fun x H1 => ∃ a C dx fs, x = .ref a ∧ H1 a = some (.ins C dx fs) ∧ PC C ∧ sp C [.ref a] H1 (fun z H' => ∃ y : Str, z = .str y ∧ Q (.str y) H') E) : tFmtP PC sp E ta σ H Q := h
theorem y_js {ts : List TE} {acc : Str} {R : Str → Hp → Prop} (h : ta σ H fun x H1 => ∃ y : Str, x = .str y ∧ (acc ++ y).length ≤ sizeLine ∧ tJs ts (acc ++ y) σ H1 R) : tJs (ta :: ts) acc σ H R := h
theorem y_js0 {acc : Str} {R : Str → Hp → Prop} (h : R acc H) : tJs [] acc σ H R := h
theorem y_fmt (h : ta σ H fun x H1 => (∃ y : Str, x = .str y ∧ y.length ≤ sizeLine ∧ Q (.str y) H1) ∨ ∃ i : Int, x = .int i ∧ i.natAbs.log2 < 1920 ∧ Q (.str (toString i)) H1) : tFmt ta σ H Q := h
end
end OZ
set_option maxRecDepth 100000
set_option maxHeartbeats 1000000
namespace OZ
open PySem PySem.Spec PyProof.Rows L2 PySem.NumText
def dec (n : Nat) : List Nat := (Nat.toDigits 10 n).map Char.toNat
def pd : Nat → Nat → List Nat
  | 0, _ => []
  | k + 1, r => pd k (r / 10) ++ [48 + r % 10]
theorem pd_len : ∀ k r, (pd k r).length = k
  | 0, _ => rfl
  | k + 1, r => by simp [pd, pd_len k]
theorem digit_toNat : ∀ d : Nat, d < 10 → (Nat.digitChar d).toNat = 48 + d := by decide
theorem dec_small {n : Nat} (h : n < 10) : dec n = [48 + n] := by
  unfold dec
  rw [Nat.toDigits_of_lt_base h]
  simp [digit_toNat n h]
theorem dec_step {n : Nat} (h : 10 ≤ n) : dec n = dec (n / 10) ++ [48 + n % 10] := by
  have hm : n % 10 < 10 := Nat.mod_lt _ (by decide)
  have t : Nat.toDigits 10 (n / 10) ++ Nat.toDigits 10 (n % 10) = Nat.toDigits 10 (10 * (n / 10) + n % 10) := Nat.toDigits_append_toDigits (by decide) (by omega) hm
  rw [Nat.div_add_mod] at t
  unfold dec
  rw [← t, List.map_append, Nat.toDigits_of_lt_base hm]
  simp [digit_toNat _ hm]
theorem dec_app : ∀ (k m r : Nat), 0 < m → r < 10 ^ k → dec (m * 10 ^ k + r) = dec m ++ pd k r
  | 0, m, r, _, hr => by
    have : r = 0 := by simpa using hr
    subst this
    simp [pd]
  | k + 1, m, r, hm, hr => by
    have hp : 0 < 10 ^ k := Nat.pow_pos (by decide)
    have e : m * 10 ^ (k + 1) + r = (m * 10 ^ k + r / 10) * 10 + r % 10 := by
      rw [Nat.pow_succ, ← Nat.mul_assoc, Nat.add_mul]
      omega
    have h1 : 1 ≤ m * 10 ^ k := Nat.mul_pos hm hp
    have d1 : ((m * 10 ^ k + r / 10) * 10 + r % 10) / 10 = m * 10 ^ k + r / 10 := by omega
    have d2 : ((m * 10 ^ k + r / 10) * 10 + r % 10) % 10 = r % 10 := by omega
    rw [e, dec_step (by omega), d1, d2, dec_app k m (r / 10) hm (by rw [Nat.pow_succ] at hr; omega), List.append_assoc]
    rfl
theorem pd_zero : ∀ k, pd k 0 = List.replicate k 48
  | 0 => rfl
  | k + 1 => by
    show pd k (0 / 10) ++ [48 + 0 % 10] = _
    rw [Nat.zero_div, pd_zero k, List.replicate_succ']
theorem dec_len {k n : Nat} (hk : 1 ≤ k) (h : n < 10 ^ k) : (dec n).length ≤ k := by
  unfold dec
  rw [List.length_map]
  exact toDigits_len_pow (by decide) hk h
theorem pd_pad : ∀ (k r : Nat), 1 ≤ k → r < 10 ^ k → pd k r = List.replicate (k - (dec r).length) 48 ++ dec r
  | 0, _, h, _ => by omega
  | k + 1, r, _, hr => by
    by_cases h : r < 10
    · rw [dec_small h]
      show pd k (r / 10) ++ [48 + r % 10] = _
      rw [Nat.div_eq_of_lt h, Nat.mod_eq_of_lt h, pd_zero]
      simp
    · have hk : 1 ≤ k := by
        cases k with
        | zero => simp at hr; omega
        | succ k => omega
      have h2 : r / 10 < 10 ^ k := by rw [Nat.pow_succ] at hr; omega
      rw [dec_step (by omega)]
      show pd k (r / 10) ++ [48 + r % 10] = _
      rw [pd_pad k (r / 10) hk h2, List.length_append, List.length_singleton, List.append_assoc, show k + 1 - ((dec (r / 10)).length + 1) = k - (dec (r / 10)).length by omega]
theorem dec_pos (n : Nat) : 0 < (dec n).length := by
  unfold dec
  rw [List.length_map]
  have := toDigits_len_ge 10 n
  omega
theorem dec_all (n : Nat) : AllDigits (dec n) := by
  intro c hc
  obtain ⟨ch, hch, e⟩ := List.mem_map.mp hc
  have r := digit_range (Nat.isDigit_of_mem_toDigits (by decide) (by decide) hch)
  rw [← e]
  exact r
theorem dec_val (n : Nat) : digitsVal (dec n) = n := PySem.W.KIN.val_back n
theorem dec_inj {n m : Nat} (h : dec n = dec m) : n = m := by rw [← dec_val n, h, dec_val]
theorem chars_back : ∀ cs : List Nat, AllDigits cs → (cs.map Char.ofNat).map Char.toNat = cs
  | [], _ => rfl
  | c :: cs, h => by
    have hc := h.head
    have : ∀ c : Nat, c < 58 → (Char.ofNat c).toNat = c := by decide
    simp only [List.map_cons]
    rw [this c (by omega), chars_back cs h.tail]
theorem dec_of {cs : List Nat} (h : AllDigits cs) (hn : cs ≠ []) (h0 : cs = [48] ∨ cs.head? ≠ some 48) : dec (digitsVal cs) = cs := by
  have e := toDigits_digitsVal (cs.length - 1) cs (by have := List.length_pos_iff.mpr hn; omega) h (by
    cases cs with
    | nil => exact absurd rfl hn
    | cons c r =>
      rcases h0 with h0 | h0
      · left; rw [h0]; rfl
      · right
        refine ⟨c, r, rfl, ?_⟩
        have := h.head
        have : c ≠ 48 := fun z => h0 (by rw [z]; rfl)
        omega)
  unfold dec
  rw [e, chars_back cs h]
theorem dec_head {n : Nat} : dec n = [48] ∨ (dec n).head? ≠ some 48 := by
  induction n using Nat.strongRecOn with
  | _ n ih =>
    by_cases h : n < 10
    · rw [dec_small h]
      by_cases z : n = 0
      · left; rw [z]
      · right; simp; omega
    · right
      rw [dec_step (by omega)]
      rcases ih (n / 10) (by omega) with e | e
      · have : digitsVal (dec (n / 10)) = digitsVal [48] := by rw [e]
        rw [dec_val] at this
        have : n / 10 = 0 := this
        omega
      · intro z
        apply e
        have := dec_pos (n / 10)
        cases hd : dec (n / 10) with
        | nil => rw [hd] at this; simp at this
        | cons c r => rw [hd] at z; simpa using z
theorem dv_fold : ∀ (b : List Nat) (x : Nat), b.foldl (fun acc c => acc * 10 + (c - 48)) x = x * 10 ^ b.length + digitsVal b
  | [], x => by simp [digitsVal]
  | c :: b, x => by
    rw [List.foldl_cons, dv_fold b]
    have e : digitsVal (c :: b) = (c - 48) * 10 ^ b.length + digitsVal b := by
      show b.foldl _ (0 * 10 + (c - 48)) = _
      rw [dv_fold b]; simp
    rw [e, List.length_cons, Nat.pow_succ, Nat.add_mul, Nat.mul_assoc, Nat.mul_comm 10 (10 ^ b.length)]
    omega
theorem dv_app (a b : List Nat) : digitsVal (a ++ b) = digitsVal a * 10 ^ b.length + digitsVal b := by
  unfold digitsVal
  rw [List.foldl_append, dv_fold b]
  rfl
theorem dv_lt {cs : List Nat} (h : AllDigits cs) : digitsVal cs < 10 ^ cs.length := by
  induction cs with
  | nil => decide
  | cons c cs ih =>
    have e := dv_app [c] cs
    rw [List.singleton_append] at e
    have hc := h.head
    have h1 : digitsVal [c] = c - 48 := by show 0 * 10 + (c - 48) = _; omega
    have h2 := ih h.tail
    rw [e, h1, List.length_cons, Nat.pow_succ]
    have : (c - 48) * 10 ^ cs.length ≤ 9 * 10 ^ cs.length := Nat.mul_le_mul_right _ (by omega)
    omega
def lS (l : List Nat) : Str := ⟨l.toArray⟩
theorem lS_list (l : List Nat) : (lS l).cps.toList = l := rfl
theorem lS_len (l : List Nat) : (lS l).length = l.length := by show l.toArray.size = _; simp
theorem lS_app (a b : List Nat) : lS a ++ lS b = lS (a ++ b) := by
  show Str.mk (a.toArray ++ b.toArray) = Str.mk (a ++ b).toArray
  simp
theorem lS_of (x : Str) : lS x.cps.toList = x := by
  cases x with
  | mk c => show Str.mk c.toList.toArray = Str.mk c; simp
theorem lS_inj {a b : List Nat} (h : lS a = lS b) : a = b := by
  have := congrArg (fun z : Str => z.cps.toList) h
  exact this
def natS (n : Nat) : Str := lS (dec n)
def intS (i : Int) : Str := if i < 0 then lS (45 :: dec i.natAbs) else lS (dec i.natAbs)
theorem str_nat (n : Nat) : (Str.ofString (toString ((n : Nat) : Int)) : Str) = natS n := by
  have e := PySem.W.KIN.signs_num n
  rw [← lS_of (Str.ofString (toString ((n : Nat) : Int))), e]
  rfl
theorem natS_inj {n m : Nat} (h : natS n = natS m) : n = m := dec_inj (lS_inj h)
theorem int_natS {cs : List Nat} (h : AllDigits cs) (h0 : cs ≠ []) (hl : cs.length ≤ 640) : PySem.intText? (lS cs) = some ((digitsVal cs : Nat) : Int) := intText_digits (x := lS cs) h h0 (by rw [lS_len]; omega)
def repS (z : Str) (k : Nat) : Str := lS (List.replicate k z.cps.toList).flatten
theorem rep_fold (a : Array Nat) : ∀ (k : Nat) (b : Array Nat), ((List.replicate k a).foldl (· ++ ·) b).toList = b.toList ++ (List.replicate k a.toList).flatten
  | 0, b => by simp
  | k + 1, b => by
    rw [List.replicate_succ, List.foldl_cons, rep_fold a k, List.replicate_succ]
    simp
def rRepS : R2 := fun x y H Q => ∃ (z : Str) (k : Int), x = .str z ∧ y = .int k ∧ -(2 ^ 63) ≤ k ∧ k < 2 ^ 62 ∧ z.length * k.toNat ≤ sizeLine ∧ Q (.str (repS z k.toNat)) H
theorem op_repS {X : Cx} : OpR X (binaryOp .Mult) rRepS := by
  intro pins s σ H x y v u Q I rx ry h
  obtain ⟨z, k, rfl, rfl, h1, h2, hz, q⟩ := h
  obtain ⟨t, rfl⟩ := (show ∃ t, v = Value.str z t from rx)
  obtain ⟨t', rfl⟩ := (show ∃ t, u = Value.int k t from ry)
  refine PySem.P.mul_str ?_ ?_ ?_ ?_
  · rw [decide_eq_false (show ¬ k < -(2 ^ 63 : Int) by omega), decide_eq_false (show ¬ k ≥ 2 ^ 63 by omega)]; rfl
  · intro k1 k2 k3
    have k0 : 0 < k := by omega
    have m1 : (z.length : Int) * k ≤ 2 ^ 24 := by
      have e : (k.toNat : Int) = k := Int.toNat_of_nonneg (by omega)
      have := Int.ofNat_le.mpr hz
      rw [Int.natCast_mul, e] at this
      exact this
    have : (z.length : Int) ≤ (2 ^ 63 - 1) / k := (Int.le_ediv_iff_mul_le k0).mpr (by omega)
    omega
  · intro _ _
    exact decide_eq_false (by omega)
  · by_cases k1 : k < 1
    · rw [if_pos k1]
      refine ⟨by decide, .str Str.empty, H, I.tok _, ⟨_, rfl⟩, ?_⟩
      have e : repS z k.toNat = Str.empty := by
        rw [show k.toNat = 0 by omega]; rfl
      rw [e] at q; exact q
    · rw [if_neg k1]
      split
      · rename_i c
        have e : repS z k.toNat = z := by
          rcases Bool.or_eq_true_iff.mp c with c | c
          · have : k = 1 := by simpa using c
            subst this
            show lS (List.replicate 1 z.cps.toList).flatten = z
            simp [lS_of]
          · have l0 : z.cps.toList = [] := by
              have : z.length = 0 := by simpa using c
              have : z.cps.size = 0 := this
              simpa using this
            unfold repS
            rw [l0]
            have e2 : ∀ n : Nat, (List.replicate n ([] : List Nat)).flatten = [] := fun n => by simp
            rw [e2, ← l0, lS_of]
        rw [e] at q
        exact ⟨.str z, H, I, ⟨_, rfl⟩, q⟩
      · have e : (⟨(List.replicate k.toNat z.cps).foldl (· ++ ·) #[]⟩ : Str) = repS z k.toNat := by
          rw [← lS_of ⟨(List.replicate k.toNat z.cps).foldl (· ++ ·) #[]⟩]
          unfold repS
          congr 1
          rw [rep_fold]
          simp
        rw [e]
        refine ⟨?_, .str (repS z k.toNat), H, I.tok _, ⟨_, rfl⟩, q⟩
        unfold repS
        rw [lS_len, List.length_flatten, List.map_replicate, List.sum_replicate_nat]
        have : z.cps.toList.length = z.length := by simp [Str.length]
        rw [this, Nat.mul_comm]
        exact hz
end OZ
set_option maxRecDepth 100000
set_option maxHeartbeats 1000000
namespace OZ
open PySem PySem.Spec PyProof.Rows L2 PySem.NumText
def qS (q : Rat) : Str := if q.den = 1 then intS q.num else intS q.num ++ lS [47] ++ intS (q.den : Int)
theorem intS_len (i : Int) : (intS i).length ≤ (dec i.natAbs).length + 1 := by
  unfold intS
  split
  · rw [lS_len]; simp
  · rw [lS_len]; omega
def intL (i : Int) : List Nat := if i < 0 then 45 :: dec i.natAbs else dec i.natAbs
theorem intS_eq (i : Int) : intS i = lS (intL i) := by
  unfold intS intL
  split <;> rfl
theorem intL_signs (i : Int) : ∀ c ∈ intL i, c = 45 ∨ (48 ≤ c ∧ c ≤ 57) := by
  intro c hc
  unfold intL at hc
  split at hc
  · rcases List.mem_cons.mp hc with e | e
    · exact .inl e
    · exact .inr (dec_all _ c e)
  · exact .inr (dec_all _ c hc)
theorem intL_ne (i : Int) : 47 ∉ intL i := fun h => by
  rcases intL_signs i 47 h with e | e <;> omega
theorem intL_inj {i j : Int} (h : intL i = intL j) : i = j := by
  have hd : ∀ n : Nat, ∃ c r, dec n = c :: r ∧ 48 ≤ c := fun n => by
    have := dec_pos n
    cases e : dec n with
    | nil => rw [e] at this; simp at this
    | cons c r => exact ⟨c, r, rfl, (dec_all n c (by rw [e]; exact List.mem_cons_self)).1⟩
  unfold intL at h
  split at h <;> split at h
  · injection h with _ h
    have := dec_inj h
    omega
  · obtain ⟨c, r, e, hc⟩ := hd j.natAbs
    rw [e] at h
    injection h with h _
    omega
  · obtain ⟨c, r, e, hc⟩ := hd i.natAbs
    rw [e] at h
    injection h with h _
    omega
  · have := dec_inj h
    omega
theorem cut47 {a b a' b' : List Nat} (h1 : 47 ∉ a) (h2 : 47 ∉ a') (h : a ++ 47 :: b = a' ++ 47 :: b') : a = a' ∧ b = b' := by
  induction a generalizing a' with
  | nil =>
    cases a' with
    | nil => exact ⟨rfl, by simpa using h⟩
    | cons c r =>
      have e : 47 = c := by injection h
      exact absurd (by rw [e]; exact List.mem_cons_self) h2
  | cons x xs ih =>
    cases a' with
    | nil =>
      have e : x = 47 := by injection h
      exact absurd (by rw [e]; exact List.mem_cons_self) h1
    | cons c r =>
      have e : x = c := by injection h
      have t : xs ++ 47 :: b = r ++ 47 :: b' := by injection h
      obtain ⟨i1, i2⟩ := ih (fun z => h1 (List.mem_cons_of_mem _ z)) (fun z => h2 (List.mem_cons_of_mem _ z)) t
      exact ⟨by rw [e, i1], i2⟩
def qL (q : Rat) : List Nat := if q.den = 1 then intL q.num else intL q.num ++ 47 :: intL (q.den : Int)
theorem qS_eq (q : Rat) : qS q = lS (qL q) := by
  unfold qS qL
  split
  · exact intS_eq _
  · rw [intS_eq, intS_eq, lS_app, lS_app, List.append_assoc]; rfl
theorem qL_inj {q r : Rat} (h : qL q = qL r) : q = r := by
  unfold qL at h
  split at h <;> split at h
  · rename_i h1 h2
    have := intL_inj h
    exact Rat.ext this (by omega)
  · rename_i h1 h2
    have : 47 ∈ intL q.num := by rw [h]; simp
    exact absurd this (intL_ne _)
  · rename_i h1 h2
    have : 47 ∈ intL r.num := by rw [← h]; simp
    exact absurd this (intL_ne _)
  · obtain ⟨e1, e2⟩ := cut47 (intL_ne _) (intL_ne _) h
    have := intL_inj e1
    have := intL_inj e2
    exact Rat.ext (by assumption) (by omega)
theorem qS_inj {q r : Rat} (h : qS q = qS r) : q = r := by
  rw [qS_eq, qS_eq] at h
  exact qL_inj (lS_inj h)
theorem str_len (x : Str) : x.cps.toList.length = x.length := by simp [Str.length]
theorem app_len (x y : Str) : (x ++ y).length = x.length + y.length := by
  cases x; cases y
  show (_ ++ _ : Array Nat).size = _
  simp [Str.length]
theorem qS_len {q : Rat} {n : Nat} (h1 : (dec q.num.natAbs).length ≤ n) (h2 : (dec (q.den : Int).natAbs).length ≤ n) : (qS q).length ≤ 2 * n + 3 := by
  have a := intS_len q.num
  have b := intS_len (q.den : Int)
  unfold qS
  split
  · omega
  · rw [app_len, app_len]
    have : (lS [47]).length = 1 := rfl
    omega
end OZ
set_option maxRecDepth 100000
set_option maxHeartbeats 1000000
namespace OZ
open PySem PySem.Spec PyProof.Rows L2 LamX
def GivesS2 (X : Cx) (k : Nat) (Ng : List Str) (x : Str) (sg : Scope) (g : Addr) (cdg : Value) (bg : List Stmt) (a : Str) (q : Str) (TT : Str → (XK → Hp → VK → Prop) → Hp → VK → Prop) : Prop :=
  ∀ (z : Str) (f c2 : Addr) (s : Shared) (H : Hp) (Q : VK) (tl : XK → Hp → VK → Prop), Room k (X.A.deeper (envOfC x sg s.heap.objs.size g cdg)) → (X.A.guards = some [] → (X.A.deeper (envOfC x sg s.heap.objs.size g cdg)).guards = some []) →
    (∀ (W : WX) (pn : List (Addr × Obj)) (xe : Value → Shared → Prop) (p1 p2 : Pos), Takes ((cxOf C8.CX0 X.prog X.w X.K X.mg X.base Ng x sg g cdg X.A X.stack s H C8.E0).nox.tr pn xe) W →
      PE ((cxOf C8.CX0 X.prog X.w X.K X.mg X.base Ng x sg g cdg X.A X.stack s H C8.E0).nox.tr pn xe) (.Call (.Name a p1) [] [] p2) (fun τ G Q => τ[0]? = some (some (.ref f)) ∧ G c2 = some (CodeO c2 q) ∧ tl (WE W τ) G Q)) →
    H c2 = some (CodeO c2 q) → TT z tl H Q → ∃ t, PSs (cxOf C8.CX0 X.prog X.w X.K X.mg X.base Ng x sg g cdg X.A X.stack s H C8.E0).nox bg t ∧ t { nx := fun _ H' => Q .non H', rt := Q } (L2.start Ng [.ref f, .str z]) H
structure Hrd2 (K : PySem.W.Frag) (mg : Str → Option Value) (x a b : Str) (st : Stmt) (Ng : List Str) (g : Addr) (fd : FuncData) : Prop where
  F : FunD K x x (defArgs st) (defBody st) (defScope st) [] [] g fd
  hm : mg x = some (.ref g)
  hb : L2.Binds K fd [a, b] []
  sg : FnScope Ng [a, b] (defScope st)
  hN : Ng[0]? = some a
  hv : Vis (defScope st) a
section
variable {X : Cx}
theorem lamS2 {T : List (Addr × Str)} {TT : Str → (XK → Hp → VK → Prop) → Hp → VK → Prop} {x a b z : Str} {g c P : Addr} {st : Stmt} {fd : FuncData} {k : Nat} {Ng : List Str} {lps : Arguments} {lb : Expr} {lsc : Scope} {t : XK → TE} {p lpos cpos pos : Pos} {j : Nat}
    (D : Hrd2 X.K X.mg x a b st Ng g fd) (gives : ∀ cdg q, GivesS2 X (k + 1) Ng x (defScope st) g cdg (defBody st) a q TT) (B : LamT X T c P) (hcode : X.env.code = .ref c) (room : Room (k + 2) X.A)
    (walk : ∀ (A : Around) (outer : List Env) (s : Shared) (H : Hp) (E : XK) (f c2 : Addr), Room k (A.deeper (lamEnv X lsc s.heap.objs.size f c2)) → PE (lamCx X A outer s H E lsc f c2) lb (t E))
    (hg : Gl X x := by rfl) (hL : lamSB X.env.scope lsc = true := by decide +kernel) (hdef : defaultsOf lps X.env = ([], []) := by rfl)
    (hbind : ∀ (q : Str) (cl : List (Str × Addr)) (pm cv ctv : Value), bindArgs (PySem.W.kla_fn "<lambda>" q lps lb lsc cl pm cv ctv) ⟨[], []⟩ = pure [] := by intros; rfl)
    (hdb : (x == ("__debug__" : Str)) = false := by decide) (hd : (a == ("__debug__" : Str)) = false := by decide) (hcd : (a == ("__classdict__" : Str)) = false := by decide) :
    PE X (.Call (.Name x p) [.Lambda lps lb lsc lpos, .Constant (.str z) j cpos] [] pos) (tLm T (TT z) t) := by
  have L := lamS_by hL
  obtain ⟨F, hm, hb, sg, hN, hv⟩ := D
  obtain ⟨oc, od, dV, kV, doc, pm, an, cdv, ct, osl, rfl, lk, hcc, _, _⟩ := F.ex
  constructor
  intro pins s σ H Q I h
  obtain ⟨tabs, h⟩ := h
  apply wpAny_Call_Name_kw (ld_glob I hg hm ?_ hdb)
  apply PySem.W.callWith_K (h₀ := X.base) I.ok.mod.kin F.kp ?_ (by rfl) (by rfl)
  change wpAny _ _ (spliced ((false, eval (.Lambda lps lb lsc lpos) X.env) :: (false, eval (.Constant (.str z) j cpos) X.env) :: backTo pos (starEach [] X.env))) _ _ s
  apply Calls.spliced_cons
  apply lam_make2 I B.tb hcode B.mem B.one tabs hdef (L.has I.ok)
  intro f c2 pm2 ctv H1 s1 I1 ext tabs1 there fresh off code
  apply Calls.spliced_cons
  refine Calls.Constant_str ?_
  apply Calls.spliced_nil
  have I2 := I1.tok (s1.toks + 1)
  refine ⟨I2.kIn, ?_⟩
  have ran : codeAny (model X.prog X.w) X.A (.call (.ref g) ⟨[.ref f, .str z s1.toks], []⟩) (CR C8.CX0 X.stack X.prog X.w H1 { s1 with toks := s1.toks + 1 } Q C8.E0) { s1 with toks := s1.toks + 1 } := by
    apply run_ofS (N := Ng) (ps := [a, b]) (us := [.ref f, .str z s1.toks]) (vs := [.ref f, .str z]) lk hcc sg room I2.env0 (hb _ [.ref f, .str z s1.toks] I2.kIn rfl) (.cons rfl (.cons ⟨_, rfl⟩ .nil)) rfl
    intro room2
    obtain ⟨t2, d2, q2⟩ := gives cdv _ z f c2 { s1 with toks := s1.toks + 1 } H1 Q (fun E G R => t E σ G R) room2 (fun z => guards_deeper z) (fun W pn xe p1 p2 tk => actS (CXg := C8.CX0) (Eg := C8.E0) (Ng := Ng) (i := 0) I2 L there fresh off (hbind _ _ _ _ _) tk room2 (fun A outer s H E r => walk A outer s H E f c2 r) hN hv hd hcd) code (h H1 ext tabs1)
    exact ⟨t2, d2.nox, q2⟩
  apply wpAny_call
  apply codeAny_mono ran
  intro res s2 y
  cases res with
  | error e => exact (show False from y).elim
  | ok fl =>
    cases fl with
    | ret u => exact I2.after y
    | next => exact y.elim
    | brk => exact y.elim
    | cont => exact y.elim
end
theorem seq2_by {t1 t2 u : TS} {D : Ends} {σ : L2.St} {H : Hp} (Post : L2.St → Hp → Prop) (h1 : ∀ R : L2.St → Hp → Prop, (∀ σ' H', Post σ' H' → R σ' H') → tSeq t1 t2 { D with nx := R } σ H) (h2 : ∀ σ' H', Post σ' H' → u D σ' H') : tSeq t1 (tSeq t2 u) D σ H := h1 (u D) h2
theorem seq3_by {t1 t2 t3 u : TS} {D : Ends} {σ : L2.St} {H : Hp} (Post : L2.St → Hp → Prop) (h1 : ∀ R : L2.St → Hp → Prop, (∀ σ' H', Post σ' H' → R σ' H') → tSeq t1 (tSeq t2 t3) { D with nx := R } σ H) (h2 : ∀ σ' H', Post σ' H' → u D σ' H') : tSeq t1 (tSeq t2 (tSeq t3 u)) D σ H := h1 (u D) h2
theorem seq4_by {t1 t2 t3 t4 u : TS} {D : Ends} {σ : L2.St} {H : Hp} (Post : L2.St → Hp → Prop) (h1 : ∀ R : L2.St → Hp → Prop, (∀ σ' H', Post σ' H' → R σ' H') → tSeq t1 (tSeq t2 (tSeq t3 t4)) { D with nx := R } σ H) (h2 : ∀ σ' H', Post σ' H' → u D σ' H') : tSeq t1 (tSeq t2 (tSeq t3 (tSeq t4 u))) D σ H := h1 (u D) h2
theorem o_eqPB {X : Cx} {K : PySem.W.Frag} {k : Nat} {PC : Addr → Prop} {ps : List Str} {sp : Addr → Sp} {E : XK} (M : MthP X.prog X.w X.K X.mg X.base k PC "__eq__" ps sp) (hr : Room k X.A) (hx : Passes (L2.CX X.prog X.w) X E) (hK : X.K = K := by rfl) : OpR X (compareOp .Eq) (rCmpP K PC sp E) := hK ▸ o_eqP M hr hx
theorem o_nePB {X : Cx} {K : PySem.W.Frag} {k : Nat} {PC : Addr → Prop} {ps : List Str} {sp : Addr → Sp} {E : XK} (oc : ∀ C, PC C → OC X.K C ∧ PySem.W.findIn X.K (.ref C) "__ne__" = some (some (.builtin "object.__ne__"))) (M : MthP X.prog X.w X.K X.mg X.base k PC "__eq__" ps sp) (hr : Room (k + 1) X.A) (hx : Passes (L2.CX X.prog X.w) X E) (hK : X.K = K := by rfl) :
    OpR X (compareOp .NotEq) (rNeP K PC sp E) := hK ▸ o_neP oc M hr hx
theorem z_setL {H : Hp} {p : Addr} {xs : List V} {a : Int} {j : Nat} {v : V} {R : Hp → Prop} (hp : H p = some (.lst xs)) (ha : ixN xs.length a = some j) (h : ∀ H', Kp p H H' → H' p = some (.lst (xs.set j v)) → R H') : rSetL (.ref p) (.int a) v H R := y_setL hp ha (h _ Kp.set upd_same)
end OZ
set_option maxRecDepth 100000
namespace LW
open PySem PySem.Spec PyProof.Rows L2 OZ
local macro_rules | `(tactic| walk_at "ex") => `(tactic| first
  | assumption
  | (refine ExAt.same (by assumption) ?_; walk_at "ex"))
local macro_rules | `(tactic| walk_at "same") => `(tactic| first
  | assumption
  | exact same0
  | (refine Same.trans ?_ (by assumption); walk_at "same"))
local macro_rules | `(tactic| walk_at "free") => `(tactic| first
  | assumption
  | (refine sfree (by assumption) ?_; walk_at "free"))
local macro_rules | `(tactic| walk_at "hp") => `(tactic| first
  | assumption
  | exact upd_same
  | (refine sat (by assumption) ?_; walk_at "hp")
  | (refine upd_old ?_ ?_; (first | assumption | exact free_upd (by assumption)); walk_at "hp")
  | (refine upd_oth ?_ ?_; (first | assumption | exact Ne.symm (by assumption)); walk_at "hp"))
local macro_rules | `(tactic| walk_at "side") => `(tactic| first
  | assumption
  | decide
  | omega
  | exact ⟨by omega, by omega, by omega⟩
  | exact Or.inl ⟨by omega, by omega⟩
  | exact Or.inr ⟨by omega, by omega⟩
  | (show (_ : Int) ≠ 0; omega)
  | exact wide_div (b := 64) (by omega) (by omega) (by decide) (by decide)
  | exact wide_div (b := 4000) (by assumption) (by assumption) (by decide) (by decide))
local macro_rules | `(tactic| walk_at "y") => `(tactic| first
  | ((with_reducible refine y_var ?_); refine ⟨_, rfl, ?_⟩)
  | with_reducible refine y_c ?_
  | with_reducible refine y_op ?_
  | with_reducible refine y_cb ?_
  | with_reducible refine y_cons ?_
  | with_reducible refine y_nil ?_
  | with_reducible refine y_seq ?_
  | with_reducible refine y_asg ?_
  | with_reducible refine y_gn ?_
  | with_reducible refine y_gsub ?_
  | with_reducible refine y_ret ?_
  | with_reducible refine y_drop ?_
  | with_reducible refine y_next ?_
  | with_reducible refine y_ifS ?_
  | with_reducible refine y_test ?_
  | with_reducible refine y_B ?_
  | with_reducible refine y_ex ?_
  | with_reducible refine y_not ?_
  | with_reducible refine y_and ?_
  | with_reducible refine y_or ?_
  | with_reducible refine y_notV ?_
  | with_reducible refine y_andV ?_
  | with_reducible refine y_orV ?_
  | with_reducible refine y_ifE ?_
  | with_reducible refine y_un ?_
  | with_reducible refine y_par ?_
  | with_reducible refine y_ex2 ?_
  | with_reducible refine y_call ?_
  | with_reducible refine y_callS ?_
  | with_reducible refine y_I0 ?_
  | ((with_reducible refine y_I ?_ ?_); (walk_at "side"))
  | with_reducible refine y_U ?_
  | ((with_reducible refine y_eq ?_ ?_); (exact rfl))
  | ((with_reducible refine y_ne ?_ ?_); (exact rfl))
  | ((with_reducible refine' y_ixL ?k1 ?k2 ?k3); (case k1 => walk_at "hp"); (case k2 => exact rfl))
  | ((with_reducible refine' y_ixT ?k1 ?k2 ?k3); (case k1 => walk_at "hp"); (case k2 => exact rfl))
  | ((with_reducible refine' y_setL ?k1 ?k2 ?k3); (case k1 => walk_at "hp"); (case k2 => exact rfl))
  | with_reducible refine y_int ?_
  | with_reducible refine y_intB ?_
  | with_reducible refine y_abs ?_
  | ((with_reducible refine' y_lenL ?k1 ?k3); (case k1 => walk_at "hp"))
  | ((with_reducible refine' y_lenT ?k1 ?k3); (case k1 => walk_at "hp"))
  | ((with_reducible refine y_lenS ?_ ?_); (walk_at "side"))
  | with_reducible refine y_isN ?_
  | with_reducible refine y_notN ?_
  | ((with_reducible refine y_addS ?_ ?_); (walk_at "side"))
  | with_reducible refine y_inC ?_
  | with_reducible refine y_notInC ?_
  | with_reducible refine y_sl ?_
  | with_reducible refine y_part ?_
  | with_reducible refine y_nopart ?_
  | with_reducible refine y_exI ?_
  | ((with_reducible refine y_slS ?_ ?_); (walk_at "side"))
  | with_reducible refine z_lst ?_
  | with_reducible refine z_tup ?_
  | ((with_reducible refine z_newL ?_ ?_); (exact Nat.le_of_ble_eq_true rfl); (intro pp HH npp spp opp))
  | ((with_reducible refine z_newT ?_ ?_); (exact Nat.le_of_ble_eq_true rfl); (intro pp HH npp spp opp))
  | ((with_reducible refine' y_chI ?k1 ?k2); (case k1 => exact rfl))
  | with_reducible refine y_chain ?_
  | with_reducible refine y_yes ?_
  | with_reducible refine y_att ?_
  | ((with_reducible refine y_disp ?_ ?_); (exact Nat.le_of_ble_eq_true rfl); (intro pp hpp))
  | ((with_reducible refine' y_gtup ?k1 ?k2 ?k3); (case k1 => walk_at "hp"); (case k2 => exact rfl))
  | with_reducible refine y_gcons ?_
  | with_reducible refine y_gnil ?_
  | with_reducible refine y_mkO ?_
  | with_reducible refine y_callKw ?_
  | with_reducible refine y_fld ?_
  | with_reducible refine y_for ?_
  | with_reducible refine y_iList ?_
  | with_reducible refine y_iTup ?_
  | with_reducible refine y_iEnum ?_
  | ((with_reducible refine' y_itL ?k1 ?k2); (case k1 => walk_at "hp"))
  | ((with_reducible refine' y_itT ?k1 ?k2); (case k1 => walk_at "hp"))
  | ((with_reducible refine' y_itE ?k1 ?k2); (case k1 => walk_at "hp"))
  | with_reducible refine y_m0 ?_
  | ((with_reducible refine' z_slT ?k1 ?k2 ?k3); (case k1 => walk_at "hp"); (case k2 => decide); (intro pp HH npp spp opp))
  | with_reducible refine y_pp ?_
  | with_reducible refine y_pp0 ?_
  | with_reducible refine y_xv ?_
  | with_reducible refine y_xv0 ?_
  | with_reducible refine y_bm ?_
  | ((with_reducible refine' y_tyL ?k1 ?k2); (case k1 => walk_at "hp"))
  | ((with_reducible refine' y_app ?k1 ?k2 ?k3); (case k1 => walk_at "hp"); (case k2 => (first | exact Nat.le_of_ble_eq_true rfl | walk_at "side")))
  | ((with_reducible refine' z_cat ?k1 ?k2 ?k3 ?k4); (case k1 => walk_at "hp"); (case k2 => walk_at "hp"); (case k3 => (first | exact Nat.le_of_ble_eq_true rfl | walk_at "side")); (intro pp HH npp spp opp))
  | ((with_reducible refine' z_slL ?k1 ?k2); (case k1 => walk_at "hp"); (intro pp HH npp spp opp))
  | ((with_reducible refine' y_in ?k1 ?k2 ?k3 ?k4); (case k1 => walk_at "hp"); (case k2 => exact rfl); (case k3 => exact rfl))
  | with_reducible refine y_iteT ?_
  | with_reducible refine y_iteF ?_
  | with_reducible refine y_iteNT ?_
  | with_reducible refine y_iteNF ?_
  | ((with_reducible refine y_iteY ?_ ?_); (first | exact rfl | assumption | omega))
  | ((with_reducible refine y_iteX ?_ ?_); (first | focus (intro zz; cases zz; done) | assumption | omega))
  | ((with_reducible refine y_iteNY ?_ ?_); (first | exact rfl | assumption | omega))
  | ((with_reducible refine y_iteNX ?_ ?_); (first | focus (intro zz; cases zz; done) | assumption | omega))
  | ((with_reducible refine y_ite ?_ ?_) <;> intro hh)
  | ((with_reducible refine y_iteN ?_ ?_) <;> intro hh)
  | dsimp only)
structure TopA (K : PySem.W.Frag) (mg : Str → Option Value) : Prop extends TopP K mg where
  n_isinstance : mg "isinstance" = none
  n_bool : mg "bool" = none
  n_tuple : mg "tuple" = none
  n_repr : mg "repr" = none
  n_range : mg "range" = none
  n_str : mg "str" = none
  sm : ∃ o, K.lookup sysModules = some o
  g_Amount : mg "Amount" = some (.ref (He.ga K "Amount"))
section
variable {P : Program} {w : World} {K : PySem.W.Frag} {mg : Str → Option Value} {base : Heap}
abbrev s_isint : Stmt := topS 12
theorem sc_isint : FnScope ["value"] ["value"] (defScope s_isint) := ⟨rfl, rfl, rfl, by decide +kernel, rfl, by decide +kernel, by decide +kernel⟩
theorem ok_isint {f : Addr} {fd : FuncData} (F : FnP K "is_int" s_isint f fd) (T : TopA K mg) : FnOk P w K mg base (L2.CX P w) 1 f fd ["value"] (spIsInt K) := by
  have nd := sc_isint.nd
  refine F.ok sc_isint (fun vs H Q E h => ?_) (fun cdv A outer s H vs Q E hr h => ?_)
  · obtain ⟨v, rfl, _⟩ := h
    rfl
  · obtain ⟨v, rfl, ⟨t, b1, b2, ty, k1, k2, e⟩, q⟩ := h
    refine ⟨_, PSs.nox (pss_one (ps_ret (pe_and (pe_callB c_isA (by rfl) T.n_isinstance (by decide +kernel) (pa_cons (pv 0) (pa_cons (ob_ty (T := "int") T.n_int (by decide +kernel)) pa_nil))) (pe_one (pe_not (pe_callB c_isA (by rfl) T.n_isinstance (by decide +kernel) (pa_cons (pv 0) (pa_cons (ob_ty (T := "bool") T.n_bool (by decide +kernel)) pa_nil)))))))), ?_⟩
    repeat walk_at "y"
    refine .inl ⟨_, _, _, _, _, rfl, .ty "int", ty, k1, ?_⟩
    repeat walk_at "y"
    rw [← e] at q
    refine y_iteB (fun h1 => ?_) (fun h1 => ?_)
    · repeat walk_at "y"
      refine .inl ⟨_, _, _, _, _, rfl, .ty "bool", ty, k2, ?_⟩
      repeat walk_at "y"
      rw [h1, Bool.true_and] at q
      exact q
    · rw [h1, Bool.false_and] at q
      exact q
def spShared : Sp := fun vs H Q _ => ∃ a b : Int, vs = [.int a, .int b] ∧ 0 ≤ a ∧ 0 ≤ b ∧ Q (.int (Int.gcd a b : Int)) H
theorem gcd_step {a b : Int} (ha : 0 ≤ a) (hb : 0 < b) : 0 ≤ a.fmod b ∧ a.fmod b < b ∧ Int.gcd b (a.fmod b) = Int.gcd a b := by
  have h := fmod_pos (a := a) hb
  refine ⟨h.1, h.2, ?_⟩
  have e : a.fmod b = a - b * (a / b) := by rw [Int.fmod_eq_emod_of_nonneg _ (by omega)]; exact Int.emod_def a b
  rw [e, Int.gcd_sub_mul_left_right, Int.gcd_comm]
abbrev s_shared : Stmt := topS 16
theorem sc_shared : FnScope ["one", "other"] ["one", "other"] (defScope s_shared) := ⟨rfl, rfl, rfl, by decide +kernel, rfl, by decide +kernel, by decide +kernel⟩
theorem ok_shared {f : Addr} {fd : FuncData} (F : FnP K "shared_by" s_shared f fd) : FnOk P w K mg base (L2.CX P w) 1 f fd ["one", "other"] spShared := by
  have nd := sc_shared.nd
  refine F.ok sc_shared (fun vs H Q E h => ?_) (fun cdv A outer s H vs Q E hr h => ?_)
  · obtain ⟨a, b, rfl, _⟩ := h
    rfl
  · obtain ⟨a, b, rfl, ha, hb, q⟩ := h
    refine ⟨_, PSs.nox (pss_cons (ps_while PassesOwn.never (pt_cmpR op_ne (pv 1) pe_int (nomark _))
        (pss_one (ps_par (i := 0) (j := 1) (by rfl) nd rfl rfl (by decide) rfl rfl (pa_cons (pv 1) (pa_cons (pe_op op_modN (pv 0) (pv 1)) pa_nil)) (by rfl))))
      (pss_one (ps_ret (pv 0)))), ?_⟩
    repeat walk_at "y"
    refine while_by (fun σ' H' => ∃ x y : Int, σ' = [some (.int x), some (.int y)] ∧ 0 ≤ x ∧ 0 ≤ y ∧ Int.gcd x y = Int.gcd a b ∧ H' = H) (fun σ' _ => match σ' with | [_, some (.int y)] => y.toNat | _ => 0) ⟨a, b, rfl, ha, hb, rfl, rfl⟩ ?_ ?_
    · rintro σ' H' ⟨x, y, rfl, hx, hy, hg, rfl⟩
      by_cases y0 : y = 0
      · subst y0
        repeat walk_at "y"
        rw [Int.gcd_zero] at hg
        have e2 : x = (Int.gcd a b : Int) := by omega
        rw [e2]; exact q
      · have yn : ¬ (V.int y = V.int 0) := fun z => y0 (by injection z)
        repeat walk_at "y"
        have gs := gcd_step (a := x) (b := y) hx (by omega)
        exact ⟨⟨y, x.fmod y, rfl, hy, gs.1, gs.2.2.trans hg, rfl⟩, by show (x.fmod y).toNat < y.toNat; omega⟩
    · intro σ' H' Q1 Q2 hq h
      obtain ⟨v, e, hs, k, ek, q1⟩ := h
      exact ⟨v, e, hs, k, ek, hq _ _ q1⟩
end
end LW
set_option maxRecDepth 100000
namespace LW
open PySem PySem.Spec PyProof.Rows L2 OZ
local macro_rules | `(tactic| walk_at "ex") => `(tactic| first
  | assumption
  | (refine ExAt.same (by assumption) ?_; walk_at "ex"))
local macro_rules | `(tactic| walk_at "same") => `(tactic| first
  | assumption
  | exact same0
  | (refine Same.trans ?_ (by assumption); walk_at "same"))
local macro_rules | `(tactic| walk_at "free") => `(tactic| first
  | assumption
  | (refine sfree (by assumption) ?_; walk_at "free"))
local macro_rules | `(tactic| walk_at "hp") => `(tactic| first
  | assumption
  | exact upd_same
  | (refine sat (by assumption) ?_; walk_at "hp")
  | (refine upd_old ?_ ?_; (first | assumption | exact free_upd (by assumption)); walk_at "hp")
  | (refine upd_oth ?_ ?_; (first | assumption | exact Ne.symm (by assumption)); walk_at "hp"))
local macro_rules | `(tactic| walk_at "side") => `(tactic| first
  | assumption
  | decide
  | omega
  | exact ⟨by omega, by omega, by omega⟩
  | exact Or.inl ⟨by omega, by omega⟩
  | exact Or.inr ⟨by omega, by omega⟩
  | (show (_ : Int) ≠ 0; omega)
  | exact wide_div (b := 64) (by omega) (by omega) (by decide) (by decide)
  | exact wide_div (b := 4000) (by assumption) (by assumption) (by decide) (by decide))
local macro_rules | `(tactic| walk_at "y") => `(tactic| first
  | ((with_reducible refine y_var ?_); refine ⟨_, rfl, ?_⟩)
  | with_reducible refine y_c ?_
  | with_reducible refine y_op ?_
  | with_reducible refine y_cb ?_
  | with_reducible refine y_cons ?_
  | with_reducible refine y_nil ?_
  | with_reducible refine y_seq ?_
  | with_reducible refine y_asg ?_
  | with_reducible refine y_gn ?_
  | with_reducible refine y_gsub ?_
  | with_reducible refine y_ret ?_
  | with_reducible refine y_drop ?_
  | with_reducible refine y_next ?_
  | with_reducible refine y_ifS ?_
  | with_reducible refine y_test ?_
  | with_reducible refine y_B ?_
  | with_reducible refine y_ex ?_
  | with_reducible refine y_not ?_
  | with_reducible refine y_and ?_
  | with_reducible refine y_or ?_
  | with_reducible refine y_notV ?_
  | with_reducible refine y_andV ?_
  | with_reducible refine y_orV ?_
  | with_reducible refine y_ifE ?_
  | with_reducible refine y_un ?_
  | with_reducible refine y_par ?_
  | with_reducible refine y_ex2 ?_
  | with_reducible refine y_call ?_
  | with_reducible refine y_callS ?_
  | with_reducible refine y_I0 ?_
  | ((with_reducible refine y_I ?_ ?_); (walk_at "side"))
  | with_reducible refine y_U ?_
  | ((with_reducible refine y_eq ?_ ?_); (exact rfl))
  | ((with_reducible refine y_ne ?_ ?_); (exact rfl))
  | ((with_reducible refine' y_ixL ?k1 ?k2 ?k3); (case k1 => walk_at "hp"); (case k2 => exact rfl))
  | ((with_reducible refine' y_ixT ?k1 ?k2 ?k3); (case k1 => walk_at "hp"); (case k2 => exact rfl))
  | ((with_reducible refine' y_setL ?k1 ?k2 ?k3); (case k1 => walk_at "hp"); (case k2 => exact rfl))
  | with_reducible refine y_int ?_
  | with_reducible refine y_intB ?_
  | with_reducible refine y_abs ?_
  | ((with_reducible refine' y_lenL ?k1 ?k3); (case k1 => walk_at "hp"))
  | ((with_reducible refine' y_lenT ?k1 ?k3); (case k1 => walk_at "hp"))
  | ((with_reducible refine y_lenS ?_ ?_); (walk_at "side"))
  | with_reducible refine y_isN ?_
  | with_reducible refine y_notN ?_
  | ((with_reducible refine y_addS ?_ ?_); (walk_at "side"))
  | with_reducible refine y_inC ?_
  | with_reducible refine y_notInC ?_
  | with_reducible refine y_sl ?_
  | with_reducible refine y_part ?_
  | with_reducible refine y_nopart ?_
  | with_reducible refine y_exI ?_
  | ((with_reducible refine y_slS ?_ ?_); (walk_at "side"))
  | with_reducible refine z_lst ?_
  | with_reducible refine z_tup ?_
  | ((with_reducible refine z_newL ?_ ?_); (exact Nat.le_of_ble_eq_true rfl); (intro pp HH npp spp opp))
  | ((with_reducible refine z_newT ?_ ?_); (exact Nat.le_of_ble_eq_true rfl); (intro pp HH npp spp opp))
  | ((with_reducible refine' y_chI ?k1 ?k2); (case k1 => exact rfl))
  | with_reducible refine y_chain ?_
  | with_reducible refine y_yes ?_
  | with_reducible refine y_att ?_
  | ((with_reducible refine y_disp ?_ ?_); (exact Nat.le_of_ble_eq_true rfl); (intro pp hpp))
  | ((with_reducible refine' y_gtup ?k1 ?k2 ?k3); (case k1 => walk_at "hp"); (case k2 => exact rfl))
  | with_reducible refine y_gcons ?_
  | with_reducible refine y_gnil ?_
  | with_reducible refine y_mkO ?_
  | with_reducible refine y_callKw ?_
  | with_reducible refine y_fld ?_
  | with_reducible refine y_for ?_
  | with_reducible refine y_iList ?_
  | with_reducible refine y_iTup ?_
  | with_reducible refine y_iEnum ?_
  | ((with_reducible refine' y_itL ?k1 ?k2); (case k1 => walk_at "hp"))
  | ((with_reducible refine' y_itT ?k1 ?k2); (case k1 => walk_at "hp"))
  | ((with_reducible refine' y_itE ?k1 ?k2); (case k1 => walk_at "hp"))
  | with_reducible refine y_m0 ?_
  | ((with_reducible refine' z_slT ?k1 ?k2 ?k3); (case k1 => walk_at "hp"); (case k2 => decide); (intro pp HH npp spp opp))
  | with_reducible refine y_pp ?_
  | with_reducible refine y_pp0 ?_
  | with_reducible refine y_xv ?_
  | with_reducible refine y_xv0 ?_
  | with_reducible refine y_bm ?_
  | ((with_reducible refine' y_tyL ?k1 ?k2); (case k1 => walk_at "hp"))
  | ((with_reducible refine' y_app ?k1 ?k2 ?k3); (case k1 => walk_at "hp"); (case k2 => (first | exact Nat.le_of_ble_eq_true rfl | walk_at "side")))
  | ((with_reducible refine' z_cat ?k1 ?k2 ?k3 ?k4); (case k1 => walk_at "hp"); (case k2 => walk_at "hp"); (case k3 => (first | exact Nat.le_of_ble_eq_true rfl | walk_at "side")); (intro pp HH npp spp opp))
  | ((with_reducible refine' z_slL ?k1 ?k2); (case k1 => walk_at "hp"); (intro pp HH npp spp opp))
  | ((with_reducible refine' y_in ?k1 ?k2 ?k3 ?k4); (case k1 => walk_at "hp"); (case k2 => exact rfl); (case k3 => exact rfl))
  | with_reducible refine y_iteT ?_
  | with_reducible refine y_iteF ?_
  | with_reducible refine y_iteNT ?_
  | with_reducible refine y_iteNF ?_
  | ((with_reducible refine y_iteY ?_ ?_); (first | exact rfl | assumption | omega))
  | ((with_reducible refine y_iteX ?_ ?_); (first | focus (intro zz; cases zz; done) | assumption | omega))
  | ((with_reducible refine y_iteNY ?_ ?_); (first | exact rfl | assumption | omega))
  | ((with_reducible refine y_iteNX ?_ ?_); (first | focus (intro zz; cases zz; done) | assumption | omega))
  | ((with_reducible refine y_ite ?_ ?_) <;> intro hh)
  | ((with_reducible refine y_iteN ?_ ?_) <;> intro hh)
  | dsimp only)
structure AmC (K : PySem.W.Frag) : Prop where
  oc : OC K (CA K)
  nt : NoAttr K (CA K) "top"
  nb : NoAttr K (CA K) "bottom"
  ki : PySem.W.kitOne K (.ref (CA K)) (.type "int") = some false
  kb : PySem.W.kitOne K (.ref (CA K)) (.type "bool") = some false
  ka : PySem.W.kitOne K (.ref (CA K)) (.ref (CA K)) = some true
  kt : ∀ T ∈ ["int", "bool", "NoneType", "str", "list", "tuple", "dict"], PySem.W.kitOne K (.type T) (.ref (CA K)) = some false
def NoNum (K : PySem.W.Frag) (H : Hp) (v : V) : Prop := KdV K H v ∧ isIV v = false ∧ ∃ t, TyX K H v t ∧ PySem.W.kitOne K t (.ref (CA K)) = some false
abbrev CB (K : PySem.W.Frag) : Addr := He.ga K "BadAmount"
def OutB (K : PySem.W.Frag) (H : Hp) (v : V) (E : XK) : Prop := ∀ H' dd, Same H H' → H dd = none → H' dd = some (.xd [("value", v)]) → E (.ref (CB K)) (some dd) H'
section
variable {P : Program} {w : World} {K : PySem.W.Frag} {mg : Str → Option Value} {base : Heap}
def spHalves (K : PySem.W.Frag) : Sp := fun vs H Q E => ∃ v : V, vs = [v] ∧ ((∃ t b, NumAt (CA K) H v t b ∧ ∀ q H', H q = none → Same H H' → H' q = some (.tup [.int t, .int b]) → Q (.ref q) H') ∨ (NoNum K H v ∧ OutB K H v E))
abbrev s_halves : Stmt := topS 23
theorem sc_halves : FnScope ["number"] ["number"] (defScope s_halves) := ⟨rfl, rfl, rfl, by decide +kernel, rfl, by decide +kernel, by decide +kernel⟩
theorem ok_halves {f : Addr} {fd : FuncData} (F : FnP K "halves" s_halves f fd) (T : TopA K mg) (A : AmC K) (Fis_int : Fnc P w K mg base 1 "is_int" ["value"] (spIsInt K)) (MBadAmount : XMk P w K mg base "BadAmount" (CB K) ["self", "value"] (spX1 "value" (CB K))) :
    FnOk P w K mg base (L2.CX P w) 3 f fd ["number"] (spHalves K) := by
  have nd := sc_halves.nd
  refine F.ok sc_halves (fun vs H Q E h => ?_) (fun cdv A' outer s H vs Q E hr h => ?_)
  · obtain ⟨v, rfl, _⟩ := h
    rfl
  · obtain ⟨v, rfl, h⟩ := h
    refine ⟨_, (pss_cons (ps_if (pt_val (pe_callB c_isA (by rfl) T.n_isinstance (by decide +kernel) (pa_cons (pv 0) (pa_cons (og_ref T.g_Amount) pa_nil))))
        (pss_one (ps_ret (pe_tup (pa_cons (pe_att (pv 0)) (pa_cons (pe_att (pv 0)) pa_nil)))))
        pss_nil)
      (pss_cons (ps_if (pt_not (pt_val (oc Fis_int (hr.mono (by decide)) (pa_cons (pv 0) pa_nil))))
        (pss_one (raiseX MBadAmount (hr.mono (by decide)) rfl (takes_of rfl rfl rfl rfl) (pa_cons (pv 0) pa_nil)))
        pss_nil)
      (pss_one (ps_ret (pe_tup (pa_cons (pv 0) (pa_cons pe_int pa_nil))))))), ?_⟩
    repeat walk_at "y"
    rcases h with ⟨t, b, hn, k⟩ | ⟨⟨kd, iv, ty, ht, hk⟩, k⟩
    · rcases hn with ⟨rfl, rfl⟩ | ⟨a, rfl, dx, ha⟩
      · refine .inl ⟨_, _, _, _, _, rfl, .own _, .base (.int t), A.kt "int" (by simp), ?_⟩
        repeat walk_at "y"
        refine ⟨_, rfl, .int t, ?_⟩
        rw [show isIV (.int t) = true from rfl]
        repeat walk_at "y"
        exact k _ _ (by assumption) (by assumption) (by assumption)
      · refine .inl ⟨_, _, _, _, _, rfl, .own _, A.oc.ty ha, A.ka, ?_⟩
        repeat walk_at "y"
        refine y_attI ha A.oc.cls A.nt rfl ?_
        repeat walk_at "y"
        refine y_attI ha A.oc.cls A.nb rfl ?_
        repeat walk_at "y"
        exact k _ _ (by assumption) (by assumption) (by assumption)
    · refine .inl ⟨_, _, _, _, _, rfl, .own _, ht, hk, ?_⟩
      repeat walk_at "y"
      refine ⟨_, rfl, kd, ?_⟩
      rw [iv]
      repeat walk_at "y"
      exact y_mk1 fun dd hdd => k _ dd (fun b o e => upd_old hdd e) hdd upd_same
def Bt (x : Addr) (H H' : Hp) : Prop := ∀ a o, a ≠ x → H a = some o → H' a = some o
def spInit (K : PySem.W.Frag) : Sp := fun vs H Q E => ∃ (x dx : Addr) (v1 v2 : V), vs = [.ref x, v1, v2] ∧ H x = some (.ins (CA K) dx []) ∧
  ((∃ t b, v1 = .int t ∧ v2 = .int b ∧ b ≠ 0 ∧ Sz 8000 t ∧ Sz 8000 b ∧ ∀ H', Bt x H H' → H' x = some (.ins (CA K) dx [("top", .int (lowT t b)), ("bottom", .int (lowB t b))]) → Q .non H') ∨
   (KdV K H v1 ∧ isIV v1 = false ∧ OutB K H v1 E) ∨ (isIV v1 = true ∧ KdV K H v2 ∧ isIV v2 = false ∧ ∀ H' dd, Same H H' → H dd = none → H' dd = some (.xd [("value", v2)]) → E (.ref (CB K)) (some dd) H') ∨
   (isIV v1 = true ∧ v2 = .int 0 ∧ ∀ H', Same H H' → E (.ref (CN K)) none H'))
abbrev s_init : Stmt := inClass (topS 24) 0
theorem sc_init : FnScope ["self", "top", "bottom", "value", "shared", "sign"] ["self", "top", "bottom"] (defScope s_init) := ⟨rfl, rfl, rfl, by decide +kernel, rfl, by decide +kernel, by decide +kernel⟩
theorem ok_init {f : Addr} {fd : FuncData} {dvs : List V} (F : FunD K "__init__" "Amount.__init__" (defArgs s_init) (defBody s_init) (defScope s_init) dvs [] f fd) (T : TopA K mg) (A : AmC K) (Fis_int : Fnc P w K mg base 1 "is_int" ["value"] (spIsInt K)) (Fshared_by : Fnc P w K mg base 1 "shared_by" ["one", "other"] spShared)
    (MBadAmount : XMk P w K mg base "BadAmount" (CB K) ["self", "value"] (spX1 "value" (CB K))) (MNoDivisor : X0 K mg "NoDivisor" (CN K)) : FnOk P w K mg base (L2.CX P w) 3 f fd ["self", "top", "bottom"] (spInit K) := by
  have nd := sc_init.nd
  refine F.ok sc_init (fun vs H Q E h => ?_) (fun cdv A' outer s H vs Q E hr h => ?_)
  · obtain ⟨x, dx, v1, v2, rfl, _⟩ := h
    rfl
  · obtain ⟨x, dx, v1, v2, rfl, hx, h⟩ := h
    refine ⟨_, (pss_cons (ps_for (passes_of rfl) rfl (pi_tup (pe_tup (pa_cons (pv 1) (pa_cons (pv 2) pa_nil)))) (pg_name (i := 3) nd rfl (Or.inl rfl))
        (pss_one (ps_if (pt_not (pt_val (oc Fis_int (hr.mono (by decide)) (pa_cons (pv 3) pa_nil))))
          (pss_one (raiseX MBadAmount (hr.mono (by decide)) rfl (takes_of rfl rfl rfl rfl) (pa_cons (pv 3) pa_nil)))
          pss_nil)))
      (pss_cons (ps_if (pt_cmpR op_eq (pv 2) pe_int (nomark _))
        (pss_one (raise0 MNoDivisor rfl (takes_of rfl rfl rfl rfl)))
        pss_nil)
      (pss_cons (ps_set (i := 4) nd rfl (Or.inl rfl) (oc Fshared_by (hr.mono (by decide)) (pa_cons (pe_callB c_abs (by rfl) T.n_abs (by decide +kernel) (pa_cons (pv 1) pa_nil)) (pa_cons (pe_callB c_abs (by rfl) T.n_abs (by decide +kernel) (pa_cons (pv 2) pa_nil)) pa_nil))))
      (pss_cons (ps_set (i := 5) nd rfl (Or.inl rfl) (pe_ifExp (pt_cmpR op_gt (pv 2) pe_int (nomark _)) pe_int (pe_un un_neg pe_int)))
      (pss_cons (ps_fld (pv 0) (pe_op op_fdivW (pe_op op_mulW (pv 5) (pv 1)) (pv 4)) rfl)
      (pss_one (ps_fld (pv 0) (pe_op op_fdivW (pe_callB c_abs (by rfl) T.n_abs (by decide +kernel) (pa_cons (pv 2) pa_nil)) (pv 4)) rfl))))))), ?_⟩
    repeat walk_at "y"
    rename_i tq H1 n1 s1 o1
    have hx1 := s1 _ _ hx
    have kd1 : KdV K H1 v1 := by
      rcases h with ⟨t, b, rfl, _⟩ | ⟨h, _⟩ | ⟨h, _⟩ | ⟨h, _⟩
      · exact .int t
      · exact h.same s1
      · exact .ofInt h
      · exact .ofInt h
    refine f_tup (xs := [v1, v2]) (fun j σ' H' => ∃ y3 : Option V, σ' = [some (.ref x), some v1, some v2, y3, none, none] ∧ H' = H1 ∧ (1 ≤ j → isIV v1 = true) ∧ (2 ≤ j → isIV v2 = true)) ⟨none, rfl, rfl, fun z => absurd z (by decide), fun z => absurd z (by decide)⟩ ?_ ?_ ?_
    · rintro j σ' H' _ ⟨_, rfl, rfl, _⟩
      exact o1
    · rintro j y σ' H' hj ⟨y3, rfl, rfl, g1, g2⟩
      match j, hj with
      | 0, hj =>
        cases hj
        repeat walk_at "y"
        refine ⟨_, rfl, kd1, ?_⟩
        cases iv : isIV v1 with
        | true =>
          repeat walk_at "y"
          exact ⟨_, rfl, rfl, fun _ => rfl, fun z => absurd z (by decide)⟩
        | false =>
          repeat walk_at "y"
          rcases h with ⟨t, b, rfl, _⟩ | ⟨_, _, k⟩ | ⟨h, _⟩ | ⟨h, _⟩
          · cases iv
          · exact y_mk1 fun dd hdd => k _ dd (fun b o e => upd_old hdd (s1 _ _ e)) (s1.free hdd) upd_same
          · rw [iv] at h; cases h
          · rw [iv] at h; cases h
      | 1, hj =>
        cases hj
        have i1 := g1 (by decide)
        repeat walk_at "y"
        have kd2 : KdV K H' v2 := by
          rcases h with ⟨t, b, _, rfl, _⟩ | ⟨_, h, _⟩ | ⟨_, h, _⟩ | ⟨_, rfl, _⟩
          · exact .int b
          · rw [i1] at h; cases h
          · exact h.same s1
          · exact .int 0
        refine ⟨_, rfl, kd2, ?_⟩
        cases iv : isIV v2 with
        | true =>
          repeat walk_at "y"
          exact ⟨_, rfl, rfl, fun _ => i1, fun _ => rfl⟩
        | false =>
          repeat walk_at "y"
          rcases h with ⟨t, b, _, rfl, _⟩ | ⟨_, h, _⟩ | ⟨_, _, _, k⟩ | ⟨_, rfl, _⟩
          · cases iv
          · rw [i1] at h; cases h
          · exact y_mk1 fun dd hdd => k _ dd (fun b o e => upd_old hdd (s1 _ _ e)) (s1.free hdd) upd_same
          · cases iv
    · rintro σ' H' ⟨y3, rfl, rfl, g1, g2⟩
      have i1 := g1 (Nat.le_of_ble_eq_true rfl)
      have i2 := g2 (Nat.le_of_ble_eq_true rfl)
      rcases h with ⟨t, b, rfl, rfl, b0, st, sb, k⟩ | ⟨_, h, _⟩ | ⟨_, _, h, _⟩ | ⟨_, rfl, k⟩
      · have bn : ¬ (V.int b = V.int 0) := fun z => b0 (by injection z)
        have gp : (0 : Int) < (Int.gcd t b : Int) := gpos b0
        have gl : Sz 8001 (Int.gcd t b : Int) := by
          have h1 := Int.gcd_le_natAbs_right t b0
          exact (show Sz 8000 (Int.gcd t b : Int) from Nat.lt_of_le_of_lt (by simpa using h1) sb).mono (by decide)
        have dv : ∀ i : Int, CDivW i (Int.gcd t b : Int) := fun i => wide_div gp gl (by decide) (by decide)
        have sg : ∀ z : Int, z = 1 ∨ z = -1 → CMulW z t := fun z hz => (show Sz 1 z by rcases hz with rfl | rfl <;> (unfold Sz; decide)).mulW st (by decide)
        have m1 := sg 1 (.inl rfl)
        have m2 := sg (-1) (.inr rfl)
        have d1 := dv (1 * t)
        have d2 := dv (-1 * t)
        have d3 := dv (if b < 0 then -b else b)
        have fin : ∀ (sg : Int) (u : HO), sg = sgn b → Q .non (upd (upd H' x u) x (.ins (CA K) dx [("top", .int (sg * t / (Int.gcd t b : Int))), ("bottom", .int (iabs b / (Int.gcd t b : Int)))])) := fun sg u e => by
          subst e
          refine k _ (fun a o n e => ?_) upd_same
          rw [upd_ne n, upd_ne n]; exact s1 _ _ e
        repeat walk_at "y"
        refine ⟨_, _, rfl, iabs_nn t, iabs_nn b, ?_⟩
        rw [show Int.gcd (if t < 0 then -t else t) (if b < 0 then -b else b) = Int.gcd t b from gcd_iabs t b]
        by_cases bp : b > 0
        · repeat walk_at "y"
          refine ⟨x, CA K, dx, _, rfl, hx1, A.oc.cls, A.nt, by decide, ?_⟩
          repeat walk_at "y"
          refine ⟨x, CA K, dx, _, rfl, upd_same, A.oc.cls, A.nb, Nat.le_of_ble_eq_true rfl, ?_⟩
          exact fin 1 _ (by unfold sgn; rw [if_pos bp])
        · repeat walk_at "y"
          refine ⟨x, CA K, dx, _, rfl, hx1, A.oc.cls, A.nt, by decide, ?_⟩
          repeat walk_at "y"
          refine ⟨x, CA K, dx, _, rfl, upd_same, A.oc.cls, A.nb, Nat.le_of_ble_eq_true rfl, ?_⟩
          exact fin (-1) _ (by unfold sgn; rw [if_neg bp])
      · rw [i1] at h; cases h
      · rw [i2] at h; cases h
      · repeat walk_at "y"
        exact k _ s1
end
end LW
set_option maxRecDepth 100000
namespace LW
open PySem PySem.Spec PyProof.Rows L2 OZ
local macro_rules | `(tactic| walk_at "ex") => `(tactic| first
  | assumption
  | (refine ExAt.same (by assumption) ?_; walk_at "ex"))
local macro_rules | `(tactic| walk_at "same") => `(tactic| first
  | assumption
  | exact same0
  | (refine Same.trans ?_ (by assumption); walk_at "same"))
local macro_rules | `(tactic| walk_at "free") => `(tactic| first
  | assumption
  | (refine sfree (by assumption) ?_; walk_at "free"))
local macro_rules | `(tactic| walk_at "hp") => `(tactic| first
  | assumption
  | exact upd_same
  | (refine sat (by assumption) ?_; walk_at "hp")
  | (refine upd_old ?_ ?_; (first | assumption | exact free_upd (by assumption)); walk_at "hp")
  | (refine upd_oth ?_ ?_; (first | assumption | exact Ne.symm (by assumption)); walk_at "hp"))
local macro_rules | `(tactic| walk_at "side") => `(tactic| first
  | assumption
  | decide
  | omega
  | exact ⟨by omega, by omega, by omega⟩
  | exact Or.inl ⟨by omega, by omega⟩
  | exact Or.inr ⟨by omega, by omega⟩
  | (show (_ : Int) ≠ 0; omega)
  | exact wide_div (b := 64) (by omega) (by omega) (by decide) (by decide)
  | exact wide_div (b := 4000) (by assumption) (by assumption) (by decide) (by decide))
local macro_rules | `(tactic| walk_at "y") => `(tactic| first
  | ((with_reducible refine y_var ?_); refine ⟨_, rfl, ?_⟩)
  | with_reducible refine y_c ?_
  | with_reducible refine y_op ?_
  | with_reducible refine y_cb ?_
  | with_reducible refine y_cons ?_
  | with_reducible refine y_nil ?_
  | with_reducible refine y_seq ?_
  | with_reducible refine y_asg ?_
  | with_reducible refine y_gn ?_
  | with_reducible refine y_gsub ?_
  | with_reducible refine y_ret ?_
  | with_reducible refine y_drop ?_
  | with_reducible refine y_next ?_
  | with_reducible refine y_ifS ?_
  | with_reducible refine y_test ?_
  | with_reducible refine y_B ?_
  | with_reducible refine y_ex ?_
  | with_reducible refine y_not ?_
  | with_reducible refine y_and ?_
  | with_reducible refine y_or ?_
  | with_reducible refine y_notV ?_
  | with_reducible refine y_andV ?_
  | with_reducible refine y_orV ?_
  | with_reducible refine y_ifE ?_
  | with_reducible refine y_un ?_
  | with_reducible refine y_par ?_
  | with_reducible refine y_ex2 ?_
  | with_reducible refine y_call ?_
  | with_reducible refine y_callS ?_
  | with_reducible refine y_I0 ?_
  | ((with_reducible refine y_I ?_ ?_); (walk_at "side"))
  | with_reducible refine y_U ?_
  | ((with_reducible refine y_eq ?_ ?_); (exact rfl))
  | ((with_reducible refine y_ne ?_ ?_); (exact rfl))
  | ((with_reducible refine' y_ixL ?k1 ?k2 ?k3); (case k1 => walk_at "hp"); (case k2 => exact rfl))
  | ((with_reducible refine' y_ixT ?k1 ?k2 ?k3); (case k1 => walk_at "hp"); (case k2 => exact rfl))
  | ((with_reducible refine' y_setL ?k1 ?k2 ?k3); (case k1 => walk_at "hp"); (case k2 => exact rfl))
  | with_reducible refine y_int ?_
  | with_reducible refine y_intB ?_
  | with_reducible refine y_abs ?_
  | ((with_reducible refine' y_lenL ?k1 ?k3); (case k1 => walk_at "hp"))
  | ((with_reducible refine' y_lenT ?k1 ?k3); (case k1 => walk_at "hp"))
  | ((with_reducible refine y_lenS ?_ ?_); (walk_at "side"))
  | with_reducible refine y_isN ?_
  | with_reducible refine y_notN ?_
  | ((with_reducible refine y_addS ?_ ?_); (walk_at "side"))
  | with_reducible refine y_inC ?_
  | with_reducible refine y_notInC ?_
  | with_reducible refine y_sl ?_
  | with_reducible refine y_part ?_
  | with_reducible refine y_nopart ?_
  | with_reducible refine y_exI ?_
  | ((with_reducible refine y_slS ?_ ?_); (walk_at "side"))
  | with_reducible refine z_lst ?_
  | with_reducible refine z_tup ?_
  | ((with_reducible refine z_newL ?_ ?_); (exact Nat.le_of_ble_eq_true rfl); (intro pp HH npp spp opp))
  | ((with_reducible refine z_newT ?_ ?_); (exact Nat.le_of_ble_eq_true rfl); (intro pp HH npp spp opp))
  | ((with_reducible refine' y_chI ?k1 ?k2); (case k1 => exact rfl))
  | with_reducible refine y_chain ?_
  | with_reducible refine y_yes ?_
  | with_reducible refine y_att ?_
  | ((with_reducible refine y_disp ?_ ?_); (exact Nat.le_of_ble_eq_true rfl); (intro pp hpp))
  | ((with_reducible refine' y_gtup ?k1 ?k2 ?k3); (case k1 => walk_at "hp"); (case k2 => exact rfl))
  | with_reducible refine y_gcons ?_
  | with_reducible refine y_gnil ?_
  | with_reducible refine y_mkO ?_
  | with_reducible refine y_callKw ?_
  | with_reducible refine y_fld ?_
  | with_reducible refine y_for ?_
  | with_reducible refine y_iList ?_
  | with_reducible refine y_iTup ?_
  | with_reducible refine y_iEnum ?_
  | ((with_reducible refine' y_itL ?k1 ?k2); (case k1 => walk_at "hp"))
  | ((with_reducible refine' y_itT ?k1 ?k2); (case k1 => walk_at "hp"))
  | ((with_reducible refine' y_itE ?k1 ?k2); (case k1 => walk_at "hp"))
  | with_reducible refine y_m0 ?_
  | ((with_reducible refine' z_slT ?k1 ?k2 ?k3); (case k1 => walk_at "hp"); (case k2 => decide); (intro pp HH npp spp opp))
  | with_reducible refine y_pp ?_
  | with_reducible refine y_pp0 ?_
  | with_reducible refine y_xv ?_
  | with_reducible refine y_xv0 ?_
  | with_reducible refine y_bm ?_
  | ((with_reducible refine' y_tyL ?k1 ?k2); (case k1 => walk_at "hp"))
  | ((with_reducible refine' y_app ?k1 ?k2 ?k3); (case k1 => walk_at "hp"); (case k2 => (first | exact Nat.le_of_ble_eq_true rfl | walk_at "side")))
  | ((with_reducible refine' z_cat ?k1 ?k2 ?k3 ?k4); (case k1 => walk_at "hp"); (case k2 => walk_at "hp"); (case k3 => (first | exact Nat.le_of_ble_eq_true rfl | walk_at "side")); (intro pp HH npp spp opp))
  | ((with_reducible refine' z_slL ?k1 ?k2); (case k1 => walk_at "hp"); (intro pp HH npp spp opp))
  | ((with_reducible refine' y_in ?k1 ?k2 ?k3 ?k4); (case k1 => walk_at "hp"); (case k2 => exact rfl); (case k3 => exact rfl))
  | with_reducible refine y_iteT ?_
  | with_reducible refine y_iteF ?_
  | with_reducible refine y_iteNT ?_
  | with_reducible refine y_iteNF ?_
  | ((with_reducible refine y_iteY ?_ ?_); (first | exact rfl | assumption | omega))
  | ((with_reducible refine y_iteX ?_ ?_); (first | focus (intro zz; cases zz; done) | assumption | omega))
  | ((with_reducible refine y_iteNY ?_ ?_); (first | exact rfl | assumption | omega))
  | ((with_reducible refine y_iteNX ?_ ?_); (first | focus (intro zz; cases zz; done) | assumption | omega))
  | ((with_reducible refine y_ite ?_ ?_) <;> intro hh)
  | ((with_reducible refine y_iteN ?_ ?_) <;> intro hh)
  | dsimp only)
section
variable {P : Program} {w : World} {K : PySem.W.Frag} {mg : Str → Option Value} {base : Heap}
def NewA (K : PySem.W.Frag) (v1 v2 : V) (H : Hp) (Q : VK) (E : XK) : Prop :=
  (∃ t b, v1 = .int t ∧ v2 = .int b ∧ b ≠ 0 ∧ Sz 8000 t ∧ Sz 8000 b ∧ ∀ a H', H a = none → Same H H' → AmtAt (CA K) H' a (lowT t b) (lowB t b) → Q (.ref a) H') ∨
  (KdV K H v1 ∧ isIV v1 = false ∧ OutB K H v1 E) ∨ (isIV v1 = true ∧ KdV K H v2 ∧ isIV v2 = false ∧ OutB K H v2 E) ∨ (isIV v1 = true ∧ v2 = .int 0 ∧ ∀ H', Same H H' → E (.ref (CN K)) none H')
theorem newA_init {v1 v2 : V} {H : Hp} {Q : VK} {E : XK} {x dx : Addr} (h : NewA K v1 v2 H Q E) (hx : H x = none) (hd : H dx = none) (hn : dx ≠ x) :
    spInit K [.ref x, v1, v2] (upd (upd H dx (.own x)) x (.ins (CA K) dx [])) (fun v H2 => v = .non ∧ Q (.ref x) H2) E := by
  have s0 : Same H (upd (upd H dx (.own x)) x (.ins (CA K) dx [])) := fun b o e => by
    rw [upd_ne (ne_of_none e hx)]; exact upd_old hd e
  refine ⟨x, dx, v1, v2, rfl, upd_same, ?_⟩
  have out : ∀ v, OutB K H v E → OutB K (upd (upd H dx (.own x)) x (.ins (CA K) dx [])) v E := fun v k H' dd s n e => k H' dd (s0.trans s) (s0.free n) e
  rcases h with ⟨t, b, e1, e2, b0, st, sb, k⟩ | ⟨k1, k2, k3⟩ | ⟨k1, k2, k3, k4⟩ | ⟨k1, k2, k3⟩
  · refine .inl ⟨t, b, e1, e2, b0, st, sb, fun H' hb he => ⟨rfl, k x H' hx (fun a o e => ?_) ⟨dx, he⟩⟩⟩
    exact hb a o (ne_of_none e hx) (s0 _ _ e)
  · exact .inr (.inl ⟨k1.same s0, k2, out _ k3⟩)
  · exact .inr (.inr (.inl ⟨k1, k2.same s0, k3, out _ k4⟩))
  · exact .inr (.inr (.inr ⟨k1, k2, fun H' s => k3 H' (s0.trans s)⟩))
def MkA (P : Program) (w : World) (K : PySem.W.Frag) (mg : Str → Option Value) (base : Heap) : Prop :=
  ∃ (f : Addr) (fd : FuncData), mg "Amount" = some (.ref (CA K)) ∧ Mk K (CA K) f ∧ FnOk P w K mg base (L2.CX P w) 3 f fd ["self", "top", "bottom"] (spInit K) ∧ Binds K fd ["self", "top", "bottom"] [] ∧ ∃ ds, Vals [.int 1] ds ∧ Binds K fd ["self", "top", "bottom"] ds
def tMkA (K : PySem.W.Frag) (E : XK) (t : TA) : TE := fun σ H Q => t σ H fun vs H1 => ∃ v1 v2, vs = [v1, v2] ∧ NewA K v1 v2 H1 Q E
def tMkA1 (K : PySem.W.Frag) (E : XK) (t : TA) : TE := fun σ H Q => t σ H fun vs H1 => ∃ v1, vs = [v1] ∧ NewA K v1 (.int 1) H1 Q E
section
variable {X : Cx} {E : XK} {e e2 : Expr} {t : TA} {p pos : Pos}
theorem run_mkA {pins : List (Addr × Obj)} {σ : L2.St} {H : Hp} {s : Shared} {Q : VK} {us : List Value} {vs : List V} (M : MkA X.prog X.w X.K X.mg X.base) (hr : Room 4 X.A) (hx : Passes (L2.CX X.prog X.w) X E) (I : Inv X pins σ H s) (r : Vals vs us)
    (h : (∃ v1 v2, vs = [v1, v2] ∧ NewA X.K v1 v2 H Q E) ∨ ∃ v1, vs = [v1] ∧ NewA X.K v1 (.int 1) H Q E) : wpAny (model X.prog X.w) X.A (call (.ref (CA X.K)) us) (EP X pins σ Q) X.xe s := by
  obtain ⟨f, fd, nm, mk, G, b1, ds, hd, b2⟩ := M
  rcases h with ⟨v1, v2, rfl, h⟩ | ⟨v1, rfl, h⟩
  · exact run_make mk G hr b1 .nil hx I r fun x dx h1 h2 h3 => newA_init h h1 h2 h3
  · exact run_make mk G hr b2 hd hx I r fun x dx h1 h2 h3 => newA_init h h1 h2 h3
theorem mkAE (M : MkA X.prog X.w X.K X.mg X.base) (hr : Room 4 X.A) (hx : Passes (L2.CX X.prog X.w) X E) (ha : PA X [e, e2] t) (hg : Gl X "Amount" := by rfl) (he : starEach [e, e2] X.env = (false, eval e X.env) :: starEach [e2] X.env := by rfl) (hpl : (backTo pos (starEach [e2] X.env)).any (·.1) = false := by rfl) :
    PE X (.Call (.Name "Amount" p) [e, e2] [] pos) (tMkA X.K E t) := by
  constructor
  intro pins s σ H Q I h
  apply wpAny_Call_Name_kw (ld_glob I hg M.choose_spec.choose_spec.1 ?_ (by decide))
  refine PySem.W.callWith_K (h₀ := X.base) I.ok.mod.kin M.choose_spec.choose_spec.2.1.kp (thn (ha.run pos pins s σ H _ I h) ?_) he hpl
  rintro us s1 ⟨vs, H1, I1, r, q⟩
  exact ⟨I1.kIn, run_mkA M hr hx I1 r (.inl q)⟩
theorem mkA1E (M : MkA X.prog X.w X.K X.mg X.base) (hr : Room 4 X.A) (hx : Passes (L2.CX X.prog X.w) X E) (ha : PA X [e] t) (hg : Gl X "Amount" := by rfl) (he : starEach [e] X.env = (false, eval e X.env) :: starEach [] X.env := by rfl) (hpl : (backTo pos (starEach [] X.env)).any (·.1) = false := by rfl) :
    PE X (.Call (.Name "Amount" p) [e] [] pos) (tMkA1 X.K E t) := by
  constructor
  intro pins s σ H Q I h
  apply wpAny_Call_Name_kw (ld_glob I hg M.choose_spec.choose_spec.1 ?_ (by decide))
  refine PySem.W.callWith_K (h₀ := X.base) I.ok.mod.kin M.choose_spec.choose_spec.2.1.kp (thn (ha.run pos pins s σ H _ I h) ?_) he hpl
  rintro us s1 ⟨vs, H1, I1, r, q⟩
  exact ⟨I1.kIn, run_mkA M hr hx I1 r (.inr q)⟩
theorem passT {E : XK} (tk : Takes X (fun cls d _ H => E cls d H)) : Passes (L2.CX X.prog X.w) X E := fun pins σ H s e s' I c => passAt tk σ pins H s e s' I c
theorem smL {k : Nat} {C : Addr} {m : Str} {ps : List Str} {sp : Sp} {o : Expr} {es : List Expr} {ta : TE} {apos : Pos} {pl : Sem Bool} (M : Stc X.prog X.w X.K X.mg X.base k C m ps sp) (hr : Room k X.A) (he : PE X o ta) (ha : PA X (e :: es) t) (hst : starEach (e :: es) X.env = (false, eval e X.env) :: starEach es X.env := by rfl) (hpl : (backTo pos (starEach es X.env)).any (·.1) = false := by rfl)
    (ht : eval (.Call (.Attribute o m apos) (e :: es) [] pos) X.env = (do
      let ov ← eval o X.env
      standAt apos.atName
      let (f, first) ← holding [ov] (getMethod ov m pl)
      callWith pos f first (backTo pos (starEach (e :: es) X.env)) (backToKw pos (keywordEach [] X.env))) := by rfl) : PE X (.Call (.Attribute o m apos) (e :: es) [] pos) (tSM C sp (fun _ => E0) ta t) :=
  pe_sm M hr (fun σ pins H s e s' I c => passL pins σ H s e s' I c) he ha hst hpl ht
theorem smX {W : WX} {k : Nat} {C : Addr} {m : Str} {ps : List Str} {sp : Sp} {o : Expr} {es : List Expr} {ta : TE} {apos : Pos} {pl : Sem Bool} (M : Stc X.prog X.w X.K X.mg X.base k C m ps sp) (hr : Room k X.A) (tk : Takes X W) (he : PE X o ta) (ha : PA X (e :: es) t) (hst : starEach (e :: es) X.env = (false, eval e X.env) :: starEach es X.env := by rfl) (hpl : (backTo pos (starEach es X.env)).any (·.1) = false := by rfl)
    (ht : eval (.Call (.Attribute o m apos) (e :: es) [] pos) X.env = (do
      let ov ← eval o X.env
      standAt apos.atName
      let (f, first) ← holding [ov] (getMethod ov m pl)
      callWith pos f first (backTo pos (starEach (e :: es) X.env)) (backToKw pos (keywordEach [] X.env))) := by rfl) : PE X (.Call (.Attribute o m apos) (e :: es) [] pos) (tSM C sp (WE W) ta t) :=
  pe_sm M hr (fun σ => passAt tk σ) he ha hst hpl ht
theorem y_sm {C : Addr} {sp : Sp} {E : L2.St → XK} {ta : TE} {σ : L2.St} {H : Hp} {Q : VK} (h : ta σ H fun x H1 => x = .ref C ∧ t σ H1 fun vs H2 => sp vs H2 Q (E σ)) : tSM C sp E ta t σ H Q := h
theorem y_rfl {α : Type} {a : α} {A : Prop} (h : A) : a = a ∧ A := ⟨rfl, h⟩
theorem am_same {C a : Addr} {H H' : Hp} {t b : Int} (s : Same H H') (h : AmtAt C H a t b) : AmtAt C H' a t b := h.same s
theorem num_same {C : Addr} {H H' : Hp} {v : V} {t b : Int} (s : Same H H') (h : NumAt C H v t b) : NumAt C H' v t b := h.same s
theorem y_atT {H : Hp} {Q : VK} {a : Addr} {t b : Int} (A : AmC K) (h : AmtAt (CA K) H a t b) (k : Q (.int t) H) : rAtt K "top" (.ref a) H Q := by
  obtain ⟨dx, h⟩ := h
  exact y_attI h A.oc.cls A.nt rfl k
theorem y_atB {H : Hp} {Q : VK} {a : Addr} {t b : Int} (A : AmC K) (h : AmtAt (CA K) H a t b) (k : Q (.int b) H) : rAtt K "bottom" (.ref a) H Q := by
  obtain ⟨dx, h⟩ := h
  exact y_attI h A.oc.cls A.nb rfl k
theorem y_nwA {H : Hp} {Q : VK} {E : XK} {t b : Int} (b0 : b ≠ 0) (st : Sz 8000 t) (sb : Sz 8000 b) (k : ∀ a H', H a = none → Same H H' → AmtAt (CA K) H' a (lowT t b) (lowB t b) → Q (.ref a) H') : NewA K (.int t) (.int b) H Q E := .inl ⟨t, b, rfl, rfl, b0, st, sb, k⟩
theorem y_nwA1 {H : Hp} {Q : VK} {E : XK} {t : Int} (st : Sz 8000 t) (k : ∀ a H', H a = none → Same H H' → AmtAt (CA K) H' a t 1 → Q (.ref a) H') : ∃ v1, [V.int t] = [v1] ∧ NewA K v1 (.int 1) H Q E := by
  refine ⟨_, rfl, .inl ⟨t, 1, rfl, rfl, by decide, st, (show Sz 1 1 by unfold Sz; decide).mono (by decide), fun a H' n s h => k a H' n s ?_⟩⟩
  have e := low_self (nf_int t)
  rw [e.1, e.2] at h; exact h
theorem y_mkA {σ : L2.St} {H : Hp} {Q : VK} (h : t σ H fun vs H1 => ∃ v1 v2, vs = [v1, v2] ∧ NewA K v1 v2 H1 Q E) : tMkA K E t σ H Q := h
theorem y_mkA1 {σ : L2.St} {H : Hp} {Q : VK} (h : t σ H fun vs H1 => ∃ v1, vs = [v1] ∧ NewA K v1 (.int 1) H1 Q E) : tMkA1 K E t σ H Q := h
end
end
end LW
set_option maxRecDepth 100000
namespace LW
open PySem PySem.Spec PyProof.Rows L2 OZ
section
variable {P : Program} {w : World} {K : PySem.W.Frag} {mg : Str → Option Value} {base : Heap}
theorem AmF.c (A : AmF K (CA K)) : AmC K := ⟨A.oc, A.na "top" (by decide), A.na "bottom" (by decide), A.ki, A.kb, A.ka, A.kt⟩
def OutN (K : PySem.W.Frag) (H : Hp) (E : XK) : Prop := ∀ H', Same H H' → E (.ref (CN K)) none H'
def spA2 (K : PySem.W.Frag) (g : Rat → Rat → Rat) : Sp := fun vs H Q E => ∃ (a : Addr) (y : V) (q : Rat), vs = [.ref a, y] ∧ AmQ (CA K) H a q ∧
  ((∃ r, NumQ (CA K) H y r ∧ SzQ 1800 q ∧ SzQ 1800 r ∧ ∀ z H', H z = none → Same H H' → AmQ (CA K) H' z (g q r) → Q (.ref z) H') ∨ (NoNum K H y ∧ OutB K H y E))
def spM2 (K : PySem.W.Frag) (g : Rat → Rat → Rat) : Sp := fun vs H Q _ => ∃ (a : Addr) (y : V) (q r : Rat), vs = [.ref a, y] ∧ AmQ (CA K) H a q ∧ NumQ (CA K) H y r ∧ SzQ 1800 q ∧ SzQ 1800 r ∧ ∀ z H', H z = none → Same H H' → AmQ (CA K) H' z (g q r) → Q (.ref z) H'
def spD2 (K : PySem.W.Frag) (D g : Rat → Rat → Rat) : Sp := fun vs H Q E => ∃ (a : Addr) (y : V) (q : Rat), vs = [.ref a, y] ∧ AmQ (CA K) H a q ∧
  ((∃ r, NumQ (CA K) H y r ∧ SzQ 1800 q ∧ SzQ 1800 r ∧ ((D q r ≠ 0 ∧ ∀ z H', H z = none → Same H H' → AmQ (CA K) H' z (g q r) → Q (.ref z) H') ∨ (D q r = 0 ∧ OutN K H E))) ∨ (NoNum K H y ∧ OutB K H y E))
def spE2 (K : PySem.W.Frag) (D g : Rat → Rat → Rat) : Sp := fun vs H Q E => ∃ (a : Addr) (y : V) (q r : Rat), vs = [.ref a, y] ∧ AmQ (CA K) H a q ∧ NumQ (CA K) H y r ∧ SzQ 1800 q ∧ SzQ 1800 r ∧ ((D q r ≠ 0 ∧ ∀ z H', H z = none → Same H H' → AmQ (CA K) H' z (g q r) → Q (.ref z) H') ∨ (D q r = 0 ∧ OutN K H E))
def spG2 (K : PySem.W.Frag) (D : Rat → Rat → Rat) (g : Rat → Rat → Int) : Sp := fun vs H Q E => ∃ (a : Addr) (y : V) (q r : Rat), vs = [.ref a, y] ∧ AmQ (CA K) H a q ∧ NumQ (CA K) H y r ∧ SzQ 1800 q ∧ SzQ 1800 r ∧ ((D q r ≠ 0 ∧ ∀ H', Same H H' → Q (.int (g q r)) H') ∨ (D q r = 0 ∧ OutN K H E))
def spF2 (K : PySem.W.Frag) (D : Rat → Rat → Rat) (g : Rat → Rat → Int) : Sp := fun vs H Q E => ∃ (a : Addr) (y : V) (q : Rat), vs = [.ref a, y] ∧ AmQ (CA K) H a q ∧
  ((∃ r, NumQ (CA K) H y r ∧ SzQ 1800 q ∧ SzQ 1800 r ∧ ((D q r ≠ 0 ∧ ∀ H', Same H H' → Q (.int (g q r)) H') ∨ (D q r = 0 ∧ OutN K H E))) ∨ (NoNum K H y ∧ OutB K H y E))
def spC2 (K : PySem.W.Frag) (g : Rat → Rat → Bool) : Sp := fun vs H Q E => ∃ (a : Addr) (y : V) (q : Rat), vs = [.ref a, y] ∧ AmQ (CA K) H a q ∧
  ((∃ r, NumQ (CA K) H y r ∧ SzQ 1800 q ∧ SzQ 1800 r ∧ ∀ H', Same H H' → Q (.bl (g q r)) H') ∨ (NoNum K H y ∧ OutB K H y E))
def spEq (K : PySem.W.Frag) : Sp := fun vs H Q _ => ∃ (a : Addr) (y : V) (q : Rat), vs = [.ref a, y] ∧ AmQ (CA K) H a q ∧
  ((∃ r, NumQ (CA K) H y r ∧ ∀ H', Same H H' → Q (.bl (decide (q = r))) H') ∨ (NoNum K H y ∧ ∀ H', Same H H' → Q (.bl false) H'))
def spA1 (K : PySem.W.Frag) (g : Rat → Rat) : Sp := fun vs H Q _ => ∃ (a : Addr) (q : Rat), vs = [.ref a] ∧ AmQ (CA K) H a q ∧ SzQ 1800 q ∧ ∀ z H', H z = none → Same H H' → AmQ (CA K) H' z (g q) → Q (.ref z) H'
def spBl (K : PySem.W.Frag) : Sp := fun vs H Q _ => ∃ (a : Addr) (q : Rat), vs = [.ref a] ∧ AmQ (CA K) H a q ∧ Q (.bl (decide (q ≠ 0))) H
def spWh (K : PySem.W.Frag) : Sp := fun vs H Q _ => ∃ (a : Addr) (q : Rat), vs = [.ref a] ∧ AmQ (CA K) H a q ∧ Q (.bl (decide ((q.den : Int) = 1))) H
def spIsN (K : PySem.W.Frag) : Sp := fun vs H Q _ => ∃ y : V, vs = [y] ∧ ((∃ r, NumQ (CA K) H y r ∧ Q (.bl true) H) ∨ (NoNum K H y ∧ Q (.bl false) H))
section
variable {H : Hp} {Q : VK} {E : XK} {a : Addr} {y : V} {q r : Rat} {i : Int} {g : Rat → Rat → Rat} {D : Rat → Rat → Rat} {σ : L2.St}
theorem sz_lit {i : Int} (h : i.natAbs < 2 ^ 64) : SzQ 64 (i : Rat) := SzQ.int h (by decide)
theorem sz_i64 {i : Int} {n : Nat} (h : i.natAbs < 2 ^ 64 ∧ 64 ≤ n) : Sz n i := (show Sz 64 i from h.1).mono h.2
theorem intq0 {i : Int} (h : i ≠ 0) : (i : Rat) ≠ 0 := fun z => h (Rat.intCast_eq_zero_iff.mp z)
theorem y_aqT (A : AmC K) (h : AmQ (CA K) H a q) (k : Q (.int q.num) H) : rAtt K "top" (.ref a) H Q := y_atT A h k
theorem y_aqB (A : AmC K) (h : AmQ (CA K) H a q) (k : Q (.int (q.den : Int)) H) : rAtt K "bottom" (.ref a) H Q := y_atB A h k
theorem y_bin (ha : AmQ (CA K) H a q) (hy : NumQ (CA K) H y r) (sq : SzQ 1800 q) (sr : SzQ 1800 r) (k : ∀ z H', H z = none → Same H H' → AmQ (CA K) H' z (g q r) → Q (.ref z) H') : rBin (CA K) (spA2 K g) E (.ref a) y H Q := by
  obtain ⟨dx, h⟩ := id ha
  exact ⟨a, dx, _, rfl, h, hy.rgt, a, y, q, rfl, ha, .inl ⟨r, hy, sq, sr, k⟩⟩
theorem y_rbin (ha : AmQ (CA K) H a q) (sq : SzQ 1800 q) (sr : SzQ 1800 (i : Rat)) (k : ∀ z H', H z = none → Same H H' → AmQ (CA K) H' z (g q (i : Rat)) → Q (.ref z) H') : rRBin (CA K) (spA2 K g) E (.int i) (.ref a) H Q := by
  obtain ⟨dx, h⟩ := id ha
  exact ⟨i, a, dx, _, rfl, rfl, h, a, _, q, rfl, ha, .inl ⟨_, .int, sq, sr, k⟩⟩
theorem y_binM (ha : AmQ (CA K) H a q) (hy : NumQ (CA K) H y r) (sq : SzQ 1800 q) (sr : SzQ 1800 r) (k : ∀ z H', H z = none → Same H H' → AmQ (CA K) H' z (g q r) → Q (.ref z) H') : rBin (CA K) (spM2 K g) E (.ref a) y H Q := by
  obtain ⟨dx, h⟩ := id ha
  exact ⟨a, dx, _, rfl, h, hy.rgt, a, y, q, r, rfl, ha, hy, sq, sr, k⟩
theorem y_rbinM (ha : AmQ (CA K) H a q) (sq : SzQ 1800 q) (sr : SzQ 1800 (i : Rat)) (k : ∀ z H', H z = none → Same H H' → AmQ (CA K) H' z (g q (i : Rat)) → Q (.ref z) H') : rRBin (CA K) (spM2 K g) E (.int i) (.ref a) H Q := by
  obtain ⟨dx, h⟩ := id ha
  exact ⟨i, a, dx, _, rfl, rfl, h, a, _, q, _, rfl, ha, .int, sq, sr, k⟩
theorem y_binD (ha : AmQ (CA K) H a q) (hy : NumQ (CA K) H y r) (sq : SzQ 1800 q) (sr : SzQ 1800 r) (d0 : D q r ≠ 0) (k : ∀ z H', H z = none → Same H H' → AmQ (CA K) H' z (g q r) → Q (.ref z) H') : rBin (CA K) (spE2 K D g) E (.ref a) y H Q := by
  obtain ⟨dx, h⟩ := id ha
  exact ⟨a, dx, _, rfl, h, hy.rgt, a, y, q, r, rfl, ha, hy, sq, sr, .inl ⟨d0, k⟩⟩
theorem y_rbinD (ha : AmQ (CA K) H a q) (sq : SzQ 1800 q) (sr : SzQ 1800 (i : Rat)) (d0 : D q (i : Rat) ≠ 0) (k : ∀ z H', H z = none → Same H H' → AmQ (CA K) H' z (g q (i : Rat)) → Q (.ref z) H') : rRBin (CA K) (spE2 K D g) E (.int i) (.ref a) H Q := by
  obtain ⟨dx, h⟩ := id ha
  exact ⟨i, a, dx, _, rfl, rfl, h, a, _, q, _, rfl, ha, .int, sq, sr, .inl ⟨d0, k⟩⟩
theorem y_binF {g : Rat → Rat → Int} (ha : AmQ (CA K) H a q) (hy : NumQ (CA K) H y r) (sq : SzQ 1800 q) (sr : SzQ 1800 r) (d0 : D q r ≠ 0) (k : ∀ H', Same H H' → Q (.int (g q r)) H') : rBin (CA K) (spF2 K D g) E (.ref a) y H Q := by
  obtain ⟨dx, h⟩ := id ha
  exact ⟨a, dx, _, rfl, h, hy.rgt, a, y, q, rfl, ha, .inl ⟨r, hy, sq, sr, .inl ⟨d0, k⟩⟩⟩
theorem y_rbinF {g : Rat → Rat → Int} (ha : AmQ (CA K) H a q) (sq : SzQ 1800 q) (sr : SzQ 1800 (i : Rat)) (d0 : D q (i : Rat) ≠ 0) (k : ∀ H', Same H H' → Q (.int (g q (i : Rat))) H') : rRBin (CA K) (spG2 K D g) E (.int i) (.ref a) H Q := by
  obtain ⟨dx, h⟩ := id ha
  exact ⟨i, a, dx, _, rfl, rfl, h, a, _, q, _, rfl, ha, .int, sq, sr, .inl ⟨d0, k⟩⟩
theorem nf_num (A : AmF K (CA K)) (hy : NumQ (CA K) H y r) : ∃ t, TyX K H y t ∧ PySem.W.notFirst K (CA K) t = true := by
  rcases hy with ⟨i, rfl, _⟩ | ⟨b, rfl, dx, h⟩
  · exact ⟨_, .base (.int i), A.nf "int" (by decide)⟩
  · exact ⟨_, A.oc.ty h, A.nfC⟩
theorem y_cmp {g : Rat → Rat → Bool} {K2 : PySem.W.Frag} (hK : K2 = K) (A : AmF K (CA K)) (ha : AmQ (CA K) H a q) (hy : NumQ (CA K) H y r) (sq : SzQ 1800 q) (sr : SzQ 1800 r) (k : ∀ H', Same H H' → Q (.bl (g q r)) H') : rCmp K2 (CA K) (spC2 K g) E (.ref a) y H Q := by
  subst hK
  obtain ⟨dx, h⟩ := id ha
  obtain ⟨t, ty, nf⟩ := nf_num A hy
  exact ⟨a, dx, _, t, rfl, h, ty, nf, a, y, q, rfl, ha, .inl ⟨r, hy, sq, sr, k⟩⟩
theorem y_rcmp {g : Rat → Rat → Bool} (ha : AmQ (CA K) H a q) (sq : SzQ 1800 q) (sr : SzQ 1800 (i : Rat)) (k : ∀ H', Same H H' → Q (.bl (g q (i : Rat))) H') : rRCmp (CA K) (spC2 K g) E (.int i) (.ref a) H Q := by
  obtain ⟨dx, h⟩ := id ha
  exact ⟨i, a, dx, _, rfl, rfl, h, a, _, q, rfl, ha, .inl ⟨_, .int, sq, sr, k⟩⟩
theorem y_ceq {K2 : PySem.W.Frag} (hK : K2 = K) (A : AmF K (CA K)) (ha : AmQ (CA K) H a q) (hy : NumQ (CA K) H y r) (k : ∀ H', Same H H' → Q (.bl (decide (q = r))) H') : rCmp K2 (CA K) (spEq K) E (.ref a) y H Q := by
  subst hK
  obtain ⟨dx, h⟩ := id ha
  obtain ⟨t, ty, nf⟩ := nf_num A hy
  exact ⟨a, dx, _, t, rfl, h, ty, nf, a, y, q, rfl, ha, .inl ⟨r, hy, k⟩⟩
theorem y_req (ha : AmQ (CA K) H a q) (k : ∀ H', Same H H' → Q (.bl (decide (q = (i : Rat)))) H') : rRCmp (CA K) (spEq K) E (.int i) (.ref a) H Q := by
  obtain ⟨dx, h⟩ := id ha
  exact ⟨i, a, dx, _, rfl, rfl, h, a, _, q, rfl, ha, .inl ⟨_, .int, k⟩⟩
theorem y_cne {K2 : PySem.W.Frag} (hK : K2 = K) (A : AmF K (CA K)) (ha : AmQ (CA K) H a q) (hy : NumQ (CA K) H y r) (k : ∀ H', Same H H' → Q (.bl (!decide (q = r))) H') : rNeOwn K2 (CA K) (spEq K) E (.ref a) y H Q := by
  subst hK
  obtain ⟨dx, h⟩ := id ha
  obtain ⟨t, ty, nf⟩ := nf_num A hy
  exact ⟨a, dx, _, t, rfl, h, ty, nf, a, y, q, rfl, ha, .inl ⟨r, hy, fun H' s => ⟨_, rfl, k H' s⟩⟩⟩
theorem y_un1 {g : Rat → Rat} (ha : AmQ (CA K) H a q) (sq : SzQ 1800 q) (k : ∀ z H', H z = none → Same H H' → AmQ (CA K) H' z (g q) → Q (.ref z) H') : rUn (CA K) (spA1 K g) E (.ref a) H Q := by
  obtain ⟨dx, h⟩ := id ha
  exact ⟨a, dx, _, rfl, h, a, q, rfl, ha, sq, k⟩
theorem y_absO {g : Rat → Rat} (ha : AmQ (CA K) H a q) (sq : SzQ 1800 q) (k : ∀ z H', H z = none → Same H H' → AmQ (CA K) H' z (g q) → Q (.ref z) H') : rUn1 (CA K) (spA1 K g) E [.ref a] H Q := by
  obtain ⟨dx, h⟩ := id ha
  exact ⟨a, dx, _, rfl, h, a, q, rfl, ha, sq, k⟩
theorem y_truA {Q : Bool → Hp → Prop} (ha : AmQ (CA K) H a q) (k : Q (decide (q ≠ 0)) H) : rTru (CA K) (spBl K) E (.ref a) H Q := by
  obtain ⟨dx, h⟩ := id ha
  exact ⟨a, dx, _, rfl, h, a, q, rfl, ha, _, rfl, k⟩
theorem y_boolA (ha : AmQ (CA K) H a q) (k : Q (.bl (decide (q ≠ 0))) H) : rBoolO (CA K) (spBl K) E [.ref a] H Q := by
  obtain ⟨dx, h⟩ := id ha
  exact ⟨a, dx, _, rfl, h, a, q, rfl, ha, _, rfl, k⟩
theorem y_meth {m : Str} {sp : Sp} {ta : TE} {t : TA} (h : ta σ H fun x H1 => ∃ a dx fs, x = .ref a ∧ H1 a = some (.ins (CA K) dx fs) ∧ fs.lookup m = none ∧ t σ H1 fun vs H2 => sp (x :: (vs ++ [])) H2 Q E) : tMeth (CA K) m sp [] E ta t σ H Q := h
theorem y_methX {R : Prop} (ha : AmQ (CA K) H a q) (h : R) : ∃ a' dx fs, V.ref a = .ref a' ∧ H a' = some (.ins (CA K) dx fs) ∧ fs.lookup ("over" : Str) = none ∧ R := by
  obtain ⟨dx, e⟩ := ha
  exact ⟨a, dx, _, rfl, e, rfl, h⟩
theorem y_over (ha : AmQ (CA K) H a q) (hy : NumQ (CA K) H y r) (sq : SzQ 1800 q) (sr : SzQ 1800 r) (d0 : D q r ≠ 0) (k : ∀ z H', H z = none → Same H H' → AmQ (CA K) H' z (g q r) → Q (.ref z) H') : spD2 K D g (.ref a :: ([y] ++ [])) H Q E :=
  ⟨a, y, q, rfl, ha, .inl ⟨r, hy, sq, sr, .inl ⟨d0, k⟩⟩⟩
theorem y_aug {i : Nat} {te : TE} {ti : TIp} {D : Ends} (h : ∃ x, σ[i]? = some (some x) ∧ te σ H fun y H1 => ti x y H1 fun z H2 => D.nx (σ.set i (some z)) H2) : tAug i te ti D σ H := h
theorem y_nwI {t b : Int} (b0 : b ≠ 0) (st : Sz 8000 t) (sb : Sz 8000 b) (k : ∀ a H', H a = none → Same H H' → AmQ (CA K) H' a (divq t b) → Q (.ref a) H') : NewA K (.int t) (.int b) H Q E :=
  .inl ⟨t, b, rfl, rfl, b0, st, sb, fun a H' n s h => k a H' n s (amq_of h b0 rfl)⟩
theorem y_nwI1 {t : Int} (st : Sz 8000 t) (k : ∀ a H', H a = none → Same H H' → AmQ (CA K) H' a (t : Rat) → Q (.ref a) H') : ∃ v1, [V.int t] = [v1] ∧ NewA K v1 (.int 1) H Q E :=
  y_nwA1 st fun a H' n s h => k a H' n s h
end
end
end LW
set_option maxRecDepth 100000
namespace LW
open PySem PySem.Spec PyProof.Rows L2 OZ
local macro_rules | `(tactic| walk_at "aq") => `(tactic| first
  | assumption
  | (refine' AmQ.same ?aqs ?aqk; (case aqs => assumption); (case aqk => walk_at "aq")))
local macro_rules | `(tactic| walk_at "nq") => `(tactic| first
  | assumption
  | exact NumQ.int
  | (refine' NumQ.am ?nqk; (case nqk => walk_at "aq"))
  | (refine' NumQ.same ?nqs ?nqk; (case nqs => assumption); (case nqk => walk_at "nq")))
local macro_rules | `(tactic| walk_at "sz1") => `(tactic| first
  | with_reducible assumption
  | (refine' SzQ.add ?sx ?sy; (case sx => walk_at "sz1"); (case sy => walk_at "sz1"))
  | (refine' SzQ.sub ?sx ?sy; (case sx => walk_at "sz1"); (case sy => walk_at "sz1"))
  | (refine' SzQ.mul ?sx ?sy; (case sx => walk_at "sz1"); (case sy => walk_at "sz1"))
  | (refine' SzQ.div ?sx ?sy ?sz; (case sz => assumption); (case sx => walk_at "sz1"); (case sy => walk_at "sz1"))
  | (refine' SzQ.rmod ?sx ?sy ?sz; (case sz => assumption); (case sx => walk_at "sz1"); (case sy => walk_at "sz1"))
  | (refine' SzQ.neg ?sx; (case sx => walk_at "sz1"))
  | (refine' SzQ.qabs ?sx; (case sx => walk_at "sz1"))
  | (refine' SzQ.int ?sx ?sy; (case sx => with_reducible assumption); (case sy => exact Nat.le_of_ble_eq_true rfl))
  | exact sz_lit (by decide))
local macro_rules | `(tactic| walk_at "sz") => `(tactic| (refine' SzQ.mono ?szk ?szl; (case szk => walk_at "sz1"); (case szl => exact Nat.le_of_ble_eq_true rfl)))
local macro_rules | `(tactic| walk_at "nz") => `(tactic| first
  | assumption
  | decide
  | omega
  | exact intq0 (by decide))
local macro_rules | `(tactic| walk_at "szi") => `(tactic| first
  | assumption
  | exact Sz.mono (by with_reducible assumption) (Nat.le_of_ble_eq_true rfl)
  | exact sz_i64 (by decide))
local macro_rules | `(tactic| walk_at "ex") => `(tactic| first
  | assumption
  | (refine ExAt.same (by assumption) ?_; walk_at "ex"))
local macro_rules | `(tactic| walk_at "same") => `(tactic| first
  | assumption
  | exact same0
  | (refine Same.trans ?_ (by assumption); walk_at "same"))
local macro_rules | `(tactic| walk_at "free") => `(tactic| first
  | assumption
  | (refine sfree (by assumption) ?_; walk_at "free"))
local macro_rules | `(tactic| walk_at "hp") => `(tactic| first
  | assumption
  | exact upd_same
  | (refine sat (by assumption) ?_; walk_at "hp")
  | (refine upd_old ?_ ?_; (first | assumption | exact free_upd (by assumption)); walk_at "hp")
  | (refine upd_oth ?_ ?_; (first | assumption | exact Ne.symm (by assumption)); walk_at "hp"))
local macro_rules | `(tactic| walk_at "side") => `(tactic| first
  | assumption
  | decide
  | omega
  | exact ⟨by omega, by omega, by omega⟩
  | exact Or.inl ⟨by omega, by omega⟩
  | exact Or.inr ⟨by omega, by omega⟩
  | (show (_ : Int) ≠ 0; omega)
  | exact wide_div (b := 64) (by omega) (by omega) (by decide) (by decide)
  | exact wide_div (b := 4000) (by assumption) (by assumption) (by decide) (by decide))
local macro_rules | `(tactic| walk_at "y") => `(tactic| first
  | ((with_reducible refine y_var ?_); refine ⟨_, rfl, ?_⟩)
  | with_reducible refine y_c ?_
  | with_reducible refine y_op ?_
  | with_reducible refine y_cb ?_
  | with_reducible refine y_cons ?_
  | with_reducible refine y_nil ?_
  | with_reducible refine y_seq ?_
  | with_reducible refine y_asg ?_
  | with_reducible refine y_gn ?_
  | with_reducible refine y_gsub ?_
  | with_reducible refine y_ret ?_
  | with_reducible refine y_drop ?_
  | with_reducible refine y_next ?_
  | with_reducible refine y_ifS ?_
  | with_reducible refine y_test ?_
  | with_reducible refine y_B ?_
  | with_reducible refine y_ex ?_
  | with_reducible refine y_not ?_
  | with_reducible refine y_and ?_
  | with_reducible refine y_or ?_
  | with_reducible refine y_notV ?_
  | with_reducible refine y_andV ?_
  | with_reducible refine y_orV ?_
  | with_reducible refine y_ifE ?_
  | with_reducible refine y_un ?_
  | with_reducible refine y_par ?_
  | with_reducible refine y_ex2 ?_
  | with_reducible refine y_call ?_
  | with_reducible refine y_callS ?_
  | with_reducible refine y_I0 ?_
  | ((with_reducible refine y_I ?_ ?_); (walk_at "side"))
  | with_reducible refine y_U ?_
  | ((with_reducible refine y_eq ?_ ?_); (exact rfl))
  | ((with_reducible refine y_ne ?_ ?_); (exact rfl))
  | ((with_reducible refine' y_ixL ?k1 ?k2 ?k3); (case k1 => walk_at "hp"); (case k2 => (first | assumption | exact rfl)))
  | ((with_reducible refine' y_ixT ?k1 ?k2 ?k3); (case k1 => walk_at "hp"); (case k2 => (first | assumption | exact rfl)))
  | ((with_reducible refine' y_setL ?k1 ?k2 ?k3); (case k1 => walk_at "hp"); (case k2 => (first | assumption | exact rfl)))
  | with_reducible refine y_int ?_
  | with_reducible refine y_intB ?_
  | with_reducible refine y_abs ?_
  | ((with_reducible refine' y_lenL ?k1 ?k3); (case k1 => walk_at "hp"))
  | ((with_reducible refine' y_lenT ?k1 ?k3); (case k1 => walk_at "hp"))
  | ((with_reducible refine y_lenS ?_ ?_); (walk_at "side"))
  | with_reducible refine y_isN ?_
  | with_reducible refine y_notN ?_
  | ((with_reducible refine y_addS ?_ ?_); (walk_at "side"))
  | with_reducible refine y_inC ?_
  | with_reducible refine y_notInC ?_
  | with_reducible refine y_sl ?_
  | with_reducible refine y_part ?_
  | with_reducible refine y_nopart ?_
  | with_reducible refine y_exI ?_
  | ((with_reducible refine y_slS ?_ ?_); (walk_at "side"))
  | with_reducible refine z_lst ?_
  | with_reducible refine z_tup ?_
  | ((with_reducible refine z_newL ?_ ?_); (exact Nat.le_of_ble_eq_true rfl); (intro pp HH npp spp opp))
  | ((with_reducible refine z_newT ?_ ?_); (exact Nat.le_of_ble_eq_true rfl); (intro pp HH npp spp opp))
  | ((with_reducible refine' y_chI ?k1 ?k2); (case k1 => exact rfl))
  | with_reducible refine y_chain ?_
  | with_reducible refine y_yes ?_
  | with_reducible refine y_att ?_
  | ((with_reducible refine y_disp ?_ ?_); (exact Nat.le_of_ble_eq_true rfl); (intro pp hpp))
  | ((with_reducible refine' y_gtup ?k1 ?k2 ?k3); (case k1 => walk_at "hp"); (case k2 => exact rfl))
  | with_reducible refine y_gcons ?_
  | with_reducible refine y_gnil ?_
  | with_reducible refine y_mkO ?_
  | with_reducible refine y_callKw ?_
  | with_reducible refine y_mkA ?_
  | with_reducible refine y_sm ?_
  | ((with_reducible refine z_rev (by decide) (by walk_at "hp") ?_); (intro pp HH npp spp opp))
  | with_reducible refine y_rfl ?_
  | with_reducible refine y_mkA1 ?_
  | ((with_reducible refine' y_aqT ?k0 ?k1 ?k2); (case k0 => assumption); (case k1 => walk_at "aq"))
  | ((with_reducible refine' y_aqB ?k0 ?k1 ?k2); (case k0 => assumption); (case k1 => walk_at "aq"))
  | ((with_reducible refine' y_bin ?k1 ?k2 ?k3 ?k4 ?k5); (case k1 => walk_at "aq"); (case k2 => walk_at "nq"); (case k3 => walk_at "sz"); (case k4 => walk_at "sz"); (intro pp HH npp spp opp))
  | ((with_reducible refine' y_rbin ?k1 ?k3 ?k4 ?k5); (case k1 => walk_at "aq"); (case k3 => walk_at "sz"); (case k4 => walk_at "sz"); (intro pp HH npp spp opp))
  | ((with_reducible refine' y_binM ?k1 ?k2 ?k3 ?k4 ?k5); (case k1 => walk_at "aq"); (case k2 => walk_at "nq"); (case k3 => walk_at "sz"); (case k4 => walk_at "sz"); (intro pp HH npp spp opp))
  | ((with_reducible refine' y_rbinM ?k1 ?k3 ?k4 ?k5); (case k1 => walk_at "aq"); (case k3 => walk_at "sz"); (case k4 => walk_at "sz"); (intro pp HH npp spp opp))
  | ((with_reducible refine' y_binD ?k1 ?k2 ?k3 ?k4 ?k5 ?k6); (case k1 => walk_at "aq"); (case k2 => walk_at "nq"); (case k3 => walk_at "sz"); (case k4 => walk_at "sz"); (case k5 => walk_at "nz"); (intro pp HH npp spp opp))
  | ((with_reducible refine' y_rbinD ?k1 ?k3 ?k4 ?k5 ?k6); (case k1 => walk_at "aq"); (case k3 => walk_at "sz"); (case k4 => walk_at "sz"); (case k5 => walk_at "nz"); (intro pp HH npp spp opp))
  | ((with_reducible refine' y_binF ?k1 ?k2 ?k3 ?k4 ?k5 ?k6); (case k1 => walk_at "aq"); (case k2 => walk_at "nq"); (case k3 => walk_at "sz"); (case k4 => walk_at "sz"); (case k5 => walk_at "nz"); (intro HH spp))
  | ((with_reducible refine' y_rbinF ?k1 ?k3 ?k4 ?k5 ?k6); (case k1 => walk_at "aq"); (case k3 => walk_at "sz"); (case k4 => walk_at "sz"); (case k5 => walk_at "nz"); (intro HH spp))
  | ((with_reducible refine' y_cmp ?kK ?k0 ?k1 ?k2 ?k3 ?k4 ?k5); (case kK => exact rfl); (case k0 => assumption); (case k1 => walk_at "aq"); (case k2 => walk_at "nq"); (case k3 => walk_at "sz"); (case k4 => walk_at "sz"); (intro HH spp))
  | ((with_reducible refine' y_rcmp ?k1 ?k3 ?k4 ?k5); (case k1 => walk_at "aq"); (case k3 => walk_at "sz"); (case k4 => walk_at "sz"); (intro HH spp))
  | ((with_reducible refine' y_ceq ?kK ?k0 ?k1 ?k2 ?k5); (case kK => exact rfl); (case k0 => assumption); (case k1 => walk_at "aq"); (case k2 => walk_at "nq"); (intro HH spp))
  | ((with_reducible refine' y_req ?k1 ?k5); (case k1 => walk_at "aq"); (intro HH spp))
  | ((with_reducible refine' y_cne ?kK ?k0 ?k1 ?k2 ?k5); (case kK => exact rfl); (case k0 => assumption); (case k1 => walk_at "aq"); (case k2 => walk_at "nq"); (intro HH spp))
  | ((with_reducible refine' y_un1 ?k1 ?k3 ?k5); (case k1 => walk_at "aq"); (case k3 => walk_at "sz"); (intro pp HH npp spp opp))
  | ((with_reducible refine' y_absO ?k1 ?k3 ?k5); (case k1 => walk_at "aq"); (case k3 => walk_at "sz"); (intro pp HH npp spp opp))
  | ((with_reducible refine' y_truA ?k1 ?k5); (case k1 => walk_at "aq"))
  | ((with_reducible refine' y_boolA ?k1 ?k5); (case k1 => walk_at "aq"))
  | with_reducible refine y_meth ?_
  | ((with_reducible refine' y_methX ?k1 ?k2); (case k1 => walk_at "aq"))
  | ((with_reducible refine' y_over ?k1 ?k2 ?k3 ?k4 ?k5 ?k6); (case k1 => walk_at "aq"); (case k2 => walk_at "nq"); (case k3 => walk_at "sz"); (case k4 => walk_at "sz"); (case k5 => walk_at "nz"); (intro pp HH npp spp opp))
  | ((with_reducible refine y_aug ?_); refine ⟨_, rfl, ?_⟩)
  | ((with_reducible refine' y_nwI ?k1 ?k2 ?k3 ?k4); (case k1 => walk_at "nz"); (case k2 => walk_at "szi"); (case k3 => walk_at "szi"); (intro pp HH npp spp opp))
  | ((with_reducible refine' y_nwI1 ?k2 ?k4); (case k2 => walk_at "szi"); (intro pp HH npp spp opp))
  | with_reducible refine y_fld ?_
  | with_reducible refine y_for ?_
  | with_reducible refine y_iRng1 ?_
  | with_reducible refine y_iRng2 ?_
  | ((with_reducible refine y_rgF1 ?_ ?_); (first | decide | omega))
  | ((with_reducible refine y_rgL1 ?_ ?_); (first | decide | omega))
  | ((with_reducible refine y_rgF2 ?_ ?_); (first | decide | omega))
  | ((with_reducible refine y_rgL2 ?_ ?_); (first | decide | omega))
  | with_reducible refine y_lc ?_
  | with_reducible refine y_rev ?_
  | ((with_reducible refine' y_glst ?k1 ?k2 ?k3); (case k1 => walk_at "hp"); (case k2 => exact rfl))
  | with_reducible refine y_iList ?_
  | with_reducible refine y_iTup ?_
  | with_reducible refine y_iEnum ?_
  | ((with_reducible refine' y_itL ?k1 ?k2); (case k1 => walk_at "hp"))
  | ((with_reducible refine' y_itT ?k1 ?k2); (case k1 => walk_at "hp"))
  | ((with_reducible refine' y_itE ?k1 ?k2); (case k1 => walk_at "hp"))
  | with_reducible refine y_m0 ?_
  | ((with_reducible refine' z_slT ?k1 ?k2 ?k3); (case k1 => walk_at "hp"); (case k2 => decide); (intro pp HH npp spp opp))
  | with_reducible refine y_pp ?_
  | with_reducible refine y_pp0 ?_
  | with_reducible refine y_xv ?_
  | with_reducible refine y_xv0 ?_
  | with_reducible refine y_bm ?_
  | ((with_reducible refine' y_tyL ?k1 ?k2); (case k1 => walk_at "hp"))
  | ((with_reducible refine' y_app ?k1 ?k2 ?k3); (case k1 => walk_at "hp"); (case k2 => (first | exact Nat.le_of_ble_eq_true rfl | walk_at "side")))
  | ((with_reducible refine' z_cat ?k1 ?k2 ?k3 ?k4); (case k1 => walk_at "hp"); (case k2 => walk_at "hp"); (case k3 => (first | exact Nat.le_of_ble_eq_true rfl | walk_at "side")); (intro pp HH npp spp opp))
  | ((with_reducible refine' z_slL ?k1 ?k2); (case k1 => walk_at "hp"); (intro pp HH npp spp opp))
  | ((with_reducible refine' y_in ?k1 ?k2 ?k3 ?k4); (case k1 => walk_at "hp"); (case k2 => exact rfl); (case k3 => exact rfl))
  | with_reducible refine y_iteT ?_
  | with_reducible refine y_iteF ?_
  | with_reducible refine y_iteNT ?_
  | with_reducible refine y_iteNF ?_
  | ((with_reducible refine y_iteY ?_ ?_); (first | exact rfl | assumption | omega))
  | ((with_reducible refine y_iteX ?_ ?_); (first | focus (intro zz; cases zz; done) | assumption | omega))
  | ((with_reducible refine y_iteNY ?_ ?_); (first | exact rfl | assumption | omega))
  | ((with_reducible refine y_iteNX ?_ ?_); (first | focus (intro zz; cases zz; done) | assumption | omega))
  | ((with_reducible refine y_ite ?_ ?_) <;> intro hh)
  | ((with_reducible refine y_iteN ?_ ?_) <;> intro hh)
  | dsimp only)
section
variable {P : Program} {w : World} {K : PySem.W.Frag} {mg : Str → Option Value} {base : Heap}
abbrev FH (P : Program) (w : World) (K : PySem.W.Frag) (mg : Str → Option Value) (base : Heap) : Prop := Fnc P w K mg base 3 "halves" ["number"] (spHalves K)
theorem y_halv {H : Hp} {Q : VK} {E : XK} {y : V} {r : Rat} (hy : NumQ (CA K) H y r) (k : ∀ q H', H q = none → Same H H' → H' q = some (.tup [.int r.num, .int (r.den : Int)]) → Q (.ref q) H') : spHalves K [y] H Q E := ⟨y, rfl, .inl ⟨_, _, hy.at, k⟩⟩
theorem den_pos' (q : Rat) : (0 : Int) < (q.den : Int) := Int.ofNat_lt.mpr q.den_pos
abbrev s_add : Stmt := inClass (topS 24) 7
theorem sc_add : FnScope ["self", "other", "top", "bottom"] ["self", "other"] (defScope s_add) := ⟨rfl, rfl, rfl, by decide +kernel, rfl, by decide +kernel, by decide +kernel⟩
theorem ok_add {f : Addr} {fd : FuncData} (F : FunD K "__add__" "Amount.__add__" (defArgs s_add) (defBody s_add) (defScope s_add) [] [] f fd) (AF : AmF K (CA K)) (T : TopA K mg) (Fhalves : FH P w K mg base) (MA : MkA P w K mg base) :
    FnOk P w K mg base (L2.CX P w) 5 f fd ["self", "other"] (spA2 K fun q r => q + r) := by
  have nd := sc_add.nd
  have A := AmF.c AF
  refine F.ok sc_add (fun vs H Q E h => ?_) (fun cdv A' outer s H vs Q E hr h => ?_)
  · obtain ⟨a, y, q, rfl, _⟩ := h
    rfl
  · obtain ⟨a, y, q, rfl, ha, h⟩ := h
    refine ⟨_, (pss_cons (ps_asg (ocX Fhalves (hr.mono (by decide)) (takes_of rfl rfl rfl rfl) (pa_cons (pv 1) pa_nil)) (pg_tup rfl (pgs_cons (pg_name (i := 2) nd rfl (Or.inl rfl)) (pgs_cons (pg_name (i := 3) nd rfl (Or.inl rfl)) pgs_nil))))
      (pss_one (ps_ret (mkAE MA (hr.mono (by decide)) (passT (takes_of rfl rfl rfl rfl)) (pa_cons (pe_op op_add (pe_op op_mulW (pe_att (pv 0)) (pv 3)) (pe_op op_mulW (pv 2) (pe_att (pv 0)))) (pa_cons (pe_op op_mulW (pe_att (pv 0)) (pv 3)) pa_nil)))))), ?_⟩
    repeat walk_at "y"
    rcases h with ⟨r, hy, sq, sr, k⟩ | ⟨hn, k⟩
    · refine y_halv hy fun q1 H1 n1 s1 o1 => ?_
      have c1 := sq.1.mulW sr.2 (by decide)
      have c2 := sr.1.mulW sq.2 (by decide)
      have c3 := sq.2.mulW sr.2 (by decide)
      have c4 := sq.1.mulW sr.1 (by decide)
      have c5 := sq.2.mulW sr.1 (by decide)
      repeat walk_at "y"
      refine y_nwA (dens_ne q r) (((sq.1.mul sr.2).add (sr.1.mul sq.2)).mono (by decide)) ((sq.2.mul sr.2).mono (by decide)) fun z H2 nz s2 h2 => ?_
      exact k z H2 (s1.free nz) (s1.trans s2) (amq_of h2 (dens_ne q r) (q_add q r))
    · exact ⟨_, rfl, .inr ⟨hn, fun H' dd s n e => k H' dd s n e⟩⟩
abbrev s_sub : Stmt := inClass (topS 24) 9
theorem sc_sub : FnScope ["self", "other", "top", "bottom"] ["self", "other"] (defScope s_sub) := ⟨rfl, rfl, rfl, by decide +kernel, rfl, by decide +kernel, by decide +kernel⟩
theorem ok_sub {f : Addr} {fd : FuncData} (F : FunD K "__sub__" "Amount.__sub__" (defArgs s_sub) (defBody s_sub) (defScope s_sub) [] [] f fd) (AF : AmF K (CA K)) (T : TopA K mg) (Fhalves : FH P w K mg base) (MA : MkA P w K mg base) :
    FnOk P w K mg base (L2.CX P w) 5 f fd ["self", "other"] (spA2 K fun q r => q - r) := by
  have nd := sc_sub.nd
  have A := AmF.c AF
  refine F.ok sc_sub (fun vs H Q E h => ?_) (fun cdv A' outer s H vs Q E hr h => ?_)
  · obtain ⟨a, y, q, rfl, _⟩ := h
    rfl
  · obtain ⟨a, y, q, rfl, ha, h⟩ := h
    refine ⟨_, (pss_cons (ps_asg (ocX Fhalves (hr.mono (by decide)) (takes_of rfl rfl rfl rfl) (pa_cons (pv 1) pa_nil)) (pg_tup rfl (pgs_cons (pg_name (i := 2) nd rfl (Or.inl rfl)) (pgs_cons (pg_name (i := 3) nd rfl (Or.inl rfl)) pgs_nil))))
      (pss_one (ps_ret (mkAE MA (hr.mono (by decide)) (passT (takes_of rfl rfl rfl rfl)) (pa_cons (pe_op op_sub (pe_op op_mulW (pe_att (pv 0)) (pv 3)) (pe_op op_mulW (pv 2) (pe_att (pv 0)))) (pa_cons (pe_op op_mulW (pe_att (pv 0)) (pv 3)) pa_nil)))))), ?_⟩
    repeat walk_at "y"
    rcases h with ⟨r, hy, sq, sr, k⟩ | ⟨hn, k⟩
    · refine y_halv hy fun q1 H1 n1 s1 o1 => ?_
      have c1 := sq.1.mulW sr.2 (by decide)
      have c2 := sr.1.mulW sq.2 (by decide)
      have c3 := sq.2.mulW sr.2 (by decide)
      have c4 := sq.1.mulW sr.1 (by decide)
      have c5 := sq.2.mulW sr.1 (by decide)
      repeat walk_at "y"
      refine y_nwA (dens_ne q r) (((sq.1.mul sr.2).sub (sr.1.mul sq.2)).mono (by decide)) ((sq.2.mul sr.2).mono (by decide)) fun z H2 nz s2 h2 => ?_
      exact k z H2 (s1.free nz) (s1.trans s2) (amq_of h2 (dens_ne q r) (q_sub q r))
    · exact ⟨_, rfl, .inr ⟨hn, fun H' dd s n e => k H' dd s n e⟩⟩
abbrev s_mul : Stmt := inClass (topS 24) 11
theorem sc_mul : FnScope ["self", "other", "top", "bottom"] ["self", "other"] (defScope s_mul) := ⟨rfl, rfl, rfl, by decide +kernel, rfl, by decide +kernel, by decide +kernel⟩
theorem ok_mul {f : Addr} {fd : FuncData} (F : FunD K "__mul__" "Amount.__mul__" (defArgs s_mul) (defBody s_mul) (defScope s_mul) [] [] f fd) (AF : AmF K (CA K)) (T : TopA K mg) (Fhalves : FH P w K mg base) (MA : MkA P w K mg base) (S_is_number : Stc P w K mg base 2 (CA K) "is_number" ["value"] (spIsN K)) :
    FnOk P w K mg base (L2.CX P w) 5 f fd ["self", "other"] (spM2 K fun q r => q * r) := by
  have nd := sc_mul.nd
  have A := AmF.c AF
  refine F.ok sc_mul (fun vs H Q E h => ?_) (fun cdv A' outer s H vs Q E hr h => ?_)
  · obtain ⟨a, y, q, r, rfl, _⟩ := h
    rfl
  · obtain ⟨a, y, q, r, rfl, ha, hy, sq, sr, k⟩ := h
    refine ⟨_, (pss_cons (ps_if (pt_not (pt_val (smL S_is_number (hr.mono (by decide)) (og_ref T.g_Amount) (pa_cons (pv 1) pa_nil))))
        (pss_one (ps_ret pe_dead))
        pss_nil)
      (pss_cons (ps_asg (ocX Fhalves (hr.mono (by decide)) (takes_of rfl rfl rfl rfl) (pa_cons (pv 1) pa_nil)) (pg_tup rfl (pgs_cons (pg_name (i := 2) nd rfl (Or.inl rfl)) (pgs_cons (pg_name (i := 3) nd rfl (Or.inl rfl)) pgs_nil))))
      (pss_one (ps_ret (mkAE MA (hr.mono (by decide)) (passT (takes_of rfl rfl rfl rfl)) (pa_cons (pe_op op_mulW (pe_att (pv 0)) (pv 2)) (pa_cons (pe_op op_mulW (pe_att (pv 0)) (pv 3)) pa_nil))))))), ?_⟩
    repeat walk_at "y"
    refine ⟨_, rfl, .inl ⟨r, hy, ?_⟩⟩
    repeat walk_at "y"
    refine y_halv hy fun q1 H1 n1 s1 o1 => ?_
    have c1 := sq.1.mulW sr.2 (by decide)
    have c2 := sr.1.mulW sq.2 (by decide)
    have c3 := sq.2.mulW sr.2 (by decide)
    have c4 := sq.1.mulW sr.1 (by decide)
    have c5 := sq.2.mulW sr.1 (by decide)
    repeat walk_at "y"
    refine y_nwA (dens_ne q r) ((sq.1.mul sr.1).mono (by decide)) ((sq.2.mul sr.2).mono (by decide)) fun z H2 nz s2 h2 => ?_
    exact k z H2 (s1.free nz) (s1.trans s2) (amq_of h2 (dens_ne q r) (q_mul q r))
abbrev s_floordiv : Stmt := inClass (topS 24) 13
theorem sc_floordiv : FnScope ["self", "other", "top", "bottom"] ["self", "other"] (defScope s_floordiv) := ⟨rfl, rfl, rfl, by decide +kernel, rfl, by decide +kernel, by decide +kernel⟩
theorem ok_floordiv {f : Addr} {fd : FuncData} (F : FunD K "__floordiv__" "Amount.__floordiv__" (defArgs s_floordiv) (defBody s_floordiv) (defScope s_floordiv) [] [] f fd) (AF : AmF K (CA K)) (T : TopA K mg) (Fhalves : FH P w K mg base) (MA : MkA P w K mg base) (MNoDivisor : X0 K mg "NoDivisor" (CN K)) :
    FnOk P w K mg base (L2.CX P w) 5 f fd ["self", "other"] (spF2 K (fun _ r => r) fun q r => (q / r).floor) := by
  have nd := sc_floordiv.nd
  have A := AmF.c AF
  refine F.ok sc_floordiv (fun vs H Q E h => ?_) (fun cdv A' outer s H vs Q E hr h => ?_)
  · obtain ⟨a, y, q, rfl, _⟩ := h
    rfl
  · obtain ⟨a, y, q, rfl, ha, h⟩ := h
    refine ⟨_, (pss_cons (ps_asg (ocX Fhalves (hr.mono (by decide)) (takes_of rfl rfl rfl rfl) (pa_cons (pv 1) pa_nil)) (pg_tup rfl (pgs_cons (pg_name (i := 2) nd rfl (Or.inl rfl)) (pgs_cons (pg_name (i := 3) nd rfl (Or.inl rfl)) pgs_nil))))
      (pss_cons (ps_if (pt_cmpR op_eq (pv 2) pe_int (nomark _))
        (pss_one (raise0 MNoDivisor rfl (takes_of rfl rfl rfl rfl)))
        pss_nil)
      (pss_one (ps_ret (pe_op OZ.op_fdivN (pe_op op_mulW (pe_att (pv 0)) (pv 3)) (pe_op op_mulW (pe_att (pv 0)) (pv 2))))))), ?_⟩
    repeat walk_at "y"
    rcases h with ⟨r, hy, sq, sr, k⟩ | ⟨hn, k⟩
    · refine y_halv hy fun q1 H1 n1 s1 o1 => ?_
      rcases k with ⟨r0, k⟩ | ⟨r0, k⟩
      · have n0 : ¬ (V.int r.num = V.int 0) := fun z => num0 r0 (by injection z)
        have c1 := sq.1.mulW sr.2 (by decide)
        have c5 := sq.2.mulW sr.1 (by decide)
        have c6 : OZ.CDivN (q.num * (r.den : Int)) ((q.den : Int) * r.num) := (sq.2.mul sr.1).divN (Int.mul_ne_zero (den_ne q) (num0 r0)) (by decide)
        repeat walk_at "y"
        rw [q_floor q (show r ≠ 0 from r0)]
        exact k _ s1
      · have e : r = 0 := r0
        subst e
        have n0 : V.int (0 : Rat).num = V.int 0 := rfl
        repeat walk_at "y"
        exact k _ s1
    · exact ⟨_, rfl, .inr ⟨hn, fun H' dd s n e => k H' dd s n e⟩⟩
abbrev s_mod : Stmt := inClass (topS 24) 15
theorem sc_mod : FnScope ["self", "other", "many", "top", "bottom"] ["self", "other"] (defScope s_mod) := ⟨rfl, rfl, rfl, by decide +kernel, rfl, by decide +kernel, by decide +kernel⟩
theorem ok_mod {f : Addr} {fd : FuncData} (F : FunD K "__mod__" "Amount.__mod__" (defArgs s_mod) (defBody s_mod) (defScope s_mod) [] [] f fd) (AF : AmF K (CA K)) (T : TopA K mg) (Fhalves : FH P w K mg base) (MA : MkA P w K mg base) (M_floordiv : Mth P w K mg base 5 (CA K) "__floordiv__" ["self", "other"] (spF2 K (fun _ r => r) fun q r => (q / r).floor)) :
    FnOk P w K mg base (L2.CX P w) 6 f fd ["self", "other"] (spE2 K (fun _ r => r) rmod) := by
  have nd := sc_mod.nd
  have A := AmF.c AF
  refine F.ok sc_mod (fun vs H Q E h => ?_) (fun cdv A' outer s H vs Q E hr h => ?_)
  · obtain ⟨a, y, q, r, rfl, _⟩ := h
    rfl
  · obtain ⟨a, y, q, r, rfl, ha, hy, sq, sr, k⟩ := h
    refine ⟨_, (pss_cons (ps_set (i := 2) nd rfl (Or.inl rfl) (pe_op (aB_floordiv AF M_floordiv (hr.mono (by decide)) (passT (takes_of rfl rfl rfl rfl))) (pv 0) (pv 1)))
      (pss_cons (ps_asg (ocX Fhalves (hr.mono (by decide)) (takes_of rfl rfl rfl rfl) (pa_cons (pv 1) pa_nil)) (pg_tup rfl (pgs_cons (pg_name (i := 3) nd rfl (Or.inl rfl)) (pgs_cons (pg_name (i := 4) nd rfl (Or.inl rfl)) pgs_nil))))
      (pss_one (ps_ret (mkAE MA (hr.mono (by decide)) (passT (takes_of rfl rfl rfl rfl)) (pa_cons (pe_op op_sub (pe_op op_mulW (pe_att (pv 0)) (pv 4)) (pe_op op_mulW (pe_op op_mulW (pv 2) (pv 3)) (pe_att (pv 0)))) (pa_cons (pe_op op_mulW (pe_att (pv 0)) (pv 4)) pa_nil))))))), ?_⟩
    repeat walk_at "y"
    rcases k with ⟨r0, k⟩ | ⟨r0, k⟩
    · refine y_binF ha hy sq sr r0 fun H0 s0 => ?_
      repeat walk_at "y"
      refine y_halv (hy.same s0) fun q1 H1 n1 s1 o1 => ?_
      have r1 : r ≠ 0 := r0
      have sf := sz_floor sq sr r1
      have c1 := sq.1.mulW sr.2 (by decide)
      have c3 := sq.2.mulW sr.2 (by decide)
      have c6 := sf.mulW sr.1 (by decide)
      have c7 := (sf.mul sr.1).mulW sq.2 (by decide)
      repeat walk_at "y"
      refine y_nwA (dens_ne q r) (((sq.1.mul sr.2).sub ((sf.mul sr.1).mul sq.2)).mono (by decide)) ((sq.2.mul sr.2).mono (by decide)) fun z H2 nz s2 h2 => ?_
      exact k z H2 (s0.free (s1.free nz)) ((s0.trans s1).trans s2) (amq_of h2 (dens_ne q r) (q_mod q r _))
    · obtain ⟨dx, h⟩ := id ha
      exact ⟨a, dx, _, rfl, h, hy.rgt, a, y, q, rfl, ha, .inl ⟨r, hy, sq, sr, .inr ⟨r0, k⟩⟩⟩
abbrev s_radd : Stmt := inClass (topS 24) 8
theorem sc_radd : FnScope ["self", "other"] ["self", "other"] (defScope s_radd) := ⟨rfl, rfl, rfl, by decide +kernel, rfl, by decide +kernel, by decide +kernel⟩
theorem ok_radd {f : Addr} {fd : FuncData} (F : FunD K "__radd__" "Amount.__radd__" (defArgs s_radd) (defBody s_radd) (defScope s_radd) [] [] f fd) (AF : AmF K (CA K)) (T : TopA K mg) (Fhalves : FH P w K mg base) (MA : MkA P w K mg base) (M_add : Mth P w K mg base 5 (CA K) "__add__" ["self", "other"] (spA2 K fun q r => q + r)) :
    FnOk P w K mg base (L2.CX P w) 6 f fd ["self", "other"] (spM2 K fun q r => q + r) := by
  have nd := sc_radd.nd
  have A := AmF.c AF
  refine F.ok sc_radd (fun vs H Q E h => ?_) (fun cdv A' outer s H vs Q E hr h => ?_)
  · obtain ⟨a, y, q, r, rfl, _⟩ := h
    rfl
  · obtain ⟨a, y, q, r, rfl, ha, hy, sq, sr, k⟩ := h
    refine ⟨_, (pss_one (ps_ret (pe_op (aB_add AF M_add (hr.mono (by decide)) (passT (takes_of rfl rfl rfl rfl))) (pv 0) (pv 1)))), ?_⟩
    repeat walk_at "y"
    exact k _ _ (by assumption) (by assumption) (by assumption)
abbrev s_rmul : Stmt := inClass (topS 24) 12
theorem sc_rmul : FnScope ["self", "other"] ["self", "other"] (defScope s_rmul) := ⟨rfl, rfl, rfl, by decide +kernel, rfl, by decide +kernel, by decide +kernel⟩
theorem ok_rmul {f : Addr} {fd : FuncData} (F : FunD K "__rmul__" "Amount.__rmul__" (defArgs s_rmul) (defBody s_rmul) (defScope s_rmul) [] [] f fd) (AF : AmF K (CA K)) (T : TopA K mg) (Fhalves : FH P w K mg base) (MA : MkA P w K mg base) (M_mul : Mth P w K mg base 5 (CA K) "__mul__" ["self", "other"] (spM2 K fun q r => q * r)) :
    FnOk P w K mg base (L2.CX P w) 6 f fd ["self", "other"] (spM2 K fun q r => q * r) := by
  have nd := sc_rmul.nd
  have A := AmF.c AF
  refine F.ok sc_rmul (fun vs H Q E h => ?_) (fun cdv A' outer s H vs Q E hr h => ?_)
  · obtain ⟨a, y, q, r, rfl, _⟩ := h
    rfl
  · obtain ⟨a, y, q, r, rfl, ha, hy, sq, sr, k⟩ := h
    refine ⟨_, (pss_one (ps_ret (pe_op (aB_mul AF M_mul (hr.mono (by decide)) (passT (takes_of rfl rfl rfl rfl))) (pv 0) (pv 1)))), ?_⟩
    repeat walk_at "y"
    exact k _ _ (by assumption) (by assumption) (by assumption)
abbrev s_rsub : Stmt := inClass (topS 24) 10
theorem sc_rsub : FnScope ["self", "other"] ["self", "other"] (defScope s_rsub) := ⟨rfl, rfl, rfl, by decide +kernel, rfl, by decide +kernel, by decide +kernel⟩
theorem ok_rsub {f : Addr} {fd : FuncData} (F : FunD K "__rsub__" "Amount.__rsub__" (defArgs s_rsub) (defBody s_rsub) (defScope s_rsub) [] [] f fd) (AF : AmF K (CA K)) (T : TopA K mg) (Fhalves : FH P w K mg base) (MA : MkA P w K mg base) (M_add : Mth P w K mg base 5 (CA K) "__add__" ["self", "other"] (spA2 K fun q r => q + r)) (M_neg : Mth P w K mg base 5 (CA K) "__neg__" ["self"] (spA1 K fun q => -q)) :
    FnOk P w K mg base (L2.CX P w) 6 f fd ["self", "other"] (spM2 K fun q r => -q + r) := by
  have nd := sc_rsub.nd
  have A := AmF.c AF
  refine F.ok sc_rsub (fun vs H Q E h => ?_) (fun cdv A' outer s H vs Q E hr h => ?_)
  · obtain ⟨a, y, q, r, rfl, _⟩ := h
    rfl
  · obtain ⟨a, y, q, r, rfl, ha, hy, sq, sr, k⟩ := h
    refine ⟨_, (pss_one (ps_ret (pe_op (aB_add AF M_add (hr.mono (by decide)) (passT (takes_of rfl rfl rfl rfl))) (pe_un (o_neg M_neg (hr.mono (by decide)) (passT (takes_of rfl rfl rfl rfl))) (pv 0)) (pv 1)))), ?_⟩
    repeat walk_at "y"
    rename_i z1 H1 n1 s1 o1 z2 H2 n2 s2 o2
    exact k _ _ (s1.free n2) (s1.trans s2) o2
abbrev s_neg : Stmt := inClass (topS 24) 17
theorem sc_neg : FnScope ["self"] ["self"] (defScope s_neg) := ⟨rfl, rfl, rfl, by decide +kernel, rfl, by decide +kernel, by decide +kernel⟩
theorem ok_neg {f : Addr} {fd : FuncData} (F : FunD K "__neg__" "Amount.__neg__" (defArgs s_neg) (defBody s_neg) (defScope s_neg) [] [] f fd) (AF : AmF K (CA K)) (T : TopA K mg) (Fhalves : FH P w K mg base) (MA : MkA P w K mg base) :
    FnOk P w K mg base (L2.CX P w) 5 f fd ["self"] (spA1 K fun q => -q) := by
  have nd := sc_neg.nd
  have A := AmF.c AF
  refine F.ok sc_neg (fun vs H Q E h => ?_) (fun cdv A' outer s H vs Q E hr h => ?_)
  · obtain ⟨a, q, rfl, _⟩ := h
    rfl
  · obtain ⟨a, q, rfl, ha, sq, k⟩ := h
    refine ⟨_, (pss_one (ps_ret (mkAE MA (hr.mono (by decide)) (passT (takes_of rfl rfl rfl rfl)) (pa_cons (pe_un un_neg (pe_att (pv 0))) (pa_cons (pe_att (pv 0)) pa_nil))))), ?_⟩
    repeat walk_at "y"
    refine y_nwA (den_ne q) (sq.1.neg.mono (by decide)) (sq.2.mono (by decide)) fun z H2 nz s2 h2 => ?_
    exact k z H2 nz s2 (amq_of h2 (den_ne q) (q_neg q))
abbrev s_abs : Stmt := inClass (topS 24) 18
theorem sc_abs : FnScope ["self"] ["self"] (defScope s_abs) := ⟨rfl, rfl, rfl, by decide +kernel, rfl, by decide +kernel, by decide +kernel⟩
theorem ok_abs {f : Addr} {fd : FuncData} (F : FunD K "__abs__" "Amount.__abs__" (defArgs s_abs) (defBody s_abs) (defScope s_abs) [] [] f fd) (AF : AmF K (CA K)) (T : TopA K mg) (Fhalves : FH P w K mg base) (MA : MkA P w K mg base) :
    FnOk P w K mg base (L2.CX P w) 5 f fd ["self"] (spA1 K qabs) := by
  have nd := sc_abs.nd
  have A := AmF.c AF
  refine F.ok sc_abs (fun vs H Q E h => ?_) (fun cdv A' outer s H vs Q E hr h => ?_)
  · obtain ⟨a, q, rfl, _⟩ := h
    rfl
  · obtain ⟨a, q, rfl, ha, sq, k⟩ := h
    refine ⟨_, (pss_one (ps_ret (mkAE MA (hr.mono (by decide)) (passT (takes_of rfl rfl rfl rfl)) (pa_cons (pe_callB c_abs (by rfl) T.n_abs (by decide +kernel) (pa_cons (pe_att (pv 0)) pa_nil)) (pa_cons (pe_att (pv 0)) pa_nil))))), ?_⟩
    repeat walk_at "y"
    refine y_nwA (den_ne q) (sq.1.iabs.mono (by decide)) (sq.2.mono (by decide)) fun z H2 nz s2 h2 => ?_
    exact k z H2 nz s2 (amq_of h2 (den_ne q) (q_abs q))
abbrev s_bool : Stmt := inClass (topS 24) 19
theorem sc_bool : FnScope ["self"] ["self"] (defScope s_bool) := ⟨rfl, rfl, rfl, by decide +kernel, rfl, by decide +kernel, by decide +kernel⟩
theorem ok_bool {f : Addr} {fd : FuncData} (F : FunD K "__bool__" "Amount.__bool__" (defArgs s_bool) (defBody s_bool) (defScope s_bool) [] [] f fd) (AF : AmF K (CA K)) (T : TopA K mg) (Fhalves : FH P w K mg base) (MA : MkA P w K mg base) :
    FnOk P w K mg base (L2.CX P w) 1 f fd ["self"] (spBl K) := by
  have nd := sc_bool.nd
  have A := AmF.c AF
  refine F.ok sc_bool (fun vs H Q E h => ?_) (fun cdv A' outer s H vs Q E hr h => ?_)
  · obtain ⟨a, q, rfl, _⟩ := h
    rfl
  · obtain ⟨a, q, rfl, ha, k⟩ := h
    refine ⟨_, (pss_one (ps_ret (pe_callTy call_bool1 (by rfl) T.n_bool (by decide +kernel) (pa_cons (pe_att (pv 0)) pa_nil)))), ?_⟩
    repeat walk_at "y"
    refine .inl ⟨_, rfl, ?_⟩
    have e : (q.num != 0) = decide (q ≠ 0) := by
      by_cases h : q = 0
      · subst h; simp
      · have := num0 h
        simp [h, this]
    rw [e]; exact k
abbrev s_lt : Stmt := inClass (topS 24) 20
theorem sc_lt : FnScope ["self", "other", "top", "bottom"] ["self", "other"] (defScope s_lt) := ⟨rfl, rfl, rfl, by decide +kernel, rfl, by decide +kernel, by decide +kernel⟩
theorem ok_lt {f : Addr} {fd : FuncData} (F : FunD K "__lt__" "Amount.__lt__" (defArgs s_lt) (defBody s_lt) (defScope s_lt) [] [] f fd) (AF : AmF K (CA K)) (T : TopA K mg) (Fhalves : FH P w K mg base) (MA : MkA P w K mg base) :
    FnOk P w K mg base (L2.CX P w) 5 f fd ["self", "other"] (spC2 K fun q r => decide (q < r)) := by
  have nd := sc_lt.nd
  have A := AmF.c AF
  refine F.ok sc_lt (fun vs H Q E h => ?_) (fun cdv A' outer s H vs Q E hr h => ?_)
  · obtain ⟨a, y, q, rfl, _⟩ := h
    rfl
  · obtain ⟨a, y, q, rfl, ha, h⟩ := h
    refine ⟨_, (pss_cons (ps_asg (ocX Fhalves (hr.mono (by decide)) (takes_of rfl rfl rfl rfl) (pa_cons (pv 1) pa_nil)) (pg_tup rfl (pgs_cons (pg_name (i := 2) nd rfl (Or.inl rfl)) (pgs_cons (pg_name (i := 3) nd rfl (Or.inl rfl)) pgs_nil))))
      (pss_one (ps_ret (pe_cmpR op_lt (pe_op op_mulW (pe_att (pv 0)) (pv 3)) (pe_op op_mulW (pv 2) (pe_att (pv 0))) (nomark _))))), ?_⟩
    repeat walk_at "y"
    rcases h with ⟨r, hy, sq, sr, k⟩ | ⟨hn, k⟩
    · refine y_halv hy fun q1 H1 n1 s1 o1 => ?_
      have c1 := sq.1.mulW sr.2 (by decide)
      have c2 := sr.1.mulW sq.2 (by decide)
      have c3 := sq.2.mulW sr.2 (by decide)
      have c4 := sq.1.mulW sr.1 (by decide)
      have c5 := sq.2.mulW sr.1 (by decide)
      repeat walk_at "y"
      have e := k H1 s1
      have e2 : decide (q.num * (r.den : Int) < r.num * (q.den : Int)) = decide (q < r) := decide_eq_decide.mpr (q_lt q r)
      rw [e2]; exact e
    · exact ⟨_, rfl, .inr ⟨hn, fun H' dd s n e => k H' dd s n e⟩⟩
abbrev s_le : Stmt := inClass (topS 24) 21
theorem sc_le : FnScope ["self", "other", "top", "bottom"] ["self", "other"] (defScope s_le) := ⟨rfl, rfl, rfl, by decide +kernel, rfl, by decide +kernel, by decide +kernel⟩
theorem ok_le {f : Addr} {fd : FuncData} (F : FunD K "__le__" "Amount.__le__" (defArgs s_le) (defBody s_le) (defScope s_le) [] [] f fd) (AF : AmF K (CA K)) (T : TopA K mg) (Fhalves : FH P w K mg base) (MA : MkA P w K mg base) :
    FnOk P w K mg base (L2.CX P w) 5 f fd ["self", "other"] (spC2 K fun q r => decide (q ≤ r)) := by
  have nd := sc_le.nd
  have A := AmF.c AF
  refine F.ok sc_le (fun vs H Q E h => ?_) (fun cdv A' outer s H vs Q E hr h => ?_)
  · obtain ⟨a, y, q, rfl, _⟩ := h
    rfl
  · obtain ⟨a, y, q, rfl, ha, h⟩ := h
    refine ⟨_, (pss_cons (ps_asg (ocX Fhalves (hr.mono (by decide)) (takes_of rfl rfl rfl rfl) (pa_cons (pv 1) pa_nil)) (pg_tup rfl (pgs_cons (pg_name (i := 2) nd rfl (Or.inl rfl)) (pgs_cons (pg_name (i := 3) nd rfl (Or.inl rfl)) pgs_nil))))
      (pss_one (ps_ret (pe_cmpR op_le (pe_op op_mulW (pe_att (pv 0)) (pv 3)) (pe_op op_mulW (pv 2) (pe_att (pv 0))) (nomark _))))), ?_⟩
    repeat walk_at "y"
    rcases h with ⟨r, hy, sq, sr, k⟩ | ⟨hn, k⟩
    · refine y_halv hy fun q1 H1 n1 s1 o1 => ?_
      have c1 := sq.1.mulW sr.2 (by decide)
      have c2 := sr.1.mulW sq.2 (by decide)
      have c3 := sq.2.mulW sr.2 (by decide)
      have c4 := sq.1.mulW sr.1 (by decide)
      have c5 := sq.2.mulW sr.1 (by decide)
      repeat walk_at "y"
      have e := k H1 s1
      have e2 : decide (q.num * (r.den : Int) ≤ r.num * (q.den : Int)) = decide (q ≤ r) := decide_eq_decide.mpr (q_le q r)
      rw [e2]; exact e
    · exact ⟨_, rfl, .inr ⟨hn, fun H' dd s n e => k H' dd s n e⟩⟩
abbrev s_gt : Stmt := inClass (topS 24) 22
theorem sc_gt : FnScope ["self", "other", "top", "bottom"] ["self", "other"] (defScope s_gt) := ⟨rfl, rfl, rfl, by decide +kernel, rfl, by decide +kernel, by decide +kernel⟩
theorem ok_gt {f : Addr} {fd : FuncData} (F : FunD K "__gt__" "Amount.__gt__" (defArgs s_gt) (defBody s_gt) (defScope s_gt) [] [] f fd) (AF : AmF K (CA K)) (T : TopA K mg) (Fhalves : FH P w K mg base) (MA : MkA P w K mg base) :
    FnOk P w K mg base (L2.CX P w) 5 f fd ["self", "other"] (spC2 K fun q r => decide (r < q)) := by
  have nd := sc_gt.nd
  have A := AmF.c AF
  refine F.ok sc_gt (fun vs H Q E h => ?_) (fun cdv A' outer s H vs Q E hr h => ?_)
  · obtain ⟨a, y, q, rfl, _⟩ := h
    rfl
  · obtain ⟨a, y, q, rfl, ha, h⟩ := h
    refine ⟨_, (pss_cons (ps_asg (ocX Fhalves (hr.mono (by decide)) (takes_of rfl rfl rfl rfl) (pa_cons (pv 1) pa_nil)) (pg_tup rfl (pgs_cons (pg_name (i := 2) nd rfl (Or.inl rfl)) (pgs_cons (pg_name (i := 3) nd rfl (Or.inl rfl)) pgs_nil))))
      (pss_one (ps_ret (pe_cmpR op_gt (pe_op op_mulW (pe_att (pv 0)) (pv 3)) (pe_op op_mulW (pv 2) (pe_att (pv 0))) (nomark _))))), ?_⟩
    repeat walk_at "y"
    rcases h with ⟨r, hy, sq, sr, k⟩ | ⟨hn, k⟩
    · refine y_halv hy fun q1 H1 n1 s1 o1 => ?_
      have c1 := sq.1.mulW sr.2 (by decide)
      have c2 := sr.1.mulW sq.2 (by decide)
      have c3 := sq.2.mulW sr.2 (by decide)
      have c4 := sq.1.mulW sr.1 (by decide)
      have c5 := sq.2.mulW sr.1 (by decide)
      repeat walk_at "y"
      have e := k H1 s1
      have e2 : decide (r.num * (q.den : Int) < q.num * (r.den : Int)) = decide (r < q) := decide_eq_decide.mpr (q_lt r q)
      rw [e2]; exact e
    · exact ⟨_, rfl, .inr ⟨hn, fun H' dd s n e => k H' dd s n e⟩⟩
abbrev s_ge : Stmt := inClass (topS 24) 23
theorem sc_ge : FnScope ["self", "other", "top", "bottom"] ["self", "other"] (defScope s_ge) := ⟨rfl, rfl, rfl, by decide +kernel, rfl, by decide +kernel, by decide +kernel⟩
theorem ok_ge {f : Addr} {fd : FuncData} (F : FunD K "__ge__" "Amount.__ge__" (defArgs s_ge) (defBody s_ge) (defScope s_ge) [] [] f fd) (AF : AmF K (CA K)) (T : TopA K mg) (Fhalves : FH P w K mg base) (MA : MkA P w K mg base) :
    FnOk P w K mg base (L2.CX P w) 5 f fd ["self", "other"] (spC2 K fun q r => decide (r ≤ q)) := by
  have nd := sc_ge.nd
  have A := AmF.c AF
  refine F.ok sc_ge (fun vs H Q E h => ?_) (fun cdv A' outer s H vs Q E hr h => ?_)
  · obtain ⟨a, y, q, rfl, _⟩ := h
    rfl
  · obtain ⟨a, y, q, rfl, ha, h⟩ := h
    refine ⟨_, (pss_cons (ps_asg (ocX Fhalves (hr.mono (by decide)) (takes_of rfl rfl rfl rfl) (pa_cons (pv 1) pa_nil)) (pg_tup rfl (pgs_cons (pg_name (i := 2) nd rfl (Or.inl rfl)) (pgs_cons (pg_name (i := 3) nd rfl (Or.inl rfl)) pgs_nil))))
      (pss_one (ps_ret (pe_cmpR op_ge (pe_op op_mulW (pe_att (pv 0)) (pv 3)) (pe_op op_mulW (pv 2) (pe_att (pv 0))) (nomark _))))), ?_⟩
    repeat walk_at "y"
    rcases h with ⟨r, hy, sq, sr, k⟩ | ⟨hn, k⟩
    · refine y_halv hy fun q1 H1 n1 s1 o1 => ?_
      have c1 := sq.1.mulW sr.2 (by decide)
      have c2 := sr.1.mulW sq.2 (by decide)
      have c3 := sq.2.mulW sr.2 (by decide)
      have c4 := sq.1.mulW sr.1 (by decide)
      have c5 := sq.2.mulW sr.1 (by decide)
      repeat walk_at "y"
      have e := k H1 s1
      have e2 : decide (r.num * (q.den : Int) ≤ q.num * (r.den : Int)) = decide (r ≤ q) := decide_eq_decide.mpr (q_le r q)
      rw [e2]; exact e
    · exact ⟨_, rfl, .inr ⟨hn, fun H' dd s n e => k H' dd s n e⟩⟩
abbrev s_isn : Stmt := inClass (topS 24) 1
theorem sc_isn : FnScope ["value"] ["value"] (defScope s_isn) := ⟨rfl, rfl, rfl, by decide +kernel, rfl, by decide +kernel, by decide +kernel⟩
theorem ok_isn {f : Addr} {fd : FuncData} (F : FunD K "is_number" "Amount.is_number" (defArgs s_isn) (defBody s_isn) (defScope s_isn) [] [] f fd) (AF : AmF K (CA K)) (T : TopA K mg) (Fis_int : Fnc P w K mg base 1 "is_int" ["value"] (spIsInt K)) :
    FnOk P w K mg base (L2.CX P w) 2 f fd ["value"] (spIsN K) := by
  have nd := sc_isn.nd
  refine F.ok sc_isn (fun vs H Q E h => ?_) (fun cdv A' outer s H vs Q E hr h => ?_)
  · obtain ⟨y, rfl, _⟩ := h
    rfl
  · obtain ⟨y, rfl, h⟩ := h
    refine ⟨_, PSs.nox (pss_one (ps_ret (pe_or (pe_callB c_isA (by rfl) T.n_isinstance (by decide +kernel) (pa_cons (pv 0) (pa_cons (og_ref T.g_Amount) pa_nil))) (pe_one (oc Fis_int (hr.mono (by decide)) (pa_cons (pv 0) pa_nil)))))), ?_⟩
    repeat walk_at "y"
    rcases h with ⟨r, hy, k⟩ | ⟨⟨kd, iv, t, ty, hk⟩, k⟩
    · rcases hy with ⟨i, rfl, _⟩ | ⟨b, rfl, dx, h⟩
      · refine .inl ⟨_, _, _, _, _, rfl, .own _, .base (.int i), AF.kt "int" (by decide), ?_⟩
        repeat walk_at "y"
        exact ⟨_, rfl, .int i, k⟩
      · refine .inl ⟨_, _, _, _, _, rfl, .own _, AF.oc.ty h, AF.ka, ?_⟩
        repeat walk_at "y"
        exact k
    · refine .inl ⟨_, _, _, _, _, rfl, .own _, ty, hk, ?_⟩
      repeat walk_at "y"
      refine ⟨_, rfl, kd, ?_⟩
      rw [iv]; exact k
abbrev s_eq : Stmt := inClass (topS 24) 24
theorem sc_eq : FnScope ["self", "other"] ["self", "other"] (defScope s_eq) := ⟨rfl, rfl, rfl, by decide +kernel, rfl, by decide +kernel, by decide +kernel⟩
theorem ok_eq {f : Addr} {fd : FuncData} (F : FunD K "__eq__" "Amount.__eq__" (defArgs s_eq) (defBody s_eq) (defScope s_eq) [] [] f fd) (AF : AmF K (CA K)) (T : TopA K mg) (Fhalves : FH P w K mg base) (MA : MkA P w K mg base) (S_is_number : Stc P w K mg base 2 (CA K) "is_number" ["value"] (spIsN K)) :
    FnOk P w K mg base (L2.CX P w) 5 f fd ["self", "other"] (spEq K) := by
  have nd := sc_eq.nd
  have A := AmF.c AF
  refine F.ok sc_eq (fun vs H Q E h => ?_) (fun cdv A' outer s H vs Q E hr h => ?_)
  · obtain ⟨a, y, q, rfl, _⟩ := h
    rfl
  · obtain ⟨a, y, q, rfl, ha, h⟩ := h
    have hu64 := hr.units
    refine ⟨_, (pss_cons (ps_if (pt_not (pt_val (smL S_is_number (hr.mono (by decide)) (og_ref T.g_Amount) (pa_cons (pv 1) pa_nil))))
        (pss_one (ps_ret pe_bl))
        pss_nil)
      (pss_one (ps_ret (pe_cmpR (op_eqD hu64) (pe_tup (pa_cons (pe_att (pv 0)) (pa_cons (pe_att (pv 0)) pa_nil))) (ocX Fhalves (hr.mono (by decide)) (takes_of rfl rfl rfl rfl) (pa_cons (pv 1) pa_nil)) (nomark _))))), ?_⟩
    repeat walk_at "y"
    rcases h with ⟨r, hy, k⟩ | ⟨hn, k⟩
    · refine ⟨_, rfl, .inl ⟨r, hy, ?_⟩⟩
      repeat walk_at "y"
      rename_i z1 H1 n1 s1 o1
      refine y_halv (hy.same s1) fun q1 H2 n2 s2 o2 => ?_
      refine ⟨.tuple (([q.num, (q.den : Int)] : List Int).map PyData.int), .tuple (([r.num, (r.den : Int)] : List Int).map PyData.int), ?_, ?_, rfl, rfl, ?_⟩
      · exact .tup (SqT.of (s2 _ _ o1)) (.cons (.int _) (.cons (.int _) .nil))
      · exact .tup (SqT.of o2) (.cons (.int _) (.cons (.int _) .nil))
      · have e := k H2 (s1.trans s2)
        have e2 : PyData.eqv (.tuple (([q.num, (q.den : Int)] : List Int).map PyData.int)) (.tuple (([r.num, (r.den : Int)] : List Int).map PyData.int)) = decide (q = r) := by
          show (q.num == r.num && ((q.den : Int) == (r.den : Int) && true)) = decide (q = r)
          rw [Bool.and_true]
          have z := q_eq q r
          by_cases h : q = r
          · subst h; simp
          · rw [decide_eq_false h]
            refine Bool.eq_false_iff.mpr fun y => h (z.mp ?_)
            simpa [Bool.and_eq_true] using y
        rw [e2]; exact e
    · refine ⟨_, rfl, .inr ⟨hn, ?_⟩⟩
      repeat walk_at "y"
      exact k _ same0
abbrev s_of : Stmt := inClass (topS 24) 2
theorem sc_of : FnScope ["number", "top", "bottom"] ["number"] (defScope s_of) := ⟨rfl, rfl, rfl, by decide +kernel, rfl, by decide +kernel, by decide +kernel⟩
def spOf (K : PySem.W.Frag) : Sp := fun vs H Q E => ∃ y : V, vs = [y] ∧ ((∃ r, NumQ (CA K) H y r ∧ SzQ 1800 r ∧ ∀ z H', H z = none → Same H H' → AmQ (CA K) H' z r → Q (.ref z) H') ∨ (NoNum K H y ∧ OutB K H y E))
theorem ok_of {f : Addr} {fd : FuncData} (F : FunD K "of" "Amount.of" (defArgs s_of) (defBody s_of) (defScope s_of) [] [] f fd) (AF : AmF K (CA K)) (T : TopA K mg) (Fhalves : FH P w K mg base) (MA : MkA P w K mg base) :
    FnOk P w K mg base (L2.CX P w) 5 f fd ["number"] (spOf K) := by
  have nd := sc_of.nd
  refine F.ok sc_of (fun vs H Q E h => ?_) (fun cdv A' outer s H vs Q E hr h => ?_)
  · obtain ⟨y, rfl, _⟩ := h
    rfl
  · obtain ⟨y, rfl, h⟩ := h
    refine ⟨_, (pss_cons (ps_asg (ocX Fhalves (hr.mono (by decide)) (takes_of rfl rfl rfl rfl) (pa_cons (pv 0) pa_nil)) (pg_tup rfl (pgs_cons (pg_name (i := 1) nd rfl (Or.inl rfl)) (pgs_cons (pg_name (i := 2) nd rfl (Or.inl rfl)) pgs_nil))))
      (pss_one (ps_ret (mkAE MA (hr.mono (by decide)) (passT (takes_of rfl rfl rfl rfl)) (pa_cons (pv 1) (pa_cons (pv 2) pa_nil)))))), ?_⟩
    repeat walk_at "y"
    rcases h with ⟨r, hy, sr, k⟩ | ⟨hn, k⟩
    · refine y_halv hy fun q1 H1 n1 s1 o1 => ?_
      repeat walk_at "y"
      refine y_nwA (den_ne r) (sr.1.mono (by decide)) (sr.2.mono (by decide)) fun z H2 nz s2 h2 => ?_
      exact k z H2 (s1.free nz) (s1.trans s2) (amq_of h2 (den_ne r) (OZ.nd r).symm)
    · exact ⟨_, rfl, .inr ⟨hn, fun H' dd s n e => k H' dd s n e⟩⟩
abbrev s_rfloordiv : Stmt := inClass (topS 24) 14
theorem sc_rfloordiv : FnScope ["self", "other", "top", "bottom"] ["self", "other"] (defScope s_rfloordiv) := ⟨rfl, rfl, rfl, by decide +kernel, rfl, by decide +kernel, by decide +kernel⟩
theorem ok_rfloordiv {f : Addr} {fd : FuncData} (F : FunD K "__rfloordiv__" "Amount.__rfloordiv__" (defArgs s_rfloordiv) (defBody s_rfloordiv) (defScope s_rfloordiv) [] [] f fd) (AF : AmF K (CA K)) (T : TopA K mg) (Fhalves : FH P w K mg base) (MA : MkA P w K mg base) (M_floordiv : Mth P w K mg base 5 (CA K) "__floordiv__" ["self", "other"] (spF2 K (fun _ r => r) fun q r => (q / r).floor)) :
    FnOk P w K mg base (L2.CX P w) 6 f fd ["self", "other"] (spG2 K (fun q _ => q) fun q r => (r / q).floor) := by
  have nd := sc_rfloordiv.nd
  have A := AmF.c AF
  refine F.ok sc_rfloordiv (fun vs H Q E h => ?_) (fun cdv A' outer s H vs Q E hr h => ?_)
  · obtain ⟨a, y, q, r, rfl, _⟩ := h
    rfl
  · obtain ⟨a, y, q, r, rfl, ha, hy, sq, sr, k⟩ := h
    refine ⟨_, (pss_cons (ps_asg (ocX Fhalves (hr.mono (by decide)) (takes_of rfl rfl rfl rfl) (pa_cons (pv 1) pa_nil)) (pg_tup rfl (pgs_cons (pg_name (i := 2) nd rfl (Or.inl rfl)) (pgs_cons (pg_name (i := 3) nd rfl (Or.inl rfl)) pgs_nil))))
      (pss_one (ps_ret (pe_op (aB_floordiv AF M_floordiv (hr.mono (by decide)) (passT (takes_of rfl rfl rfl rfl))) (mkAE MA (hr.mono (by decide)) (passT (takes_of rfl rfl rfl rfl)) (pa_cons (pv 2) (pa_cons (pv 3) pa_nil))) (pv 0))))), ?_⟩
    repeat walk_at "y"
    refine y_halv hy fun q1 H1 n1 s1 o1 => ?_
    repeat walk_at "y"
    refine y_nwA (den_ne r) (sr.1.mono (by decide)) (sr.2.mono (by decide)) fun z H2 nz s2 h2 => ?_
    have h3 : AmQ (CA K) H2 z r := amq_of h2 (den_ne r) (OZ.nd r).symm
    have ha2 := (ha.same s1).same s2
    repeat walk_at "y"
    rcases k with ⟨r0, k⟩ | ⟨r0, k⟩
    · exact y_binF h3 (.am ha2) sr sq r0 fun H3 s3 => k H3 ((s1.trans s2).trans s3)
    · obtain ⟨dx, h⟩ := id h3
      exact ⟨z, dx, _, rfl, h, (NumQ.am ha2).rgt, z, _, r, rfl, h3, .inl ⟨q, .am ha2, sr, sq, .inr ⟨r0, fun H' s => k H' ((s1.trans s2).trans s)⟩⟩⟩
abbrev s_rmod : Stmt := inClass (topS 24) 16
theorem sc_rmod : FnScope ["self", "other", "top", "bottom"] ["self", "other"] (defScope s_rmod) := ⟨rfl, rfl, rfl, by decide +kernel, rfl, by decide +kernel, by decide +kernel⟩
theorem ok_rmod {f : Addr} {fd : FuncData} (F : FunD K "__rmod__" "Amount.__rmod__" (defArgs s_rmod) (defBody s_rmod) (defScope s_rmod) [] [] f fd) (AF : AmF K (CA K)) (T : TopA K mg) (Fhalves : FH P w K mg base) (MA : MkA P w K mg base) (M_mod : Mth P w K mg base 6 (CA K) "__mod__" ["self", "other"] (spE2 K (fun _ r => r) rmod)) :
    FnOk P w K mg base (L2.CX P w) 7 f fd ["self", "other"] (spE2 K (fun q _ => q) fun q r => rmod r q) := by
  have nd := sc_rmod.nd
  have A := AmF.c AF
  refine F.ok sc_rmod (fun vs H Q E h => ?_) (fun cdv A' outer s H vs Q E hr h => ?_)
  · obtain ⟨a, y, q, r, rfl, _⟩ := h
    rfl
  · obtain ⟨a, y, q, r, rfl, ha, hy, sq, sr, k⟩ := h
    refine ⟨_, (pss_cons (ps_asg (ocX Fhalves (hr.mono (by decide)) (takes_of rfl rfl rfl rfl) (pa_cons (pv 1) pa_nil)) (pg_tup rfl (pgs_cons (pg_name (i := 2) nd rfl (Or.inl rfl)) (pgs_cons (pg_name (i := 3) nd rfl (Or.inl rfl)) pgs_nil))))
      (pss_one (ps_ret (pe_op (aB_mod AF M_mod (hr.mono (by decide)) (passT (takes_of rfl rfl rfl rfl))) (mkAE MA (hr.mono (by decide)) (passT (takes_of rfl rfl rfl rfl)) (pa_cons (pv 2) (pa_cons (pv 3) pa_nil))) (pv 0))))), ?_⟩
    repeat walk_at "y"
    refine y_halv hy fun q1 H1 n1 s1 o1 => ?_
    repeat walk_at "y"
    refine y_nwA (den_ne r) (sr.1.mono (by decide)) (sr.2.mono (by decide)) fun z H2 nz s2 h2 => ?_
    have h3 : AmQ (CA K) H2 z r := amq_of h2 (den_ne r) (OZ.nd r).symm
    have ha2 := (ha.same s1).same s2
    repeat walk_at "y"
    rcases k with ⟨r0, k⟩ | ⟨r0, k⟩
    · exact y_binD h3 (.am ha2) sr sq r0 fun z3 H3 n3 s3 h3 => k z3 H3 (s1.free (s2.free n3)) ((s1.trans s2).trans s3) h3
    · obtain ⟨dx, h⟩ := id h3
      exact ⟨z, dx, _, rfl, h, (NumQ.am ha2).rgt, z, _, r, q, rfl, h3, .am ha2, sr, sq, .inr ⟨r0, fun H' s => k H' ((s1.trans s2).trans s)⟩⟩
def qsum (qs : List Rat) : Rat := qs.foldl (· + ·) 0
theorem qsum_take {qs : List Rat} {j : Nat} {r : Rat} (h : qs[j]? = some r) : qsum (qs.take (j + 1)) = qsum (qs.take j) + r := by
  unfold qsum
  rw [List.take_add_one, h]
  simp [List.foldl_append]
structure Nums (K : PySem.W.Frag) (H : Hp) (xs : List V) (qs : List Rat) : Prop where
  len : xs.length = qs.length
  num : ∀ (j : Nat) (y : V) (r : Rat), xs[j]? = some y → qs[j]? = some r → NumQ (CA K) H y r ∧ SzQ 1800 r
theorem Nums.at {H : Hp} {xs : List V} {qs : List Rat} (n : Nums K H xs qs) {j : Nat} {y : V} (h : xs[j]? = some y) : ∃ r, qs[j]? = some r ∧ NumQ (CA K) H y r ∧ SzQ 1800 r := by
  have l : j < xs.length := (List.getElem?_eq_some_iff.mp h).1
  have e : qs[j]? = some (qs[j]'(by rw [← n.len]; exact l)) := List.getElem?_eq_getElem _
  exact ⟨_, e, n.num j y _ h e⟩
def spTot (K : PySem.W.Frag) : Sp := fun vs H Q _ => ∃ (b : Addr) (xs : List V) (qs : List Rat), vs = [.ref b] ∧ (H b = some (.lst xs) ∨ H b = some (.tup xs)) ∧ Nums K H xs qs ∧ (∀ j, SzQ 1800 (qsum (qs.take j))) ∧ ∀ z H', H z = none → Same H H' → AmQ (CA K) H' z (qsum qs) → Q (.ref z) H'
theorem kitTot {T : String} (h : T = "list" ∨ T = "tuple") : PySem.W.kitAny K (.type T) [.type "list", .type "tuple"] = some true := by
  rcases h with rfl | rfl
  · exact kitAny_cons (b := true) (kit_ty (by decide +kernel)) (fun z => nomatch z) fun _ => rfl
  · exact kitAny_cons (b := false) (kit_ty (by decide +kernel)) (fun _ => kitAny_cons (b := true) (kit_ty (by decide +kernel)) (fun z => nomatch z) fun _ => rfl) fun z => nomatch z
end
end LW
set_option maxRecDepth 100000
namespace LW
open PySem PySem.Spec PyProof.Rows L2 OZ
structure AOps (P : Program) (w : World) (K : PySem.W.Frag) (mg : Str → Option Value) (base : Heap) : Prop where
  AF : AmF K (CA K)
  MA : MkA P w K mg base
  M_add : Mth P w K mg base 5 (CA K) "__add__" ["self", "other"] (spA2 K fun q r => q + r)
  M_radd : Mth P w K mg base 6 (CA K) "__radd__" ["self", "other"] (spM2 K fun q r => q + r)
  M_sub : Mth P w K mg base 5 (CA K) "__sub__" ["self", "other"] (spA2 K fun q r => q - r)
  M_rsub : Mth P w K mg base 6 (CA K) "__rsub__" ["self", "other"] (spM2 K fun q r => -q + r)
  M_mul : Mth P w K mg base 5 (CA K) "__mul__" ["self", "other"] (spM2 K fun q r => q * r)
  M_rmul : Mth P w K mg base 6 (CA K) "__rmul__" ["self", "other"] (spM2 K fun q r => q * r)
  M_floordiv : Mth P w K mg base 5 (CA K) "__floordiv__" ["self", "other"] (spF2 K (fun _ r => r) fun q r => (q / r).floor)
  M_rfloordiv : Mth P w K mg base 6 (CA K) "__rfloordiv__" ["self", "other"] (spG2 K (fun q _ => q) fun q r => (r / q).floor)
  M_mod : Mth P w K mg base 6 (CA K) "__mod__" ["self", "other"] (spE2 K (fun _ r => r) rmod)
  M_rmod : Mth P w K mg base 7 (CA K) "__rmod__" ["self", "other"] (spE2 K (fun q _ => q) fun q r => rmod r q)
  M_neg : Mth P w K mg base 5 (CA K) "__neg__" ["self"] (spA1 K fun q => -q)
  M_abs : Mth P w K mg base 5 (CA K) "__abs__" ["self"] (spA1 K qabs)
  M_bool : Mth P w K mg base 1 (CA K) "__bool__" ["self"] (spBl K)
  M_lt : Mth P w K mg base 5 (CA K) "__lt__" ["self", "other"] (spC2 K fun q r => decide (q < r))
  M_le : Mth P w K mg base 5 (CA K) "__le__" ["self", "other"] (spC2 K fun q r => decide (q ≤ r))
  M_gt : Mth P w K mg base 5 (CA K) "__gt__" ["self", "other"] (spC2 K fun q r => decide (r < q))
  M_ge : Mth P w K mg base 5 (CA K) "__ge__" ["self", "other"] (spC2 K fun q r => decide (r ≤ q))
  M_eq : Mth P w K mg base 5 (CA K) "__eq__" ["self", "other"] (spEq K)
  S_is_number : Stc P w K mg base 2 (CA K) "is_number" ["value"] (spIsN K)
  S_of : Stc P w K mg base 5 (CA K) "of" ["number"] (spOf K)
local macro_rules | `(tactic| walk_at "aq") => `(tactic| first
  | assumption
  | (refine' AmQ.same ?aqs ?aqk; (case aqs => assumption); (case aqk => walk_at "aq")))
local macro_rules | `(tactic| walk_at "nq") => `(tactic| first
  | assumption
  | exact NumQ.int
  | (refine' NumQ.am ?nqk; (case nqk => walk_at "aq"))
  | (refine' NumQ.same ?nqs ?nqk; (case nqs => assumption); (case nqk => walk_at "nq")))
local macro_rules | `(tactic| walk_at "sz1") => `(tactic| first
  | with_reducible assumption
  | (refine' SzQ.add ?sx ?sy; (case sx => walk_at "sz1"); (case sy => walk_at "sz1"))
  | (refine' SzQ.sub ?sx ?sy; (case sx => walk_at "sz1"); (case sy => walk_at "sz1"))
  | (refine' SzQ.mul ?sx ?sy; (case sx => walk_at "sz1"); (case sy => walk_at "sz1"))
  | (refine' SzQ.div ?sx ?sy ?sz; (case sz => assumption); (case sx => walk_at "sz1"); (case sy => walk_at "sz1"))
  | (refine' SzQ.rmod ?sx ?sy ?sz; (case sz => assumption); (case sx => walk_at "sz1"); (case sy => walk_at "sz1"))
  | (refine' SzQ.neg ?sx; (case sx => walk_at "sz1"))
  | (refine' SzQ.qabs ?sx; (case sx => walk_at "sz1"))
  | (refine' SzQ.int ?sx ?sy; (case sx => with_reducible assumption); (case sy => exact Nat.le_of_ble_eq_true rfl))
  | exact sz_lit (by decide))
local macro_rules | `(tactic| walk_at "sz") => `(tactic| (refine' SzQ.mono ?szk ?szl; (case szk => walk_at "sz1"); (case szl => exact Nat.le_of_ble_eq_true rfl)))
local macro_rules | `(tactic| walk_at "nz") => `(tactic| first
  | assumption
  | decide
  | omega
  | exact intq0 (by decide))
local macro_rules | `(tactic| walk_at "szi") => `(tactic| first
  | assumption
  | exact Sz.mono (by with_reducible assumption) (Nat.le_of_ble_eq_true rfl)
  | exact sz_i64 (by decide))
local macro_rules | `(tactic| walk_at "ex") => `(tactic| first
  | assumption
  | (refine ExAt.same (by assumption) ?_; walk_at "ex"))
local macro_rules | `(tactic| walk_at "same") => `(tactic| first
  | assumption
  | exact same0
  | (refine Same.trans ?_ (by assumption); walk_at "same"))
local macro_rules | `(tactic| walk_at "free") => `(tactic| first
  | assumption
  | (refine sfree (by assumption) ?_; walk_at "free"))
local macro_rules | `(tactic| walk_at "hp") => `(tactic| first
  | assumption
  | exact upd_same
  | (refine sat (by assumption) ?_; walk_at "hp")
  | (refine upd_old ?_ ?_; (first | assumption | exact free_upd (by assumption)); walk_at "hp")
  | (refine upd_oth ?_ ?_; (first | assumption | exact Ne.symm (by assumption)); walk_at "hp"))
local macro_rules | `(tactic| walk_at "side") => `(tactic| first
  | assumption
  | decide
  | omega
  | exact ⟨by omega, by omega, by omega⟩
  | exact Or.inl ⟨by omega, by omega⟩
  | exact Or.inr ⟨by omega, by omega⟩
  | (show (_ : Int) ≠ 0; omega)
  | exact wide_div (b := 64) (by omega) (by omega) (by decide) (by decide)
  | exact wide_div (b := 4000) (by assumption) (by assumption) (by decide) (by decide))
local macro_rules | `(tactic| walk_at "y") => `(tactic| first
  | ((with_reducible refine y_var ?_); refine ⟨_, rfl, ?_⟩)
  | with_reducible refine y_c ?_
  | with_reducible refine y_op ?_
  | with_reducible refine y_cb ?_
  | with_reducible refine y_cons ?_
  | with_reducible refine y_nil ?_
  | with_reducible refine y_seq ?_
  | with_reducible refine y_asg ?_
  | with_reducible refine y_gn ?_
  | with_reducible refine y_gsub ?_
  | with_reducible refine y_ret ?_
  | with_reducible refine y_drop ?_
  | with_reducible refine y_next ?_
  | with_reducible refine y_ifS ?_
  | with_reducible refine y_test ?_
  | with_reducible refine y_B ?_
  | with_reducible refine y_ex ?_
  | with_reducible refine y_not ?_
  | with_reducible refine y_and ?_
  | with_reducible refine y_or ?_
  | with_reducible refine y_notV ?_
  | with_reducible refine y_andV ?_
  | with_reducible refine y_orV ?_
  | with_reducible refine y_ifE ?_
  | with_reducible refine y_un ?_
  | with_reducible refine y_par ?_
  | with_reducible refine y_ex2 ?_
  | with_reducible refine y_call ?_
  | with_reducible refine y_callS ?_
  | with_reducible refine y_I0 ?_
  | ((with_reducible refine y_I ?_ ?_); (walk_at "side"))
  | with_reducible refine y_U ?_
  | ((with_reducible refine y_eq ?_ ?_); (exact rfl))
  | ((with_reducible refine y_ne ?_ ?_); (exact rfl))
  | ((with_reducible refine' y_ixL ?k1 ?k2 ?k3); (case k1 => walk_at "hp"); (case k2 => (first | assumption | exact rfl)))
  | ((with_reducible refine' y_ixT ?k1 ?k2 ?k3); (case k1 => walk_at "hp"); (case k2 => (first | assumption | exact rfl)))
  | ((with_reducible refine' y_setL ?k1 ?k2 ?k3); (case k1 => walk_at "hp"); (case k2 => (first | assumption | exact rfl)))
  | with_reducible refine y_int ?_
  | with_reducible refine y_intB ?_
  | with_reducible refine y_abs ?_
  | ((with_reducible refine' y_lenL ?k1 ?k3); (case k1 => walk_at "hp"))
  | ((with_reducible refine' y_lenT ?k1 ?k3); (case k1 => walk_at "hp"))
  | ((with_reducible refine y_lenS ?_ ?_); (walk_at "side"))
  | with_reducible refine y_isN ?_
  | with_reducible refine y_notN ?_
  | ((with_reducible refine y_addS ?_ ?_); (walk_at "side"))
  | with_reducible refine y_inC ?_
  | with_reducible refine y_notInC ?_
  | with_reducible refine y_sl ?_
  | with_reducible refine y_part ?_
  | with_reducible refine y_nopart ?_
  | with_reducible refine y_exI ?_
  | ((with_reducible refine y_slS ?_ ?_); (walk_at "side"))
  | with_reducible refine z_lst ?_
  | with_reducible refine z_tup ?_
  | ((with_reducible refine z_newL ?_ ?_); (exact Nat.le_of_ble_eq_true rfl); (intro pp HH npp spp opp))
  | ((with_reducible refine z_newT ?_ ?_); (exact Nat.le_of_ble_eq_true rfl); (intro pp HH npp spp opp))
  | ((with_reducible refine' y_chI ?k1 ?k2); (case k1 => exact rfl))
  | with_reducible refine y_chain ?_
  | with_reducible refine y_yes ?_
  | with_reducible refine y_att ?_
  | ((with_reducible refine y_disp ?_ ?_); (exact Nat.le_of_ble_eq_true rfl); (intro pp hpp))
  | ((with_reducible refine' y_gtup ?k1 ?k2 ?k3); (case k1 => walk_at "hp"); (case k2 => exact rfl))
  | with_reducible refine y_gcons ?_
  | with_reducible refine y_gnil ?_
  | with_reducible refine y_mkO ?_
  | with_reducible refine y_callKw ?_
  | with_reducible refine y_mkA ?_
  | with_reducible refine y_sm ?_
  | ((with_reducible refine z_rev (by decide) (by walk_at "hp") ?_); (intro pp HH npp spp opp))
  | with_reducible refine y_rfl ?_
  | with_reducible refine y_mkA1 ?_
  | ((with_reducible refine' y_aqT ?k0 ?k1 ?k2); (case k0 => assumption); (case k1 => walk_at "aq"))
  | ((with_reducible refine' y_aqB ?k0 ?k1 ?k2); (case k0 => assumption); (case k1 => walk_at "aq"))
  | ((with_reducible refine' y_bin ?k1 ?k2 ?k3 ?k4 ?k5); (case k1 => walk_at "aq"); (case k2 => walk_at "nq"); (case k3 => walk_at "sz"); (case k4 => walk_at "sz"); (intro pp HH npp spp opp))
  | ((with_reducible refine' y_rbin ?k1 ?k3 ?k4 ?k5); (case k1 => walk_at "aq"); (case k3 => walk_at "sz"); (case k4 => walk_at "sz"); (intro pp HH npp spp opp))
  | ((with_reducible refine' y_binM ?k1 ?k2 ?k3 ?k4 ?k5); (case k1 => walk_at "aq"); (case k2 => walk_at "nq"); (case k3 => walk_at "sz"); (case k4 => walk_at "sz"); (intro pp HH npp spp opp))
  | ((with_reducible refine' y_rbinM ?k1 ?k3 ?k4 ?k5); (case k1 => walk_at "aq"); (case k3 => walk_at "sz"); (case k4 => walk_at "sz"); (intro pp HH npp spp opp))
  | ((with_reducible refine' y_binD ?k1 ?k2 ?k3 ?k4 ?k5 ?k6); (case k1 => walk_at "aq"); (case k2 => walk_at "nq"); (case k3 => walk_at "sz"); (case k4 => walk_at "sz"); (case k5 => walk_at "nz"); (intro pp HH npp spp opp))
  | ((with_reducible refine' y_rbinD ?k1 ?k3 ?k4 ?k5 ?k6); (case k1 => walk_at "aq"); (case k3 => walk_at "sz"); (case k4 => walk_at "sz"); (case k5 => walk_at "nz"); (intro pp HH npp spp opp))
  | ((with_reducible refine' y_binF ?k1 ?k2 ?k3 ?k4 ?k5 ?k6); (case k1 => walk_at "aq"); (case k2 => walk_at "nq"); (case k3 => walk_at "sz"); (case k4 => walk_at "sz"); (case k5 => walk_at "nz"); (intro HH spp))
  | ((with_reducible refine' y_rbinF ?k1 ?k3 ?k4 ?k5 ?k6); (case k1 => walk_at "aq"); (case k3 => walk_at "sz"); (case k4 => walk_at "sz"); (case k5 => walk_at "nz"); (intro HH spp))
  | ((with_reducible refine' y_cmp ?kK ?k0 ?k1 ?k2 ?k3 ?k4 ?k5); (case kK => exact rfl); (case k0 => assumption); (case k1 => walk_at "aq"); (case k2 => walk_at "nq"); (case k3 => walk_at "sz"); (case k4 => walk_at "sz"); (intro HH spp))
  | ((with_reducible refine' y_rcmp ?k1 ?k3 ?k4 ?k5); (case k1 => walk_at "aq"); (case k3 => walk_at "sz"); (case k4 => walk_at "sz"); (intro HH spp))
  | ((with_reducible refine' y_ceq ?kK ?k0 ?k1 ?k2 ?k5); (case kK => exact rfl); (case k0 => assumption); (case k1 => walk_at "aq"); (case k2 => walk_at "nq"); (intro HH spp))
  | ((with_reducible refine' y_req ?k1 ?k5); (case k1 => walk_at "aq"); (intro HH spp))
  | ((with_reducible refine' y_cne ?kK ?k0 ?k1 ?k2 ?k5); (case kK => exact rfl); (case k0 => assumption); (case k1 => walk_at "aq"); (case k2 => walk_at "nq"); (intro HH spp))
  | ((with_reducible refine' y_un1 ?k1 ?k3 ?k5); (case k1 => walk_at "aq"); (case k3 => walk_at "sz"); (intro pp HH npp spp opp))
  | ((with_reducible refine' y_absO ?k1 ?k3 ?k5); (case k1 => walk_at "aq"); (case k3 => walk_at "sz"); (intro pp HH npp spp opp))
  | ((with_reducible refine' y_truA ?k1 ?k5); (case k1 => walk_at "aq"))
  | ((with_reducible refine' y_boolA ?k1 ?k5); (case k1 => walk_at "aq"))
  | with_reducible refine y_meth ?_
  | ((with_reducible refine' y_methX ?k1 ?k2); (case k1 => walk_at "aq"))
  | ((with_reducible refine' y_over ?k1 ?k2 ?k3 ?k4 ?k5 ?k6); (case k1 => walk_at "aq"); (case k2 => walk_at "nq"); (case k3 => walk_at "sz"); (case k4 => walk_at "sz"); (case k5 => walk_at "nz"); (intro pp HH npp spp opp))
  | ((with_reducible refine y_aug ?_); refine ⟨_, rfl, ?_⟩)
  | ((with_reducible refine' y_nwI ?k1 ?k2 ?k3 ?k4); (case k1 => walk_at "nz"); (case k2 => walk_at "szi"); (case k3 => walk_at "szi"); (intro pp HH npp spp opp))
  | ((with_reducible refine' y_nwI1 ?k2 ?k4); (case k2 => walk_at "szi"); (intro pp HH npp spp opp))
  | with_reducible refine y_fld ?_
  | with_reducible refine y_for ?_
  | with_reducible refine y_iRng1 ?_
  | with_reducible refine y_iRng2 ?_
  | ((with_reducible refine y_rgF1 ?_ ?_); (first | decide | omega))
  | ((with_reducible refine y_rgL1 ?_ ?_); (first | decide | omega))
  | ((with_reducible refine y_rgF2 ?_ ?_); (first | decide | omega))
  | ((with_reducible refine y_rgL2 ?_ ?_); (first | decide | omega))
  | with_reducible refine y_lc ?_
  | with_reducible refine y_rev ?_
  | ((with_reducible refine' y_glst ?k1 ?k2 ?k3); (case k1 => walk_at "hp"); (case k2 => exact rfl))
  | with_reducible refine y_iList ?_
  | with_reducible refine y_iTup ?_
  | with_reducible refine y_iEnum ?_
  | ((with_reducible refine' y_itL ?k1 ?k2); (case k1 => walk_at "hp"))
  | ((with_reducible refine' y_itT ?k1 ?k2); (case k1 => walk_at "hp"))
  | ((with_reducible refine' y_itE ?k1 ?k2); (case k1 => walk_at "hp"))
  | with_reducible refine y_m0 ?_
  | ((with_reducible refine' z_slT ?k1 ?k2 ?k3); (case k1 => walk_at "hp"); (case k2 => decide); (intro pp HH npp spp opp))
  | with_reducible refine y_pp ?_
  | with_reducible refine y_pp0 ?_
  | with_reducible refine y_xv ?_
  | with_reducible refine y_xv0 ?_
  | with_reducible refine y_bm ?_
  | ((with_reducible refine' y_tyL ?k1 ?k2); (case k1 => walk_at "hp"))
  | ((with_reducible refine' y_app ?k1 ?k2 ?k3); (case k1 => walk_at "hp"); (case k2 => (first | exact Nat.le_of_ble_eq_true rfl | walk_at "side")))
  | ((with_reducible refine' z_cat ?k1 ?k2 ?k3 ?k4); (case k1 => walk_at "hp"); (case k2 => walk_at "hp"); (case k3 => (first | exact Nat.le_of_ble_eq_true rfl | walk_at "side")); (intro pp HH npp spp opp))
  | ((with_reducible refine' z_slL ?k1 ?k2); (case k1 => walk_at "hp"); (intro pp HH npp spp opp))
  | ((with_reducible refine' y_in ?k1 ?k2 ?k3 ?k4); (case k1 => walk_at "hp"); (case k2 => exact rfl); (case k3 => exact rfl))
  | with_reducible refine y_iteT ?_
  | with_reducible refine y_iteF ?_
  | with_reducible refine y_iteNT ?_
  | with_reducible refine y_iteNF ?_
  | ((with_reducible refine y_iteY ?_ ?_); (first | exact rfl | assumption | omega))
  | ((with_reducible refine y_iteX ?_ ?_); (first | focus (intro zz; cases zz; done) | assumption | omega))
  | ((with_reducible refine y_iteNY ?_ ?_); (first | exact rfl | assumption | omega))
  | ((with_reducible refine y_iteNX ?_ ?_); (first | focus (intro zz; cases zz; done) | assumption | omega))
  | ((with_reducible refine y_ite ?_ ?_) <;> intro hh)
  | ((with_reducible refine y_iteN ?_ ?_) <;> intro hh)
  | dsimp only)
section
variable {P : Program} {w : World} {K : PySem.W.Frag} {mg : Str → Option Value} {base : Heap}
end
end LW
set_option maxRecDepth 100000
namespace LW
open PySem PySem.Spec PyProof.Rows L2 OZ
section
variable {X : Cx} {e e2 : Expr} {t : TA} {p pos : Pos}
theorem mkAB {K : PySem.W.Frag} (M : MkA X.prog X.w X.K X.mg X.base) (hr : Room 4 X.A) (ha : PA X [e, e2] t) (hK : X.K = K := by rfl) (hg : Gl X "Amount" := by rfl) (he : starEach [e, e2] X.env = (false, eval e X.env) :: starEach [e2] X.env := by rfl) (hpl : (backTo pos (starEach [e2] X.env)).any (·.1) = false := by rfl) :
    PE X (.Call (.Name "Amount" p) [e, e2] [] pos) (tMkA K E0 t) := hK ▸ mkAE M hr passL ha hg he hpl
theorem mkA1B {K : PySem.W.Frag} (M : MkA X.prog X.w X.K X.mg X.base) (hr : Room 4 X.A) (ha : PA X [e] t) (hK : X.K = K := by rfl) (hg : Gl X "Amount" := by rfl) (he : starEach [e] X.env = (false, eval e X.env) :: starEach [] X.env := by rfl) (hpl : (backTo pos (starEach [] X.env)).any (·.1) = false := by rfl) :
    PE X (.Call (.Name "Amount" p) [e] [] pos) (tMkA1 K E0 t) := hK ▸ mkA1E M hr passL ha hg he hpl
end
end LW
set_option maxRecDepth 100000
set_option maxHeartbeats 1000000
namespace LW
open PySem PySem.Spec PyProof.Rows L2 OZ
section
variable {P : Program} {w : World} {K : PySem.W.Frag} {mg : Str → Option Value} {base : Heap}
abbrev s_xba : Stmt := inClass (topS 5) 0
theorem sc_xba : FnScope ["self", "value"] ["self", "value"] (defScope s_xba) := ⟨rfl, rfl, rfl, by decide +kernel, rfl, by decide +kernel, by decide +kernel⟩
theorem ok_xba {f C : Addr} {fd : FuncData} (F : FunD K "__init__" "BadAmount.__init__" (defArgs s_xba) (defBody s_xba) (defScope s_xba) [] [] f fd) (xc : XC K C) (na : NoAttr K C "value") : FnOk P w K mg base (L2.CX P w) 1 f fd ["self", "value"] (spX1 "value" C) := by
  refine F.ok sc_xba (fun vs H Q E h => ?_) (fun cdv A outer s H vs Q E hr h => ?_)
  · obtain ⟨a, v, rfl, _⟩ := h
    rfl
  · obtain ⟨a, v, rfl, ha, k⟩ := h
    refine ⟨_, PSs.nox (pss_one (ps_ost (pv 0) (pv 1))), ?_⟩
    exact ⟨_, rfl, _, rfl, a, C, rfl, xc.oex, na, .inl ⟨ha, fun dx h1 h2 => k dx h1 h2⟩⟩
structure IniF (K : PySem.W.Frag) (mg : Str → Option Value) (x : Str) : Prop where
  g : mg x = some (.ref (He.ga K x))
  xc : XC K (He.ga K x)
  i : PySem.W.findIn K (.ref (He.ga K x)) "__init__" = some (some (.ref (He.ma K (He.ga K x) "__init__")))
  t : PySem.W.typeIn K (.ref (He.ma K (He.ga K x) "__init__")) = some (.type "function")
structure AAll (P : Program) (w : World) (K : PySem.W.Frag) (mg : Str → Option Value) (base : Heap) : Prop where
  Fis_int : Fnc P w K mg base 1 "is_int" ["value"] (spIsInt K)
  Fshared_by : Fnc P w K mg base 1 "shared_by" ["one", "other"] spShared
  Fhalves : Fnc P w K mg base 3 "halves" ["number"] (spHalves K)
  MBadAmount : XMk P w K mg base "BadAmount" (CB K) ["self", "value"] (spX1 "value" (CB K))
  MNoDivisor : X0 K mg "NoDivisor" (CN K)
  O : AOps P w K mg base
  SK_is_number : StcK P w K mg base 2 (CA K) "is_number" ["value"] ["value"] (fun _ zs => zs) (spIsN K)
  SK_of : StcK P w K mg base 5 (CA K) "of" ["number"] ["number"] (fun _ zs => zs) (spOf K)
theorem aall_of (T : TopA K mg) (AF : AmF K (CA K)) (IB : IniF K mg "BadAmount") (naB : NoAttr K (CB K) "value") (MNoDivisor : X0 K mg "NoDivisor" (CN K))
    (g_is_int : mg "is_int" = some (.ref (He.ga K "is_int"))) (h_is_int : ∃ fd, FnP K "is_int" s_isint (He.ga K "is_int") fd)
    (g_shared_by : mg "shared_by" = some (.ref (He.ga K "shared_by"))) (h_shared_by : ∃ fd, FnP K "shared_by" s_shared (He.ga K "shared_by") fd)
    (g_halves : mg "halves" = some (.ref (He.ga K "halves"))) (h_halves : ∃ fd, FnP K "halves" s_halves (He.ga K "halves") fd)
    (h_xba : ∃ fd, FunD K "__init__" "BadAmount.__init__" (defArgs s_xba) (defBody s_xba) (defScope s_xba) [] [] (He.ma K (CB K) "__init__") fd)
    (h_init : ∃ fd, FunD K "__init__" "Amount.__init__" (defArgs s_init) (defBody s_init) (defScope s_init) [.int 1] [] (He.ma K (CA K) "__init__") fd)
    (h_add : ∃ fd, FunD K "__add__" "Amount.__add__" (defArgs s_add) (defBody s_add) (defScope s_add) [] [] (He.ma K (CA K) "__add__") fd)
    (h_sub : ∃ fd, FunD K "__sub__" "Amount.__sub__" (defArgs s_sub) (defBody s_sub) (defScope s_sub) [] [] (He.ma K (CA K) "__sub__") fd)
    (h_neg : ∃ fd, FunD K "__neg__" "Amount.__neg__" (defArgs s_neg) (defBody s_neg) (defScope s_neg) [] [] (He.ma K (CA K) "__neg__") fd)
    (h_abs : ∃ fd, FunD K "__abs__" "Amount.__abs__" (defArgs s_abs) (defBody s_abs) (defScope s_abs) [] [] (He.ma K (CA K) "__abs__") fd)
    (h_bool : ∃ fd, FunD K "__bool__" "Amount.__bool__" (defArgs s_bool) (defBody s_bool) (defScope s_bool) [] [] (He.ma K (CA K) "__bool__") fd)
    (h_lt : ∃ fd, FunD K "__lt__" "Amount.__lt__" (defArgs s_lt) (defBody s_lt) (defScope s_lt) [] [] (He.ma K (CA K) "__lt__") fd)
    (h_le : ∃ fd, FunD K "__le__" "Amount.__le__" (defArgs s_le) (defBody s_le) (defScope s_le) [] [] (He.ma K (CA K) "__le__") fd)
    (h_gt : ∃ fd, FunD K "__gt__" "Amount.__gt__" (defArgs s_gt) (defBody s_gt) (defScope s_gt) [] [] (He.ma K (CA K) "__gt__") fd)
    (h_ge : ∃ fd, FunD K "__ge__" "Amount.__ge__" (defArgs s_ge) (defBody s_ge) (defScope s_ge) [] [] (He.ma K (CA K) "__ge__") fd)
    (h_mul : ∃ fd, FunD K "__mul__" "Amount.__mul__" (defArgs s_mul) (defBody s_mul) (defScope s_mul) [] [] (He.ma K (CA K) "__mul__") fd)
    (h_eq : ∃ fd, FunD K "__eq__" "Amount.__eq__" (defArgs s_eq) (defBody s_eq) (defScope s_eq) [] [] (He.ma K (CA K) "__eq__") fd)
    (h_floordiv : ∃ fd, FunD K "__floordiv__" "Amount.__floordiv__" (defArgs s_floordiv) (defBody s_floordiv) (defScope s_floordiv) [] [] (He.ma K (CA K) "__floordiv__") fd)
    (h_mod : ∃ fd, FunD K "__mod__" "Amount.__mod__" (defArgs s_mod) (defBody s_mod) (defScope s_mod) [] [] (He.ma K (CA K) "__mod__") fd)
    (h_radd : ∃ fd, FunD K "__radd__" "Amount.__radd__" (defArgs s_radd) (defBody s_radd) (defScope s_radd) [] [] (He.ma K (CA K) "__radd__") fd)
    (h_rsub : ∃ fd, FunD K "__rsub__" "Amount.__rsub__" (defArgs s_rsub) (defBody s_rsub) (defScope s_rsub) [] [] (He.ma K (CA K) "__rsub__") fd)
    (h_rmul : ∃ fd, FunD K "__rmul__" "Amount.__rmul__" (defArgs s_rmul) (defBody s_rmul) (defScope s_rmul) [] [] (He.ma K (CA K) "__rmul__") fd)
    (h_rfloordiv : ∃ fd, FunD K "__rfloordiv__" "Amount.__rfloordiv__" (defArgs s_rfloordiv) (defBody s_rfloordiv) (defScope s_rfloordiv) [] [] (He.ma K (CA K) "__rfloordiv__") fd)
    (h_rmod : ∃ fd, FunD K "__rmod__" "Amount.__rmod__" (defArgs s_rmod) (defBody s_rmod) (defScope s_rmod) [] [] (He.ma K (CA K) "__rmod__") fd)
    (h_isn : ∃ fd, FunD K "is_number" "Amount.is_number" (defArgs s_isn) (defBody s_isn) (defScope s_isn) [] [] (He5.wf K (CA K) "staticmethod" "is_number") fd)
    (h_of : ∃ fd, FunD K "of" "Amount.of" (defArgs s_of) (defBody s_of) (defScope s_of) [] [] (He5.wf K (CA K) "staticmethod" "of") fd)
    : AAll P w K mg base := by
  have AC := AmF.c AF
  obtain ⟨f_is_int, F_is_int⟩ := h_is_int
  have Fis_int : Fnc P w K mg base 1 "is_int" ["value"] (spIsInt K) := ⟨_, _, g_is_int, F_is_int.kp, F_is_int.bindsN (fun _ _ _ _ _ _ us hl => match us, hl with | [_], _ => rfl), ok_isint F_is_int T⟩
  obtain ⟨f_shared_by, F_shared_by⟩ := h_shared_by
  have Fshared_by : Fnc P w K mg base 1 "shared_by" ["one", "other"] spShared := ⟨_, _, g_shared_by, F_shared_by.kp, F_shared_by.bindsN (fun _ _ _ _ _ _ us hl => match us, hl with | [_, _], _ => rfl), ok_shared F_shared_by⟩
  obtain ⟨f_xba, F_xba⟩ := h_xba
  have MBadAmount : XMk P w K mg base "BadAmount" (CB K) ["self", "value"] (spX1 "value" (CB K)) := ⟨IB.g, IB.xc, _, _, IB.i, IB.t, F_xba.bindsN (fun _ _ _ _ _ _ us hl => match us, hl with | [_, _], _ => rfl), ok_xba F_xba IB.xc naB⟩
  obtain ⟨f_halves, F_halves⟩ := h_halves
  have Fhalves : Fnc P w K mg base 3 "halves" ["number"] (spHalves K) := ⟨_, _, g_halves, F_halves.kp, F_halves.bindsN (fun _ _ _ _ _ _ us hl => match us, hl with | [_], _ => rfl), ok_halves F_halves T AC Fis_int MBadAmount⟩
  obtain ⟨f_init, F_init⟩ := h_init
  have MA : MkA P w K mg base := by
    have G := ok_init (P := P) (w := w) (base := base) F_init T AC Fis_int Fshared_by MBadAmount MNoDivisor
    have b3 : Binds K f_init ["self", "top", "bottom"] [] := by
      obtain ⟨ds, hv, hb⟩ := F_init.binds1 (ps := ["self", "top", "bottom"]) 3 1 (fun z => by cases z) rfl (fun Tt kV doc pm an cdv ct us its h1 h2 => match us, its, h1, h2 with | [_, _, _], [_], _, _ => ⟨_, rfl, rfl⟩)
      cases hv
      exact hb
    have b2 := F_init.binds1 (ps := ["self", "top", "bottom"]) 2 0 (fun z => by cases z) rfl (fun Tt kV doc pm an cdv ct us its h1 h2 => match us, its, h1, h2 with | [_, _], [_], _, _ => ⟨_, rfl, rfl⟩)
    exact ⟨_, _, T.g_Amount, ⟨AF.mks, (AF.me "__init__" (by decide)).1, (AF.me "__init__" (by decide)).2, AF.kp⟩, G, b3, b2⟩
  obtain ⟨f_isn, F_isn⟩ := h_isn
  obtain ⟨rest_isn, e_isn⟩ := (AF.st "is_number" (by decide)).2
  have S_is_number : Stc P w K mg base 2 (CA K) "is_number" ["value"] (spIsN K) := ⟨AF.cr, _, _, _, rest_isn, (AF.st "is_number" (by decide)).1, e_isn, F_isn.kp, F_isn.bindsN (fun _ _ _ _ _ _ us hl => match us, hl with | [_], _ => rfl), ok_isn F_isn AF T Fis_int⟩
  obtain ⟨f_of, F_of⟩ := h_of
  obtain ⟨rest_of, e_of⟩ := (AF.st "of" (by decide)).2
  have S_of : Stc P w K mg base 5 (CA K) "of" ["number"] (spOf K) := ⟨AF.cr, _, _, _, rest_of, (AF.st "of" (by decide)).1, e_of, F_of.kp, F_of.bindsN (fun _ _ _ _ _ _ us hl => match us, hl with | [_], _ => rfl), ok_of F_of AF T Fhalves MA⟩
  obtain ⟨f_add, F_add⟩ := h_add
  have M_add : Mth P w K mg base 5 (CA K) "__add__" ["self", "other"] _ := ⟨_, _, (AF.me "__add__" (by decide)).1, (AF.me "__add__" (by decide)).2, F_add.bindsN (fun _ _ _ _ _ _ us hl => match us, hl with | [_, _], _ => rfl), ok_add F_add AF T Fhalves MA⟩
  obtain ⟨f_sub, F_sub⟩ := h_sub
  have M_sub : Mth P w K mg base 5 (CA K) "__sub__" ["self", "other"] _ := ⟨_, _, (AF.me "__sub__" (by decide)).1, (AF.me "__sub__" (by decide)).2, F_sub.bindsN (fun _ _ _ _ _ _ us hl => match us, hl with | [_, _], _ => rfl), ok_sub F_sub AF T Fhalves MA⟩
  obtain ⟨f_neg, F_neg⟩ := h_neg
  have M_neg : Mth P w K mg base 5 (CA K) "__neg__" ["self"] _ := ⟨_, _, (AF.me "__neg__" (by decide)).1, (AF.me "__neg__" (by decide)).2, F_neg.bindsN (fun _ _ _ _ _ _ us hl => match us, hl with | [_], _ => rfl), ok_neg F_neg AF T Fhalves MA⟩
  obtain ⟨f_abs, F_abs⟩ := h_abs
  have M_abs : Mth P w K mg base 5 (CA K) "__abs__" ["self"] _ := ⟨_, _, (AF.me "__abs__" (by decide)).1, (AF.me "__abs__" (by decide)).2, F_abs.bindsN (fun _ _ _ _ _ _ us hl => match us, hl with | [_], _ => rfl), ok_abs F_abs AF T Fhalves MA⟩
  obtain ⟨f_bool, F_bool⟩ := h_bool
  have M_bool : Mth P w K mg base 1 (CA K) "__bool__" ["self"] _ := ⟨_, _, (AF.me "__bool__" (by decide)).1, (AF.me "__bool__" (by decide)).2, F_bool.bindsN (fun _ _ _ _ _ _ us hl => match us, hl with | [_], _ => rfl), ok_bool F_bool AF T Fhalves MA⟩
  obtain ⟨f_lt, F_lt⟩ := h_lt
  have M_lt : Mth P w K mg base 5 (CA K) "__lt__" ["self", "other"] _ := ⟨_, _, (AF.me "__lt__" (by decide)).1, (AF.me "__lt__" (by decide)).2, F_lt.bindsN (fun _ _ _ _ _ _ us hl => match us, hl with | [_, _], _ => rfl), ok_lt F_lt AF T Fhalves MA⟩
  obtain ⟨f_le, F_le⟩ := h_le
  have M_le : Mth P w K mg base 5 (CA K) "__le__" ["self", "other"] _ := ⟨_, _, (AF.me "__le__" (by decide)).1, (AF.me "__le__" (by decide)).2, F_le.bindsN (fun _ _ _ _ _ _ us hl => match us, hl with | [_, _], _ => rfl), ok_le F_le AF T Fhalves MA⟩
  obtain ⟨f_gt, F_gt⟩ := h_gt
  have M_gt : Mth P w K mg base 5 (CA K) "__gt__" ["self", "other"] _ := ⟨_, _, (AF.me "__gt__" (by decide)).1, (AF.me "__gt__" (by decide)).2, F_gt.bindsN (fun _ _ _ _ _ _ us hl => match us, hl with | [_, _], _ => rfl), ok_gt F_gt AF T Fhalves MA⟩
  obtain ⟨f_ge, F_ge⟩ := h_ge
  have M_ge : Mth P w K mg base 5 (CA K) "__ge__" ["self", "other"] _ := ⟨_, _, (AF.me "__ge__" (by decide)).1, (AF.me "__ge__" (by decide)).2, F_ge.bindsN (fun _ _ _ _ _ _ us hl => match us, hl with | [_, _], _ => rfl), ok_ge F_ge AF T Fhalves MA⟩
  obtain ⟨f_mul, F_mul⟩ := h_mul
  have M_mul : Mth P w K mg base 5 (CA K) "__mul__" ["self", "other"] _ := ⟨_, _, (AF.me "__mul__" (by decide)).1, (AF.me "__mul__" (by decide)).2, F_mul.bindsN (fun _ _ _ _ _ _ us hl => match us, hl with | [_, _], _ => rfl), ok_mul F_mul AF T Fhalves MA S_is_number⟩
  obtain ⟨f_eq, F_eq⟩ := h_eq
  have M_eq : Mth P w K mg base 5 (CA K) "__eq__" ["self", "other"] _ := ⟨_, _, (AF.me "__eq__" (by decide)).1, (AF.me "__eq__" (by decide)).2, F_eq.bindsN (fun _ _ _ _ _ _ us hl => match us, hl with | [_, _], _ => rfl), ok_eq F_eq AF T Fhalves MA S_is_number⟩
  obtain ⟨f_floordiv, F_floordiv⟩ := h_floordiv
  have M_floordiv : Mth P w K mg base 5 (CA K) "__floordiv__" ["self", "other"] _ := ⟨_, _, (AF.me "__floordiv__" (by decide)).1, (AF.me "__floordiv__" (by decide)).2, F_floordiv.bindsN (fun _ _ _ _ _ _ us hl => match us, hl with | [_, _], _ => rfl), ok_floordiv F_floordiv AF T Fhalves MA MNoDivisor⟩
  obtain ⟨f_mod, F_mod⟩ := h_mod
  have M_mod : Mth P w K mg base 6 (CA K) "__mod__" ["self", "other"] _ := ⟨_, _, (AF.me "__mod__" (by decide)).1, (AF.me "__mod__" (by decide)).2, F_mod.bindsN (fun _ _ _ _ _ _ us hl => match us, hl with | [_, _], _ => rfl), ok_mod F_mod AF T Fhalves MA M_floordiv⟩
  obtain ⟨f_radd, F_radd⟩ := h_radd
  have M_radd : Mth P w K mg base 6 (CA K) "__radd__" ["self", "other"] _ := ⟨_, _, (AF.me "__radd__" (by decide)).1, (AF.me "__radd__" (by decide)).2, F_radd.bindsN (fun _ _ _ _ _ _ us hl => match us, hl with | [_, _], _ => rfl), ok_radd F_radd AF T Fhalves MA M_add⟩
  obtain ⟨f_rsub, F_rsub⟩ := h_rsub
  have M_rsub : Mth P w K mg base 6 (CA K) "__rsub__" ["self", "other"] _ := ⟨_, _, (AF.me "__rsub__" (by decide)).1, (AF.me "__rsub__" (by decide)).2, F_rsub.bindsN (fun _ _ _ _ _ _ us hl => match us, hl with | [_, _], _ => rfl), ok_rsub F_rsub AF T Fhalves MA M_add M_neg⟩
  obtain ⟨f_rmul, F_rmul⟩ := h_rmul
  have M_rmul : Mth P w K mg base 6 (CA K) "__rmul__" ["self", "other"] _ := ⟨_, _, (AF.me "__rmul__" (by decide)).1, (AF.me "__rmul__" (by decide)).2, F_rmul.bindsN (fun _ _ _ _ _ _ us hl => match us, hl with | [_, _], _ => rfl), ok_rmul F_rmul AF T Fhalves MA M_mul⟩
  obtain ⟨f_rfloordiv, F_rfloordiv⟩ := h_rfloordiv
  have M_rfloordiv : Mth P w K mg base 6 (CA K) "__rfloordiv__" ["self", "other"] _ := ⟨_, _, (AF.me "__rfloordiv__" (by decide)).1, (AF.me "__rfloordiv__" (by decide)).2, F_rfloordiv.bindsN (fun _ _ _ _ _ _ us hl => match us, hl with | [_, _], _ => rfl), ok_rfloordiv F_rfloordiv AF T Fhalves MA M_floordiv⟩
  obtain ⟨f_rmod, F_rmod⟩ := h_rmod
  have M_rmod : Mth P w K mg base 7 (CA K) "__rmod__" ["self", "other"] _ := ⟨_, _, (AF.me "__rmod__" (by decide)).1, (AF.me "__rmod__" (by decide)).2, F_rmod.bindsN (fun _ _ _ _ _ _ us hl => match us, hl with | [_, _], _ => rfl), ok_rmod F_rmod AF T Fhalves MA M_mod⟩
  exact { Fis_int := Fis_int, Fshared_by := Fshared_by, Fhalves := Fhalves, MBadAmount := MBadAmount, MNoDivisor := MNoDivisor
          SK_is_number := ⟨AF.cr, _, _, _, rest_isn, _, (AF.st "is_number" (by decide)).1, e_isn, F_isn.kp, kb_of F_isn (fun kV doc pm an cdv ct ws hw => match ws, hw with | [_], _ => rfl), ok_isn F_isn AF T Fis_int⟩
          SK_of := ⟨AF.cr, _, _, _, rest_of, _, (AF.st "of" (by decide)).1, e_of, F_of.kp, kb_of F_of (fun kV doc pm an cdv ct ws hw => match ws, hw with | [_], _ => rfl), ok_of F_of AF T Fhalves MA⟩
          O := { AF := AF, MA := MA, S_is_number := S_is_number, S_of := S_of
                 M_add := M_add, M_sub := M_sub, M_neg := M_neg, M_abs := M_abs, M_bool := M_bool, M_lt := M_lt, M_le := M_le, M_gt := M_gt, M_ge := M_ge, M_mul := M_mul, M_eq := M_eq, M_floordiv := M_floordiv, M_mod := M_mod, M_radd := M_radd, M_rsub := M_rsub, M_rmul := M_rmul, M_rfloordiv := M_rfloordiv, M_rmod := M_rmod } }
end
end LW
set_option maxRecDepth 100000
namespace LW
open PySem PySem.Spec PyProof.Rows L2 OZ
local macro_rules | `(tactic| walk_at "szx1") => `(tactic| first
  | with_reducible assumption
  | exact sz_i64 (n := 64) (by decide)
  | (refine' Sz.add ?sx ?sy; (case sx => walk_at "szx1"); (case sy => walk_at "szx1"))
  | (refine' Sz.sub ?sx ?sy; (case sx => walk_at "szx1"); (case sy => walk_at "szx1"))
  | (refine' Sz.mul ?sx ?sy; (case sx => walk_at "szx1"); (case sy => walk_at "szx1"))
  | (refine' Sz.neg ?sx; (case sx => walk_at "szx1"))
  | (refine' Sz.iabs ?sx; (case sx => walk_at "szx1"))
  | (refine' sz_fdiv ?sx ?sy; (case sy => walk_at "nz"); (case sx => walk_at "szx1")))
local macro_rules | `(tactic| walk_at "szx") => `(tactic| (refine' Sz.mono ?szk ?szl; (case szk => walk_at "szx1"); (case szl => exact Nat.le_of_ble_eq_true rfl)))
local macro_rules | `(tactic| walk_at "aq") => `(tactic| first
  | assumption
  | (refine' AmQ.same ?aqs ?aqk; (case aqs => assumption); (case aqk => walk_at "aq"))
  | (refine' AmQ.extN ?aqs ?aqk; (case aqs => assumption); (case aqk => walk_at "aq"))
  | (refine' AmQ.kpl ?aqs ?aql ?aqk; (case aqs => assumption); (case aql => walk_at "hp"); (case aqk => walk_at "aq"))
  | (refine' AmQ.kp ?aql ?aqs ?aqk; (case aqs => assumption); (case aql => walk_at "pen"); (case aqk => walk_at "aq")))
local macro_rules | `(tactic| walk_at "nq") => `(tactic| first
  | assumption
  | exact NumQ.int
  | (refine' NumQ.am ?nqk; (case nqk => walk_at "aq"))
  | (refine' NumQ.same ?nqs ?nqk; (case nqs => assumption); (case nqk => walk_at "nq"))
  | (refine' NumQ.extN ?nqs ?nqk; (case nqs => assumption); (case nqk => walk_at "nq"))
  | (refine' NumQ.kpl ?nqs ?nql ?nqk; (case nqs => assumption); (case nql => walk_at "hp"); (case nqk => walk_at "nq")))
local macro_rules | `(tactic| walk_at "sz1") => `(tactic| first
  | with_reducible assumption
  | (refine' SzQ.add ?sx ?sy; (case sx => walk_at "sz1"); (case sy => walk_at "sz1"))
  | (refine' SzQ.sub ?sx ?sy; (case sx => walk_at "sz1"); (case sy => walk_at "sz1"))
  | (refine' SzQ.mul ?sx ?sy; (case sx => walk_at "sz1"); (case sy => walk_at "sz1"))
  | (refine' SzQ.div ?sx ?sy ?sz; (case sz => assumption); (case sx => walk_at "sz1"); (case sy => walk_at "sz1"))
  | (refine' SzQ.rmod ?sx ?sy ?sz; (case sz => assumption); (case sx => walk_at "sz1"); (case sy => walk_at "sz1"))
  | (refine' SzQ.neg ?sx; (case sx => walk_at "sz1"))
  | (refine' SzQ.qabs ?sx; (case sx => walk_at "sz1"))
  | (refine' SzQ.int ?sx ?sy; (case sx => with_reducible assumption); (case sy => exact Nat.le_of_ble_eq_true rfl))
  | exact sz_lit (by decide))
local macro_rules | `(tactic| walk_at "sz") => `(tactic| (refine' SzQ.mono ?szk ?szl; (case szk => walk_at "sz1"); (case szl => exact Nat.le_of_ble_eq_true rfl)))
local macro_rules | `(tactic| walk_at "nz") => `(tactic| first
  | assumption
  | decide
  | omega
  | exact intq0 (by decide))
local macro_rules | `(tactic| walk_at "szi") => `(tactic| first
  | assumption
  | exact Sz.mono (by with_reducible assumption) (Nat.le_of_ble_eq_true rfl)
  | exact sz_i64 (by decide))
local macro_rules | `(tactic| walk_at "ex") => `(tactic| first
  | assumption
  | (refine ExAt.same (by assumption) ?_; walk_at "ex"))
local macro_rules | `(tactic| walk_at "same") => `(tactic| first
  | assumption
  | exact same0
  | (refine Same.trans ?_ (by assumption); walk_at "same"))
local macro_rules | `(tactic| walk_at "tabs") => `(tactic| first
  | assumption
  | (refine' OZ.Tabs.same ?tbs ?tbk; (case tbs => assumption); (case tbk => walk_at "tabs"))
  | (refine' OZ.Tabs.kpl ?tbs ?tbl ?tbk; (case tbs => assumption); (case tbl => walk_at "hp"); (case tbk => walk_at "tabs"))
  | (refine' OZ.Tabs.kp ?tbl ?tbs ?tbk; (case tbs => assumption); (case tbl => walk_at "pen"); (case tbk => walk_at "tabs")))
local macro_rules | `(tactic| walk_at "ext") => `(tactic| first
  | assumption
  | exact LamX.ExtN.refl _
  | exact LamX.ExtN.of (by assumption)
  | (refine LamX.ExtN.trans ?_ (by assumption); walk_at "ext")
  | (refine LamX.ExtN.trans ?_ (LamX.ExtN.of (by assumption)); walk_at "ext"))
local macro_rules | `(tactic| walk_at "pen") => `(tactic| first
  | assumption
  | (refine' PenAt.same ?pek ?pes; (case pes => assumption); (case pek => walk_at "pen"))
  | (refine' PenAt.extN ?pek ?pes; (case pes => assumption); (case pek => walk_at "pen")))
local macro_rules | `(tactic| walk_at "kn") => `(tactic| first
  | assumption
  | exact KN.refl
  | (refine KN.trans ?_ (KN.same (by assumption)); walk_at "kn")
  | (refine KN.trans ?_ (KN.kp (by assumption)); walk_at "kn")
  | (refine KN.trans ?_ (KN.ext (by assumption)); walk_at "kn")
  | (refine KN.trans ?_ (by assumption); walk_at "kn"))
local macro_rules | `(tactic| walk_at "free") => `(tactic| first
  | assumption
  | (refine sfree (by assumption) ?_; walk_at "free"))
local macro_rules | `(tactic| walk_at "hp") => `(tactic| first
  | assumption
  | exact upd_same
  | (refine sat (by assumption) ?_; walk_at "hp")
  | (refine' esat ?ess ?esk ?esn; (case ess => assumption); (case esk => walk_at "hp"); (case esn => (intro _ zz; cases zz)))
  | (refine' kpne ?ess ?esn ?esk; (case ess => assumption); (case esn => (first | assumption | exact Ne.symm (by assumption))); (case esk => walk_at "hp"))
  | (refine' kpsat ?ess ?esl ?esk ?esn; (case ess => assumption); (case esl => walk_at "hp"); (case esk => walk_at "hp"); (case esn => (intro _ zz; cases zz)))
  | (refine upd_old ?_ ?_; (first | assumption | exact free_upd (by assumption)); walk_at "hp")
  | (refine upd_oth ?_ ?_; (first | assumption | exact Ne.symm (by assumption)); walk_at "hp"))
local macro_rules | `(tactic| walk_at "side") => `(tactic| first
  | assumption
  | decide
  | omega
  | exact ⟨by omega, by omega, by omega⟩
  | exact Or.inl ⟨by omega, by omega⟩
  | exact Or.inr ⟨by omega, by omega⟩
  | (show (_ : Int) ≠ 0; omega)
  | (refine' Sz.mulW ?ma ?mb ?mc; (case ma => walk_at "szx1"); (case mb => walk_at "szx1"); (case mc => exact Nat.le_of_ble_eq_true rfl))
  | (refine' Sz.divN ?ma ?mb ?mc; (case ma => walk_at "szx1"); (case mb => walk_at "nz"); (case mc => exact Nat.le_of_ble_eq_true rfl))
  | exact wide_div (b := 64) (by omega) (by omega) (by decide) (by decide)
  | exact wide_div (b := 4000) (by assumption) (by assumption) (by decide) (by decide))
local macro_rules | `(tactic| walk_at "y") => `(tactic| first
  | ((with_reducible refine y_var ?_); refine ⟨_, rfl, ?_⟩)
  | with_reducible refine y_c ?_
  | with_reducible refine y_op ?_
  | with_reducible refine y_cb ?_
  | with_reducible refine y_cons ?_
  | with_reducible refine y_nil ?_
  | with_reducible refine y_seq ?_
  | with_reducible refine y_asg ?_
  | with_reducible refine x_gn ?_
  | ((with_reducible refine' y_nx ?k1 ?k2); (case k1 => (simp only [L2.start, List.length_cons, List.length_nil, List.map_cons, List.map_nil, List.set_cons_succ, List.set_cons_zero, List.cons_append, List.nil_append, List.replicate]; rfl)))
  | with_reducible refine y_gsub ?_
  | with_reducible refine y_ret ?_
  | with_reducible refine y_drop ?_
  | with_reducible refine y_next ?_
  | with_reducible refine y_ifS ?_
  | with_reducible refine y_test ?_
  | with_reducible refine y_B ?_
  | with_reducible refine y_ex ?_
  | with_reducible refine y_not ?_
  | with_reducible refine y_and ?_
  | with_reducible refine y_or ?_
  | with_reducible refine y_notV ?_
  | with_reducible refine y_andV ?_
  | with_reducible refine y_orV ?_
  | with_reducible refine y_ifE ?_
  | with_reducible refine y_un ?_
  | with_reducible refine x_par ?_
  | with_reducible refine y_ex2 ?_
  | with_reducible refine y_call ?_
  | with_reducible refine y_callS ?_
  | with_reducible refine y_I0 ?_
  | ((with_reducible refine y_I ?_ ?_); (walk_at "side"))
  | with_reducible refine y_U ?_
  | ((with_reducible refine y_eq ?_ ?_); (exact rfl))
  | ((with_reducible refine y_ne ?_ ?_); (exact rfl))
  | ((with_reducible refine' y_ixL ?k1 ?k2 ?k3); (case k1 => walk_at "hp"); (case k2 => (first | assumption | exact rfl)))
  | ((with_reducible refine' y_ixT ?k1 ?k2 ?k3); (case k1 => walk_at "hp"); (case k2 => (first | assumption | exact rfl)))
  | ((with_reducible refine' y_setL ?k1 ?k2 ?k3); (case k1 => walk_at "hp"); (case k2 => (first | assumption | exact rfl)))
  | with_reducible refine y_int ?_
  | with_reducible refine y_intB ?_
  | with_reducible refine y_abs ?_
  | ((with_reducible refine' y_lenL ?k1 ?k3); (case k1 => walk_at "hp"))
  | ((with_reducible refine' y_lenT ?k1 ?k3); (case k1 => walk_at "hp"))
  | ((with_reducible refine y_lenS ?_ ?_); (walk_at "side"))
  | with_reducible refine y_isN ?_
  | with_reducible refine y_notN ?_
  | ((with_reducible refine y_addS ?_ ?_); (walk_at "side"))
  | with_reducible refine y_inC ?_
  | with_reducible refine y_notInC ?_
  | with_reducible refine y_sl ?_
  | with_reducible refine y_part ?_
  | with_reducible refine y_nopart ?_
  | with_reducible refine y_exI ?_
  | ((with_reducible refine y_slS ?_ ?_); (walk_at "side"))
  | with_reducible refine z_lst ?_
  | with_reducible refine z_tup ?_
  | ((with_reducible refine z_newL ?_ ?_); (exact Nat.le_of_ble_eq_true rfl); (intro pp HH npp spp opp))
  | ((with_reducible refine z_newT ?_ ?_); (exact Nat.le_of_ble_eq_true rfl); (intro pp HH npp spp opp))
  | ((with_reducible refine' y_chI ?k1 ?k2); (case k1 => exact rfl))
  | with_reducible refine y_chain ?_
  | with_reducible refine y_yes ?_
  | with_reducible refine y_att ?_
  | ((with_reducible refine y_disp ?_ ?_); (exact Nat.le_of_ble_eq_true rfl); (intro pp hpp))
  | ((with_reducible refine' y_gtup ?k1 ?k2 ?k3); (case k1 => walk_at "hp"); (case k2 => exact rfl))
  | with_reducible refine y_gcons ?_
  | with_reducible refine y_gnil ?_
  | with_reducible refine y_mkO ?_
  | with_reducible refine y_callKw ?_
  | with_reducible refine y_mkA ?_
  | with_reducible refine y_sm ?_
  | with_reducible refine y_smK ?_
  | with_reducible refine y_cut0 ?_
  | with_reducible refine y_methK ?_
  | ((with_reducible refine' y_lm ?k1 ?k2); (case k1 => walk_at "tabs"); (intro HH ee tt))
  | ((with_reducible refine' z_rep ?k1 ?k2 ?k3 ?k4 ?k5); (case k1 => walk_at "hp"); (case k2 => decide); (case k3 => decide); (case k4 => exact Nat.le_of_ble_eq_true rfl); (intro pp HH npp spp opp))
  | ((with_reducible refine z_rev (by decide) (by walk_at "hp") ?_); (intro pp HH npp spp opp))
  | with_reducible refine y_rfl ?_
  | with_reducible refine y_mkA1 ?_
  | ((with_reducible refine' y_aqT ?k0 ?k1 ?k2); (case k0 => assumption); (case k1 => walk_at "aq"))
  | ((with_reducible refine' y_aqB ?k0 ?k1 ?k2); (case k0 => assumption); (case k1 => walk_at "aq"))
  | ((with_reducible refine' y_bin ?k1 ?k2 ?k3 ?k4 ?k5); (case k1 => walk_at "aq"); (case k2 => walk_at "nq"); (case k3 => walk_at "sz"); (case k4 => walk_at "sz"); (intro pp HH npp spp opp))
  | ((with_reducible refine' y_rbin ?k1 ?k3 ?k4 ?k5); (case k1 => walk_at "aq"); (case k3 => walk_at "sz"); (case k4 => walk_at "sz"); (intro pp HH npp spp opp))
  | ((with_reducible refine' y_binM ?k1 ?k2 ?k3 ?k4 ?k5); (case k1 => walk_at "aq"); (case k2 => walk_at "nq"); (case k3 => walk_at "sz"); (case k4 => walk_at "sz"); (intro pp HH npp spp opp))
  | ((with_reducible refine' y_rbinM ?k1 ?k3 ?k4 ?k5); (case k1 => walk_at "aq"); (case k3 => walk_at "sz"); (case k4 => walk_at "sz"); (intro pp HH npp spp opp))
  | ((with_reducible refine' y_binD ?k1 ?k2 ?k3 ?k4 ?k5 ?k6); (case k1 => walk_at "aq"); (case k2 => walk_at "nq"); (case k3 => walk_at "sz"); (case k4 => walk_at "sz"); (case k5 => walk_at "nz"); (intro pp HH npp spp opp))
  | ((with_reducible refine' y_rbinD ?k1 ?k3 ?k4 ?k5 ?k6); (case k1 => walk_at "aq"); (case k3 => walk_at "sz"); (case k4 => walk_at "sz"); (case k5 => walk_at "nz"); (intro pp HH npp spp opp))
  | ((with_reducible refine' y_binF ?k1 ?k2 ?k3 ?k4 ?k5 ?k6); (case k1 => walk_at "aq"); (case k2 => walk_at "nq"); (case k3 => walk_at "sz"); (case k4 => walk_at "sz"); (case k5 => walk_at "nz"); (intro HH spp))
  | ((with_reducible refine' y_rbinF ?k1 ?k3 ?k4 ?k5 ?k6); (case k1 => walk_at "aq"); (case k3 => walk_at "sz"); (case k4 => walk_at "sz"); (case k5 => walk_at "nz"); (intro HH spp))
  | ((with_reducible refine' y_cmp ?kK ?k0 ?k1 ?k2 ?k3 ?k4 ?k5); (case kK => exact rfl); (case k0 => assumption); (case k1 => walk_at "aq"); (case k2 => walk_at "nq"); (case k3 => walk_at "sz"); (case k4 => walk_at "sz"); (intro HH spp))
  | ((with_reducible refine' y_rcmp ?k1 ?k3 ?k4 ?k5); (case k1 => walk_at "aq"); (case k3 => walk_at "sz"); (case k4 => walk_at "sz"); (intro HH spp))
  | ((with_reducible refine' y_ceq ?kK ?k0 ?k1 ?k2 ?k5); (case kK => exact rfl); (case k0 => assumption); (case k1 => walk_at "aq"); (case k2 => walk_at "nq"); (intro HH spp))
  | ((with_reducible refine' y_req ?k1 ?k5); (case k1 => walk_at "aq"); (intro HH spp))
  | ((with_reducible refine' y_cne ?kK ?k0 ?k1 ?k2 ?k5); (case kK => exact rfl); (case k0 => assumption); (case k1 => walk_at "aq"); (case k2 => walk_at "nq"); (intro HH spp))
  | ((with_reducible refine' y_un1 ?k1 ?k3 ?k5); (case k1 => walk_at "aq"); (case k3 => walk_at "sz"); (intro pp HH npp spp opp))
  | ((with_reducible refine' y_absO ?k1 ?k3 ?k5); (case k1 => walk_at "aq"); (case k3 => walk_at "sz"); (intro pp HH npp spp opp))
  | ((with_reducible refine' y_truA ?k1 ?k5); (case k1 => walk_at "aq"))
  | ((with_reducible refine' y_boolA ?k1 ?k5); (case k1 => walk_at "aq"))
  | with_reducible refine y_meth ?_
  | ((with_reducible refine' y_methX ?k1 ?k2); (case k1 => walk_at "aq"))
  | ((with_reducible refine' y_over ?k1 ?k2 ?k3 ?k4 ?k5 ?k6); (case k1 => walk_at "aq"); (case k2 => walk_at "nq"); (case k3 => walk_at "sz"); (case k4 => walk_at "sz"); (case k5 => walk_at "nz"); (intro pp HH npp spp opp))
  | ((with_reducible refine x_aug ?_); refine ⟨_, rfl, ?_⟩)
  | ((with_reducible refine' y_nwI ?k1 ?k2 ?k3 ?k4); (case k1 => walk_at "nz"); (case k2 => walk_at "szi"); (case k3 => walk_at "szi"); (intro pp HH npp spp opp))
  | ((with_reducible refine' y_nwI1 ?k2 ?k4); (case k2 => walk_at "szi"); (intro pp HH npp spp opp))
  | with_reducible refine y_fld ?_
  | with_reducible refine y_for ?_
  | with_reducible refine y_iRng1 ?_
  | with_reducible refine y_iRng2 ?_
  | ((with_reducible refine y_rgF1 ?_ ?_); (first | decide | omega))
  | ((with_reducible refine y_rgL1 ?_ ?_); (first | decide | omega))
  | ((with_reducible refine y_rgF2 ?_ ?_); (first | decide | omega))
  | ((with_reducible refine y_rgL2 ?_ ?_); (first | decide | omega))
  | with_reducible refine y_lc ?_
  | with_reducible refine y_rev ?_
  | ((with_reducible refine' y_glst ?k1 ?k2 ?k3); (case k1 => walk_at "hp"); (case k2 => exact rfl))
  | with_reducible refine y_iList ?_
  | with_reducible refine y_iTup ?_
  | with_reducible refine y_iEnum ?_
  | ((with_reducible refine' y_itL ?k1 ?k2); (case k1 => walk_at "hp"))
  | ((with_reducible refine' y_itT ?k1 ?k2); (case k1 => walk_at "hp"))
  | ((with_reducible refine' y_itE ?k1 ?k2); (case k1 => walk_at "hp"))
  | with_reducible refine y_m0 ?_
  | ((with_reducible refine' z_slT ?k1 ?k2 ?k3); (case k1 => walk_at "hp"); (case k2 => decide); (intro pp HH npp spp opp))
  | with_reducible refine y_pp ?_
  | with_reducible refine y_pp0 ?_
  | with_reducible refine y_xv ?_
  | with_reducible refine y_xv0 ?_
  | with_reducible refine y_bm ?_
  | ((with_reducible refine' y_tyL ?k1 ?k2); (case k1 => walk_at "hp"))
  | ((with_reducible refine' z_app ?k1 ?k2 ?k3); (case k1 => walk_at "hp"); (case k2 => (first | exact Nat.le_of_ble_eq_true rfl | walk_at "side")); (intro HH kpp opp))
  | ((with_reducible refine' z_cat ?k1 ?k2 ?k3 ?k4); (case k1 => walk_at "hp"); (case k2 => walk_at "hp"); (case k3 => (first | exact Nat.le_of_ble_eq_true rfl | walk_at "side")); (intro pp HH npp spp opp))
  | ((with_reducible refine' z_slL ?k1 ?k2); (case k1 => walk_at "hp"); (intro pp HH npp spp opp))
  | ((with_reducible refine' y_in ?k1 ?k2 ?k3 ?k4); (case k1 => walk_at "hp"); (case k2 => exact rfl); (case k3 => exact rfl))
  | with_reducible refine y_iteT ?_
  | with_reducible refine y_iteF ?_
  | with_reducible refine y_iteNT ?_
  | with_reducible refine y_iteNF ?_
  | ((with_reducible refine y_iteY ?_ ?_); (first | exact rfl | assumption | omega))
  | ((with_reducible refine y_iteX ?_ ?_); (first | focus (intro zz; cases zz; done) | assumption | omega))
  | ((with_reducible refine y_iteNY ?_ ?_); (first | exact rfl | assumption | omega))
  | ((with_reducible refine y_iteNX ?_ ?_); (first | focus (intro zz; cases zz; done) | assumption | omega))
  | ((with_reducible refine y_ite ?_ ?_) <;> intro hh)
  | ((with_reducible refine y_iteN ?_ ?_) <;> intro hh)
  | dsimp only)
structure TopN (K : PySem.W.Frag) (mg : Str → Option Value) : Prop extends TopA K mg where
  n_all : mg "all" = none
  c_LONGEST : ∃ t, mg "LONGEST" = some (.int 8 t)
  c_LETTERS : ∃ t, mg "LETTERS" = some (.str LET t)
def isNm (x : Str) : Bool := decide (1 ≤ x.length) && (decide (x.length ≤ 8) && x.cps.toList.all fun c => decide (c ∈ LET.cps.toList))
def nmV : V → Bool
  | .str x => isNm x
  | _ => false
theorem isNm_len {x : Str} (h : isNm x = true) : x.length ≤ 8 := by
  unfold isNm at h
  simp only [Bool.and_eq_true, decide_eq_true_eq] at h
  exact h.2.1
def spIsNm (K : PySem.W.Frag) : Sp := fun vs H Q _ => ∃ v : V, vs = [v] ∧ StrV K H v ∧ ∀ H', Same H H' → Q (.bl (nmV v)) H'
section
variable {P : Program} {w : World} {K : PySem.W.Frag} {mg : Str → Option Value} {base : Heap}
abbrev s_isnm : Stmt := topS 13
theorem sc_isnm : FnScope ["value", "letter"] ["value"] (defScope s_isnm) := ⟨rfl, rfl, rfl, by decide +kernel, rfl, by decide +kernel, by decide +kernel⟩
theorem ok_isnm {f : Addr} {fd : FuncData} (F : FnP K "is_name" s_isnm f fd) (T : TopN K mg) : FnOk P w K mg base (L2.CX P w) 1 f fd ["value"] (spIsNm K) := by
  have nd := sc_isnm.nd
  refine F.ok sc_isnm (fun vs H Q E h => ?_) (fun cdv A outer s H vs Q E hr h => ?_)
  · obtain ⟨v, rfl, _⟩ := h
    rfl
  · obtain ⟨v, rfl, ⟨t, b, ty, kt, hb⟩, k⟩ := h
    refine ⟨_, PSs.nox (pss_cons (ps_if (PW.pt (pw_or (pt_not (pt_val (pe_callB c_isA (by rfl) T.n_isinstance (by decide +kernel) (pa_cons (pv 0) (pa_cons (ob_ty (T := "str") T.n_str (by decide +kernel)) pa_nil))))) (pw_or1 (pt_not (pt_chain op_le op_le pe_int (pe_callB c_lenS (by rfl) T.n_len (by decide +kernel) (pa_cons (pv 0) pa_nil)) (og_int T.c_LONGEST))))))
        (pss_one (ps_ret pe_bl))
        pss_nil)
      (pss_one (ps_ret (pe_callB (cr_all rfl) (by rfl) T.n_all (by decide +kernel) (pa_cons (pe_lc (own := [("letter", 1)]) (g := gName 1) rfl nd (pi_str (pv 0)) (blkOk_by (N := ["value", "letter"]) (sc := defScope (topS 13)) (by decide +kernel)) (fun _ _ _ _ _ => (pg_name (i := 1) nd rfl (Or.inl rfl))) (fun _ _ _ _ _ => pts_nil) (fun _ _ _ _ _ => (pe_cmpR o_inC (pv 1) (og_str T.c_LETTERS) (by rfl)))) pa_nil))))), ?_⟩
    repeat walk_at "y"
    refine .inl ⟨_, _, _, _, _, rfl, .ty "str", ty, kt, ?_⟩
    rcases hb with ⟨rfl, x, rfl, hx⟩ | ⟨rfl, hb⟩
    · have hsz : x.length ≤ sizeLine := by rw [sizeLine_eq]; omega
      have bad : nmV (.str x) = false → Q (.bl false) H := fun e => by rw [e] at k; exact k H (Same.refl H)
      repeat walk_at "y"
      · exact bad (by simp only [nmV, isNm]; rw [decide_eq_false (show ¬ x.length ≤ 8 by omega)]; simp)
      · repeat walk_at "y"
        refine ⟨_, rfl, x, rfl, fun D hD => ?_⟩
        refine lc_it walk_str (fun i H' => Same H H' ∧ H' D = some (.lst ((x.cps.toList.take i).map fun c => V.bl (decide (c ∈ LET.cps.toList))))) ⟨fun b o e => upd_old hD e, upd_same⟩ (fun _ _ _ _ => trivial) ?_ ?_
        · rintro i v H1 H2 hi ⟨s1, hl⟩ ⟨rfl, c, hc, rfl⟩
          refine ⟨rfl, ?_⟩
          repeat walk_at "y"
          have hc2 : x.cps.toList[i]? = some c := by rw [Array.getElem?_toList]; exact hc
          refine ⟨_, hl, ?_, ?_⟩
          · rw [List.length_map, List.length_take]
            rw [sizeLine_eq]
            have : x.cps.toList.length = x.length := by simp [Str.length]
            omega
          · refine ⟨fun b o e => upd_oth (ne_of_none e hD) (s1 b o e), ?_⟩
            rw [upd_same, take_more hc2, List.map_append]
            rfl
        · rintro H1 ⟨s1, hl⟩
          repeat walk_at "y"
          refine ⟨D, (x.cps.toList.map fun c => decide (c ∈ LET.cps.toList)), rfl, SqL.of ?_, ?_⟩
          · rw [hl]
            have : x.cps.size = x.cps.toList.length := by simp
            rw [this, List.take_length, List.map_map]
            rfl
          · have e : nmV (.str x) = (x.cps.toList.map fun c => decide (c ∈ LET.cps.toList)).all id := by
              simp only [nmV, isNm]
              rw [decide_eq_true (show 1 ≤ x.length by omega), decide_eq_true (show x.length ≤ 8 by omega), List.all_map]
              rfl
            rw [e] at k
            exact k H1 s1
      · repeat walk_at "y"
        exact bad (by simp only [nmV, isNm]; rw [decide_eq_false (show ¬ 1 ≤ x.length by omega)]; simp)
    · have e : nmV v = false := by
        cases v with
        | str x => exact absurd rfl (hb x)
        | _ => rfl
      repeat walk_at "y"
      rw [e] at k
      exact k H (Same.refl H)
end
section
variable {K : PySem.W.Frag}
theorem y_pickL {p c l : Addr} {n : Nat} {xs : List V} {H : Hp} {Q : VK} {E : XK} (Pv : V → Prop) (hP : PenAt H p c n) (hn : n ≤ 1000000) (nl : l ≠ p) (hl : H l = some (.lst xs)) (h0 : 0 < xs.length) (h1 : xs.length ≤ 1000) (hv : ∀ x ∈ xs, Pv x)
    (k : ∀ x H', Pv x → PenAt H' p c (n + 1) → Kp p H H' → Q x H') : spPick [.ref p, .ref l] H Q E :=
  ⟨p, c, n, _, rfl, hP, hn, .inl ⟨l, xs, rfl, nl, hl, h0, h1, fun i x H' hx P1 k1 => k x H' (hv x (List.mem_of_getElem? hx)) P1 k1⟩⟩
theorem y_pickH {p c l : Addr} {n : Nat} {xs : List V} {H : Hp} {Q : VK} {E : XK} (Pv : Hp → V → Prop) (hP : PenAt H p c n) (hn : n ≤ 1000000) (nl : l ≠ p) (hl : H l = some (.lst xs)) (h0 : 0 < xs.length) (h1 : xs.length ≤ 1000) (hv : ∀ x ∈ xs, Pv H x)
    (k : ∀ x H', Pv H x → PenAt H p c n → PenAt H' p c (n + 1) → Kp p H H' → Q x H') : spPick ([.ref p, .ref l] ++ []) H Q E :=
  y_pickL (Pv H) hP hn nl hl h0 h1 hv fun x H' h P1 k1 => k x H' h hP P1 k1
end
end LW
set_option maxRecDepth 100000
namespace LW
open PySem PySem.Spec PyProof.Rows L2 OZ
local macro_rules | `(tactic| walk_at "szx1") => `(tactic| first
  | with_reducible assumption
  | exact sz_i64 (n := 64) (by decide)
  | (refine' Sz.add ?sx ?sy; (case sx => walk_at "szx1"); (case sy => walk_at "szx1"))
  | (refine' Sz.sub ?sx ?sy; (case sx => walk_at "szx1"); (case sy => walk_at "szx1"))
  | (refine' Sz.mul ?sx ?sy; (case sx => walk_at "szx1"); (case sy => walk_at "szx1"))
  | (refine' Sz.neg ?sx; (case sx => walk_at "szx1"))
  | (refine' Sz.iabs ?sx; (case sx => walk_at "szx1"))
  | (refine' sz_fdiv ?sx ?sy; (case sy => walk_at "nz"); (case sx => walk_at "szx1")))
local macro_rules | `(tactic| walk_at "szx") => `(tactic| (refine' Sz.mono ?szk ?szl; (case szk => walk_at "szx1"); (case szl => exact Nat.le_of_ble_eq_true rfl)))
local macro_rules | `(tactic| walk_at "aq") => `(tactic| first
  | assumption
  | (refine' AmQ.same ?aqs ?aqk; (case aqs => assumption); (case aqk => walk_at "aq"))
  | (refine' AmQ.extN ?aqs ?aqk; (case aqs => assumption); (case aqk => walk_at "aq"))
  | (refine' AmQ.kpl ?aqs ?aql ?aqk; (case aqs => assumption); (case aql => walk_at "hp"); (case aqk => walk_at "aq"))
  | (refine' AmQ.kp ?aql ?aqs ?aqk; (case aqs => assumption); (case aql => walk_at "pen"); (case aqk => walk_at "aq")))
local macro_rules | `(tactic| walk_at "nq") => `(tactic| first
  | assumption
  | exact NumQ.int
  | (refine' NumQ.am ?nqk; (case nqk => walk_at "aq"))
  | (refine' NumQ.same ?nqs ?nqk; (case nqs => assumption); (case nqk => walk_at "nq"))
  | (refine' NumQ.extN ?nqs ?nqk; (case nqs => assumption); (case nqk => walk_at "nq"))
  | (refine' NumQ.kpl ?nqs ?nql ?nqk; (case nqs => assumption); (case nql => walk_at "hp"); (case nqk => walk_at "nq")))
local macro_rules | `(tactic| walk_at "sz1") => `(tactic| first
  | with_reducible assumption
  | (refine' SzQ.add ?sx ?sy; (case sx => walk_at "sz1"); (case sy => walk_at "sz1"))
  | (refine' SzQ.sub ?sx ?sy; (case sx => walk_at "sz1"); (case sy => walk_at "sz1"))
  | (refine' SzQ.mul ?sx ?sy; (case sx => walk_at "sz1"); (case sy => walk_at "sz1"))
  | (refine' SzQ.div ?sx ?sy ?sz; (case sz => assumption); (case sx => walk_at "sz1"); (case sy => walk_at "sz1"))
  | (refine' SzQ.rmod ?sx ?sy ?sz; (case sz => assumption); (case sx => walk_at "sz1"); (case sy => walk_at "sz1"))
  | (refine' SzQ.neg ?sx; (case sx => walk_at "sz1"))
  | (refine' SzQ.qabs ?sx; (case sx => walk_at "sz1"))
  | (refine' SzQ.int ?sx ?sy; (case sx => with_reducible assumption); (case sy => exact Nat.le_of_ble_eq_true rfl))
  | exact sz_lit (by decide))
local macro_rules | `(tactic| walk_at "sz") => `(tactic| (refine' SzQ.mono ?szk ?szl; (case szk => walk_at "sz1"); (case szl => exact Nat.le_of_ble_eq_true rfl)))
local macro_rules | `(tactic| walk_at "nz") => `(tactic| first
  | assumption
  | decide
  | omega
  | exact intq0 (by decide))
local macro_rules | `(tactic| walk_at "szi") => `(tactic| first
  | assumption
  | exact Sz.mono (by with_reducible assumption) (Nat.le_of_ble_eq_true rfl)
  | exact sz_i64 (by decide))
local macro_rules | `(tactic| walk_at "ex") => `(tactic| first
  | assumption
  | (refine ExAt.same (by assumption) ?_; walk_at "ex"))
local macro_rules | `(tactic| walk_at "same") => `(tactic| first
  | assumption
  | exact same0
  | (refine Same.trans ?_ (by assumption); walk_at "same"))
local macro_rules | `(tactic| walk_at "tabs") => `(tactic| first
  | assumption
  | (refine' OZ.Tabs.same ?tbs ?tbk; (case tbs => assumption); (case tbk => walk_at "tabs"))
  | (refine' OZ.Tabs.kpl ?tbs ?tbl ?tbk; (case tbs => assumption); (case tbl => walk_at "hp"); (case tbk => walk_at "tabs"))
  | (refine' OZ.Tabs.kp ?tbl ?tbs ?tbk; (case tbs => assumption); (case tbl => walk_at "pen"); (case tbk => walk_at "tabs")))
local macro_rules | `(tactic| walk_at "ext") => `(tactic| first
  | assumption
  | exact LamX.ExtN.refl _
  | exact LamX.ExtN.of (by assumption)
  | (refine LamX.ExtN.trans ?_ (by assumption); walk_at "ext")
  | (refine LamX.ExtN.trans ?_ (LamX.ExtN.of (by assumption)); walk_at "ext"))
local macro_rules | `(tactic| walk_at "pen") => `(tactic| first
  | assumption
  | (refine' PenAt.same ?pek ?pes; (case pes => assumption); (case pek => walk_at "pen"))
  | (refine' PenAt.extN ?pek ?pes; (case pes => assumption); (case pek => walk_at "pen")))
local macro_rules | `(tactic| walk_at "kn") => `(tactic| first
  | assumption
  | exact KN.refl
  | (refine KN.trans ?_ (KN.same (by assumption)); walk_at "kn")
  | (refine KN.trans ?_ (KN.kp (by assumption)); walk_at "kn")
  | (refine KN.trans ?_ (KN.ext (by assumption)); walk_at "kn")
  | (refine KN.trans ?_ (by assumption); walk_at "kn"))
local macro_rules | `(tactic| walk_at "free") => `(tactic| first
  | assumption
  | (refine sfree (by assumption) ?_; walk_at "free"))
local macro_rules | `(tactic| walk_at "hp") => `(tactic| first
  | assumption
  | exact upd_same
  | (refine sat (by assumption) ?_; walk_at "hp")
  | (refine' esat ?ess ?esk ?esn; (case ess => assumption); (case esk => walk_at "hp"); (case esn => (intro _ zz; cases zz)))
  | (refine' kpne ?ess ?esn ?esk; (case ess => assumption); (case esn => (first | assumption | exact Ne.symm (by assumption))); (case esk => walk_at "hp"))
  | (refine' kpsat ?ess ?esl ?esk ?esn; (case ess => assumption); (case esl => walk_at "hp"); (case esk => walk_at "hp"); (case esn => (intro _ zz; cases zz)))
  | (refine upd_old ?_ ?_; (first | assumption | exact free_upd (by assumption)); walk_at "hp")
  | (refine upd_oth ?_ ?_; (first | assumption | exact Ne.symm (by assumption)); walk_at "hp"))
local macro_rules | `(tactic| walk_at "side") => `(tactic| first
  | assumption
  | decide
  | omega
  | exact ⟨by omega, by omega, by omega⟩
  | exact Or.inl ⟨by omega, by omega⟩
  | exact Or.inr ⟨by omega, by omega⟩
  | (show (_ : Int) ≠ 0; omega)
  | (refine' Sz.mulW ?ma ?mb ?mc; (case ma => walk_at "szx1"); (case mb => walk_at "szx1"); (case mc => exact Nat.le_of_ble_eq_true rfl))
  | (refine' Sz.divN ?ma ?mb ?mc; (case ma => walk_at "szx1"); (case mb => walk_at "nz"); (case mc => exact Nat.le_of_ble_eq_true rfl))
  | exact wide_div (b := 64) (by omega) (by omega) (by decide) (by decide)
  | exact wide_div (b := 4000) (by assumption) (by assumption) (by decide) (by decide))
local macro_rules | `(tactic| walk_at "y") => `(tactic| first
  | ((with_reducible refine y_var ?_); refine ⟨_, rfl, ?_⟩)
  | with_reducible refine y_c ?_
  | with_reducible refine y_op ?_
  | with_reducible refine y_cb ?_
  | with_reducible refine y_cons ?_
  | with_reducible refine y_nil ?_
  | with_reducible refine y_seq ?_
  | with_reducible refine y_asg ?_
  | with_reducible refine x_gn ?_
  | ((with_reducible refine' y_nx ?k1 ?k2); (case k1 => (simp only [L2.start, List.length_cons, List.length_nil, List.map_cons, List.map_nil, List.set_cons_succ, List.set_cons_zero, List.cons_append, List.nil_append, List.replicate]; rfl)))
  | with_reducible refine y_gsub ?_
  | with_reducible refine y_ret ?_
  | with_reducible refine y_drop ?_
  | with_reducible refine y_next ?_
  | with_reducible refine y_ifS ?_
  | with_reducible refine y_test ?_
  | with_reducible refine y_B ?_
  | with_reducible refine y_ex ?_
  | with_reducible refine y_not ?_
  | with_reducible refine y_and ?_
  | with_reducible refine y_or ?_
  | with_reducible refine y_notV ?_
  | with_reducible refine y_andV ?_
  | with_reducible refine y_orV ?_
  | with_reducible refine y_ifE ?_
  | with_reducible refine y_un ?_
  | with_reducible refine x_par ?_
  | with_reducible refine y_ex2 ?_
  | with_reducible refine y_call ?_
  | with_reducible refine y_callS ?_
  | with_reducible refine y_I0 ?_
  | ((with_reducible refine y_I ?_ ?_); (walk_at "side"))
  | with_reducible refine y_U ?_
  | ((with_reducible refine y_eq ?_ ?_); (exact rfl))
  | ((with_reducible refine y_ne ?_ ?_); (exact rfl))
  | ((with_reducible refine' y_ixL ?k1 ?k2 ?k3); (case k1 => walk_at "hp"); (case k2 => (first | assumption | exact rfl)))
  | ((with_reducible refine' y_ixT ?k1 ?k2 ?k3); (case k1 => walk_at "hp"); (case k2 => (first | assumption | exact rfl)))
  | ((with_reducible refine' y_setL ?k1 ?k2 ?k3); (case k1 => walk_at "hp"); (case k2 => (first | assumption | exact rfl)))
  | with_reducible refine y_int ?_
  | with_reducible refine y_intB ?_
  | with_reducible refine y_abs ?_
  | ((with_reducible refine' y_lenL ?k1 ?k3); (case k1 => walk_at "hp"))
  | ((with_reducible refine' y_lenT ?k1 ?k3); (case k1 => walk_at "hp"))
  | ((with_reducible refine y_lenS ?_ ?_); (walk_at "side"))
  | with_reducible refine y_isN ?_
  | with_reducible refine y_notN ?_
  | ((with_reducible refine y_addS ?_ ?_); (walk_at "side"))
  | with_reducible refine y_inC ?_
  | with_reducible refine y_notInC ?_
  | with_reducible refine y_sl ?_
  | with_reducible refine y_part ?_
  | with_reducible refine y_nopart ?_
  | with_reducible refine y_exI ?_
  | ((with_reducible refine y_slS ?_ ?_); (walk_at "side"))
  | with_reducible refine z_lst ?_
  | with_reducible refine z_tup ?_
  | ((with_reducible refine z_newL ?_ ?_); (exact Nat.le_of_ble_eq_true rfl); (intro pp HH npp spp opp))
  | ((with_reducible refine z_newT ?_ ?_); (exact Nat.le_of_ble_eq_true rfl); (intro pp HH npp spp opp))
  | ((with_reducible refine' y_chI ?k1 ?k2); (case k1 => exact rfl))
  | with_reducible refine y_chain ?_
  | with_reducible refine y_yes ?_
  | with_reducible refine y_att ?_
  | ((with_reducible refine y_disp ?_ ?_); (exact Nat.le_of_ble_eq_true rfl); (intro pp hpp))
  | ((with_reducible refine' y_gtup ?k1 ?k2 ?k3); (case k1 => walk_at "hp"); (case k2 => exact rfl))
  | with_reducible refine y_gcons ?_
  | with_reducible refine y_gnil ?_
  | with_reducible refine y_mkO ?_
  | with_reducible refine y_callKw ?_
  | with_reducible refine y_mkA ?_
  | with_reducible refine y_sm ?_
  | with_reducible refine y_smK ?_
  | with_reducible refine y_cut0 ?_
  | with_reducible refine y_methK ?_
  | ((with_reducible refine' y_lm ?k1 ?k2); (case k1 => walk_at "tabs"); (intro HH ee tt))
  | ((with_reducible refine' z_rep ?k1 ?k2 ?k3 ?k4 ?k5); (case k1 => walk_at "hp"); (case k2 => decide); (case k3 => decide); (case k4 => exact Nat.le_of_ble_eq_true rfl); (intro pp HH npp spp opp))
  | ((with_reducible refine z_rev (by decide) (by walk_at "hp") ?_); (intro pp HH npp spp opp))
  | with_reducible refine y_rfl ?_
  | with_reducible refine y_mkA1 ?_
  | ((with_reducible refine' y_aqT ?k0 ?k1 ?k2); (case k0 => assumption); (case k1 => walk_at "aq"))
  | ((with_reducible refine' y_aqB ?k0 ?k1 ?k2); (case k0 => assumption); (case k1 => walk_at "aq"))
  | ((with_reducible refine' y_bin ?k1 ?k2 ?k3 ?k4 ?k5); (case k1 => walk_at "aq"); (case k2 => walk_at "nq"); (case k3 => walk_at "sz"); (case k4 => walk_at "sz"); (intro pp HH npp spp opp))
  | ((with_reducible refine' y_rbin ?k1 ?k3 ?k4 ?k5); (case k1 => walk_at "aq"); (case k3 => walk_at "sz"); (case k4 => walk_at "sz"); (intro pp HH npp spp opp))
  | ((with_reducible refine' y_binM ?k1 ?k2 ?k3 ?k4 ?k5); (case k1 => walk_at "aq"); (case k2 => walk_at "nq"); (case k3 => walk_at "sz"); (case k4 => walk_at "sz"); (intro pp HH npp spp opp))
  | ((with_reducible refine' y_rbinM ?k1 ?k3 ?k4 ?k5); (case k1 => walk_at "aq"); (case k3 => walk_at "sz"); (case k4 => walk_at "sz"); (intro pp HH npp spp opp))
  | ((with_reducible refine' y_binD ?k1 ?k2 ?k3 ?k4 ?k5 ?k6); (case k1 => walk_at "aq"); (case k2 => walk_at "nq"); (case k3 => walk_at "sz"); (case k4 => walk_at "sz"); (case k5 => walk_at "nz"); (intro pp HH npp spp opp))
  | ((with_reducible refine' y_rbinD ?k1 ?k3 ?k4 ?k5 ?k6); (case k1 => walk_at "aq"); (case k3 => walk_at "sz"); (case k4 => walk_at "sz"); (case k5 => walk_at "nz"); (intro pp HH npp spp opp))
  | ((with_reducible refine' y_binF ?k1 ?k2 ?k3 ?k4 ?k5 ?k6); (case k1 => walk_at "aq"); (case k2 => walk_at "nq"); (case k3 => walk_at "sz"); (case k4 => walk_at "sz"); (case k5 => walk_at "nz"); (intro HH spp))
  | ((with_reducible refine' y_rbinF ?k1 ?k3 ?k4 ?k5 ?k6); (case k1 => walk_at "aq"); (case k3 => walk_at "sz"); (case k4 => walk_at "sz"); (case k5 => walk_at "nz"); (intro HH spp))
  | ((with_reducible refine' y_cmp ?kK ?k0 ?k1 ?k2 ?k3 ?k4 ?k5); (case kK => exact rfl); (case k0 => assumption); (case k1 => walk_at "aq"); (case k2 => walk_at "nq"); (case k3 => walk_at "sz"); (case k4 => walk_at "sz"); (intro HH spp))
  | ((with_reducible refine' y_rcmp ?k1 ?k3 ?k4 ?k5); (case k1 => walk_at "aq"); (case k3 => walk_at "sz"); (case k4 => walk_at "sz"); (intro HH spp))
  | ((with_reducible refine' y_ceq ?kK ?k0 ?k1 ?k2 ?k5); (case kK => exact rfl); (case k0 => assumption); (case k1 => walk_at "aq"); (case k2 => walk_at "nq"); (intro HH spp))
  | ((with_reducible refine' y_req ?k1 ?k5); (case k1 => walk_at "aq"); (intro HH spp))
  | ((with_reducible refine' y_cne ?kK ?k0 ?k1 ?k2 ?k5); (case kK => exact rfl); (case k0 => assumption); (case k1 => walk_at "aq"); (case k2 => walk_at "nq"); (intro HH spp))
  | ((with_reducible refine' y_un1 ?k1 ?k3 ?k5); (case k1 => walk_at "aq"); (case k3 => walk_at "sz"); (intro pp HH npp spp opp))
  | ((with_reducible refine' y_absO ?k1 ?k3 ?k5); (case k1 => walk_at "aq"); (case k3 => walk_at "sz"); (intro pp HH npp spp opp))
  | ((with_reducible refine' y_truA ?k1 ?k5); (case k1 => walk_at "aq"))
  | ((with_reducible refine' y_boolA ?k1 ?k5); (case k1 => walk_at "aq"))
  | with_reducible refine y_meth ?_
  | ((with_reducible refine' y_methX ?k1 ?k2); (case k1 => walk_at "aq"))
  | ((with_reducible refine' y_over ?k1 ?k2 ?k3 ?k4 ?k5 ?k6); (case k1 => walk_at "aq"); (case k2 => walk_at "nq"); (case k3 => walk_at "sz"); (case k4 => walk_at "sz"); (case k5 => walk_at "nz"); (intro pp HH npp spp opp))
  | ((with_reducible refine x_aug ?_); refine ⟨_, rfl, ?_⟩)
  | ((with_reducible refine' y_nwI ?k1 ?k2 ?k3 ?k4); (case k1 => walk_at "nz"); (case k2 => walk_at "szi"); (case k3 => walk_at "szi"); (intro pp HH npp spp opp))
  | ((with_reducible refine' y_nwI1 ?k2 ?k4); (case k2 => walk_at "szi"); (intro pp HH npp spp opp))
  | with_reducible refine y_fld ?_
  | with_reducible refine y_for ?_
  | with_reducible refine y_iRng1 ?_
  | with_reducible refine y_iRng2 ?_
  | ((with_reducible refine y_rgF1 ?_ ?_); (first | decide | omega))
  | ((with_reducible refine y_rgL1 ?_ ?_); (first | decide | omega))
  | ((with_reducible refine y_rgF2 ?_ ?_); (first | decide | omega))
  | ((with_reducible refine y_rgL2 ?_ ?_); (first | decide | omega))
  | with_reducible refine y_lc ?_
  | with_reducible refine y_rev ?_
  | ((with_reducible refine' y_glst ?k1 ?k2 ?k3); (case k1 => walk_at "hp"); (case k2 => exact rfl))
  | with_reducible refine y_iList ?_
  | with_reducible refine y_iTup ?_
  | with_reducible refine y_iEnum ?_
  | ((with_reducible refine' y_itL ?k1 ?k2); (case k1 => walk_at "hp"))
  | ((with_reducible refine' y_itT ?k1 ?k2); (case k1 => walk_at "hp"))
  | ((with_reducible refine' y_itE ?k1 ?k2); (case k1 => walk_at "hp"))
  | with_reducible refine y_m0 ?_
  | ((with_reducible refine' z_slT ?k1 ?k2 ?k3); (case k1 => walk_at "hp"); (case k2 => decide); (intro pp HH npp spp opp))
  | with_reducible refine y_pp ?_
  | with_reducible refine y_pp0 ?_
  | with_reducible refine y_xv ?_
  | with_reducible refine y_xv0 ?_
  | with_reducible refine y_bm ?_
  | ((with_reducible refine' y_tyL ?k1 ?k2); (case k1 => walk_at "hp"))
  | ((with_reducible refine' z_app ?k1 ?k2 ?k3); (case k1 => walk_at "hp"); (case k2 => (first | exact Nat.le_of_ble_eq_true rfl | walk_at "side")); (intro HH kpp opp))
  | ((with_reducible refine' z_cat ?k1 ?k2 ?k3 ?k4); (case k1 => walk_at "hp"); (case k2 => walk_at "hp"); (case k3 => (first | exact Nat.le_of_ble_eq_true rfl | walk_at "side")); (intro pp HH npp spp opp))
  | ((with_reducible refine' z_slL ?k1 ?k2); (case k1 => walk_at "hp"); (intro pp HH npp spp opp))
  | ((with_reducible refine' y_in ?k1 ?k2 ?k3 ?k4); (case k1 => walk_at "hp"); (case k2 => exact rfl); (case k3 => exact rfl))
  | with_reducible refine y_iteT ?_
  | with_reducible refine y_iteF ?_
  | with_reducible refine y_iteNT ?_
  | with_reducible refine y_iteNF ?_
  | ((with_reducible refine y_iteY ?_ ?_); (first | exact rfl | assumption | omega))
  | ((with_reducible refine y_iteX ?_ ?_); (first | focus (intro zz; cases zz; done) | assumption | omega))
  | ((with_reducible refine y_iteNY ?_ ?_); (first | exact rfl | assumption | omega))
  | ((with_reducible refine y_iteNX ?_ ?_); (first | focus (intro zz; cases zz; done) | assumption | omega))
  | ((with_reducible refine y_ite ?_ ?_) <;> intro hh)
  | ((with_reducible refine y_iteN ?_ ?_) <;> intro hh)
  | dsimp only)
structure TopT (K : PySem.W.Frag) (mg : Str → Option Value) : Prop extends TopN K mg where
  n_super : mg "super" = none
  opq : PySem.W.nsIn K cStatics "thirdparty.any" = some none
  g_Tool : mg "Tool" = some (.ref (CTl K))
  g_Scale : mg "Scale" = some (.ref (CSc K))
  g_Ranker : mg "Ranker" = some (.ref (CRk K))
  g_SENSES : mg "SENSES" = some (.ref (He.ga K "SENSES"))
  sen : ∀ H : Hp, SqT K H (He.ga K "SENSES") (SEN.map V.str)
structure TlF (K : PySem.W.Frag) : Prop where
  os : OC K (CSc K)
  or : OC K (CRk K)
  ns : ∀ f ∈ (["name", "sense", "doubt"] : List Str), NoAttr K (CSc K) f
  nr : ∀ f ∈ (["name", "sense", "doubt"] : List Str), NoAttr K (CRk K) f
  ks : ∀ T ∈ bTypes, PySem.W.kitOne K (.ref (CSc K)) (.type T) = some false ∧ PySem.W.kitOne K (.type T) (.ref (CSc K)) = some false
  kr : ∀ T ∈ bTypes, PySem.W.kitOne K (.ref (CRk K)) (.type T) = some false ∧ PySem.W.kitOne K (.type T) (.ref (CRk K)) = some false
  kt : ∀ T ∈ bTypes, PySem.W.kitOne K (.type T) (.ref (CTl K)) = some false
  ka : ∀ T ∈ bTypes, PySem.W.kitOne K (.ref (CA K)) (.type T) = some false
  k1 : PySem.W.kitOne K (.ref (CSc K)) (.ref (CSc K)) = some true
  k2 : PySem.W.kitOne K (.ref (CSc K)) (.ref (CRk K)) = some false
  k3 : PySem.W.kitOne K (.ref (CSc K)) (.ref (CTl K)) = some true
  k4 : PySem.W.kitOne K (.ref (CRk K)) (.ref (CSc K)) = some false
  k5 : PySem.W.kitOne K (.ref (CRk K)) (.ref (CRk K)) = some true
  k6 : PySem.W.kitOne K (.ref (CRk K)) (.ref (CTl K)) = some true
  k7 : PySem.W.kitOne K (.ref (CSc K)) (.ref (CA K)) = some false
  k8 : PySem.W.kitOne K (.ref (CRk K)) (.ref (CA K)) = some false
  k9 : PySem.W.kitOne K (.ref (CA K)) (.ref (CTl K)) = some false
  k10 : PySem.W.kitOne K (.ref (CA K)) (.ref (CSc K)) = some false
  k11 : PySem.W.kitOne K (.ref (CA K)) (.ref (CRk K)) = some false
  cl : ∃ c, PySem.W.clsIn K (CSc K) = some c
  cr : ∃ c, PySem.W.clsIn K (CRk K) = some c
  as : Abv K (CSc K) (CSc K) (He.ma K (CTl K) "__init__") "__init__"
  ar : Abv K (CRk K) (CRk K) (He.ma K (CTl K) "__init__") "__init__"
def snV : V → Bool
  | .str x => decide (x ∈ SEN)
  | _ => false
def OutT (K : PySem.W.Frag) (H : Hp) (z : Str) (E : XK) : Prop := ∀ H' dd, Same H H' → H dd = none → H' dd = some (.xd [("part", .str z)]) → E (.ref (CBT K)) (some dd) H'
def OutTx (K : PySem.W.Frag) (x : Addr) (H : Hp) (z : Str) (E : XK) : Prop := ∀ H' dd, Bt x H H' → H dd = none → H' dd = some (.xd [("part", .str z)]) → E (.ref (CBT K)) (some dd) H'
theorem OutTx.t {K : PySem.W.Frag} {x : Addr} {H H1 : Hp} {z : Str} {E : XK} {o : HO} (h : OutTx K x H z E) (b : Bt x H H1) (hx : H1 x = some o) : OutT K H1 z E := fun H' dd s n e => h H' dd (fun a o na ea => s _ _ (b a o na ea)) (by
  cases q : H dd with
  | none => rfl
  | some u =>
    by_cases hd : dd = x
    · rw [hd, hx] at n; cases n
    · rw [b dd u hd q] at n; cases n) e
theorem OutT.same {K : PySem.W.Frag} {H H1 : Hp} {z : Str} {E : XK} (h : OutT K H z E) (s : Same H H1) : OutT K H1 z E := fun H' dd s2 n e => h H' dd (s.trans s2) (s.free n) e
theorem Bt.refl {x : Addr} {H : Hp} : Bt x H H := fun _ _ _ h => h
section
variable {P : Program} {w : World} {K : PySem.W.Frag} {mg : Str → Option Value} {base : Heap}
def spNP (K : PySem.W.Frag) : Sp := fun vs H Q E => ∃ n s : V, vs = [n, s] ∧ StrV K H n ∧ StrV K H s ∧
  ((nmV n = false ∧ OutT K H "name" E) ∨ (nmV n = true ∧ snV s = false ∧ OutT K H "sense" E) ∨ (nmV n = true ∧ snV s = true ∧ ∀ H', Same H H' → Q .non H'))
theorem inSen {x : Str} : inV (.str x) (SEN.map V.str) = decide (x ∈ SEN) := by
  have h : ∀ a : Str, (a == x) = decide (x = a) := fun a => by
    by_cases e : x = a
    · subst e; simp
    · rw [decide_eq_false e]; exact beq_eq_false_iff_ne.mpr (Ne.symm e)
  simp [inV, SEN, eqV, h]
abbrev s_np : Stmt := topS 31
theorem sc_np : FnScope ["name", "sense"] ["name", "sense"] (defScope s_np) := ⟨rfl, rfl, rfl, by decide +kernel, rfl, by decide +kernel, by decide +kernel⟩
theorem ok_np {f : Addr} {fd : FuncData} (F : FnP K "need_parts" s_np f fd) (T : TopT K mg) (Fis_name : Fnc P w K mg base 1 "is_name" ["value"] (spIsNm K)) (MBadTool : XMk P w K mg base "BadTool" (CBT K) ["self", "part"] (spX1 "part" (CBT K))) :
    FnOk P w K mg base (L2.CX P w) 3 f fd ["name", "sense"] (spNP K) := by
  have nd := sc_np.nd
  refine F.ok sc_np (fun vs H Q E h => ?_) (fun cdv A' outer s H vs Q E hr h => ?_)
  · obtain ⟨n, s, rfl, _⟩ := h
    rfl
  · obtain ⟨n, sn, rfl, hn, hs, h⟩ := h
    refine ⟨_, (pss_cons (ps_if (pt_not (pt_val (oc Fis_name (hr.mono (by decide)) (pa_cons (pv 0) pa_nil))))
        (pss_one (raiseX MBadTool (hr.mono (by decide)) rfl (takes_of rfl rfl rfl rfl) (pa_cons pe_str pa_nil)))
        pss_nil)
      (pss_one (ps_if (PW.pt (pw_or (pt_not (pt_val (pe_callB c_isA (by rfl) T.n_isinstance (by decide +kernel) (pa_cons (pv 1) (pa_cons (ob_ty (T := "str") T.n_str (by decide +kernel)) pa_nil))))) (pw_or1 (pt_cmpR op_notIn_seq (pv 1) (og_ref T.g_SENSES) (by rfl)))))
        (pss_one (raiseX MBadTool (hr.mono (by decide)) rfl (takes_of rfl rfl rfl rfl) (pa_cons pe_str pa_nil)))
        pss_nil))), ?_⟩
    repeat walk_at "y"
    refine ⟨_, rfl, hn, fun H1 s1 => ?_⟩
    rcases h with ⟨e1, k⟩ | ⟨e1, e2, k⟩ | ⟨e1, e2, k⟩
    · rw [e1]
      repeat walk_at "y"
      exact y_mk1 fun dd hdd => k _ dd (fun b o e => upd_old hdd (s1 _ _ e)) (s1.free hdd) upd_same
    · rw [e1]
      obtain ⟨t, b, ty, kt, hb⟩ := hs
      repeat walk_at "y"
      refine .inl ⟨_, _, _, _, _, rfl, .ty "str", tyX_same s1 ty, kt, ?_⟩
      rcases hb with ⟨rfl, x, rfl, hx⟩ | ⟨rfl, hb⟩
      · repeat walk_at "y"
        refine ⟨_, _, rfl, .inr (T.sen _), rfl, rfl, ?_⟩
        rw [inSen, show decide (x ∈ SEN) = false from e2]
        repeat walk_at "y"
        exact y_mk1 fun dd hdd => k _ dd (fun b o e => upd_old hdd (s1 _ _ e)) (s1.free hdd) upd_same
      · repeat walk_at "y"
        exact y_mk1 fun dd hdd => k _ dd (fun b o e => upd_old hdd (s1 _ _ e)) (s1.free hdd) upd_same
    · rw [e1]
      obtain ⟨t, b, ty, kt, hb⟩ := hs
      repeat walk_at "y"
      refine .inl ⟨_, _, _, _, _, rfl, .ty "str", tyX_same s1 ty, kt, ?_⟩
      rcases hb with ⟨rfl, x, rfl, hx⟩ | ⟨rfl, hb⟩
      · repeat walk_at "y"
        refine ⟨_, _, rfl, .inr (T.sen _), rfl, rfl, ?_⟩
        rw [inSen, show decide (x ∈ SEN) = true from e2]
        repeat walk_at "y"
        exact k _ s1
      · cases sn with
        | str x => exact absurd rfl (hb x)
        | _ => cases e2
def spND (K : PySem.W.Frag) : Sp := fun vs H Q E => ∃ v : V, vs = [v] ∧ ((∃ q, NumQ (CA K) H v q ∧ SzQ 1800 q ∧ q < 0 ∧ OutT K H "doubt" E) ∨ (NoNum K H v ∧ OutT K H "doubt" E) ∨ (∃ q, NumQ (CA K) H v q ∧ SzQ 1800 q ∧ 0 ≤ q ∧ ∀ H', Same H H' → Q .non H'))
abbrev s_nd : Stmt := topS 32
theorem sc_nd : FnScope ["doubt"] ["doubt"] (defScope s_nd) := ⟨rfl, rfl, rfl, by decide +kernel, rfl, by decide +kernel, by decide +kernel⟩
theorem ok_nd {f : Addr} {fd : FuncData} (F : FnP K "need_doubt" s_nd f fd) (T : TopT K mg) (O : AOps P w K mg base) (MBadTool : XMk P w K mg base "BadTool" (CBT K) ["self", "part"] (spX1 "part" (CBT K))) :
    FnOk P w K mg base (L2.CX P w) 6 f fd ["doubt"] (spND K) := by
  have nd := sc_nd.nd
  have AF := O.AF
  have A := AmF.c AF
  refine F.ok sc_nd (fun vs H Q E h => ?_) (fun cdv A' outer s H vs Q E hr h => ?_)
  · obtain ⟨v, rfl, _⟩ := h
    rfl
  · obtain ⟨v, rfl, h⟩ := h
    rcases h with ⟨q, hq, sq, q0, k⟩ | ⟨hv, k⟩ | ⟨q, hq, sq, q0, k⟩
    · rcases hq with ⟨i, rfl, eq⟩ | ⟨a, rfl, ha⟩
      · subst eq
        have i0 : i < 0 := by simpa using Rat.intCast_lt_intCast.mp q0
        refine ⟨_, (pss_one (ps_if (PW.pt (pw_or (pt_not (pt_val (smL O.S_is_number (hr.mono (by decide)) (og_ref T.g_Amount) (pa_cons (pv 0) pa_nil)))) (pw_or1 (pt_cmpR op_lt (pv 0) pe_int (nomark _)))))
        (pss_one (raiseX MBadTool (hr.mono (by decide)) rfl (takes_of rfl rfl rfl rfl) (pa_cons pe_str pa_nil)))
        pss_nil)), ?_⟩
        repeat walk_at "y"
        refine ⟨_, rfl, .inl ⟨_, .int, ?_⟩⟩
        repeat walk_at "y"
        exact y_mk1 fun dd hdd => k _ dd (fun b o e => upd_old hdd e) hdd upd_same
      · refine ⟨_, (pss_one (ps_if (PW.pt (pw_or (pt_not (pt_val (smL O.S_is_number (hr.mono (by decide)) (og_ref T.g_Amount) (pa_cons (pv 0) pa_nil)))) (pw_or1 (pt_cmpR (aC_lt O.AF O.M_lt (hr.mono (by decide)) (passT (takes_of rfl rfl rfl rfl))) (pv 0) pe_int (nomark _)))))
        (pss_one (raiseX MBadTool (hr.mono (by decide)) rfl (takes_of rfl rfl rfl rfl) (pa_cons pe_str pa_nil)))
        pss_nil)), ?_⟩
        repeat walk_at "y"
        refine ⟨_, rfl, .inl ⟨_, .am ha, ?_⟩⟩
        have q1 : q < ((0 : Int) : Rat) := q0
        repeat walk_at "y"
        exact y_mk1 fun dd hdd => k _ dd (fun b o e => upd_old hdd (by rename_i s1; exact s1 _ _ e)) (by rename_i s1; exact s1.free hdd) upd_same
    · refine ⟨_, (pss_one (ps_if (PW.pt (pw_or (pt_not (pt_val (smL O.S_is_number (hr.mono (by decide)) (og_ref T.g_Amount) (pa_cons (pv 0) pa_nil)))) (pw_or1 (pt_cmpR op_lt (pv 0) pe_int (nomark _)))))
        (pss_one (raiseX MBadTool (hr.mono (by decide)) rfl (takes_of rfl rfl rfl rfl) (pa_cons pe_str pa_nil)))
        pss_nil)), ?_⟩
      repeat walk_at "y"
      refine ⟨_, rfl, .inr ⟨hv, ?_⟩⟩
      repeat walk_at "y"
      exact y_mk1 fun dd hdd => k _ dd (fun b o e => upd_old hdd e) hdd upd_same
    · rcases hq with ⟨i, rfl, eq⟩ | ⟨a, rfl, ha⟩
      · subst eq
        have i0 : ¬ i < 0 := by
          have := Rat.intCast_le_intCast.mp (show ((0 : Int) : Rat) ≤ (i : Rat) from q0)
          omega
        refine ⟨_, (pss_one (ps_if (PW.pt (pw_or (pt_not (pt_val (smL O.S_is_number (hr.mono (by decide)) (og_ref T.g_Amount) (pa_cons (pv 0) pa_nil)))) (pw_or1 (pt_cmpR op_lt (pv 0) pe_int (nomark _)))))
        (pss_one (raiseX MBadTool (hr.mono (by decide)) rfl (takes_of rfl rfl rfl rfl) (pa_cons pe_str pa_nil)))
        pss_nil)), ?_⟩
        repeat walk_at "y"
        refine ⟨_, rfl, .inl ⟨_, .int, ?_⟩⟩
        repeat walk_at "y"
        exact k _ same0
      · refine ⟨_, (pss_one (ps_if (PW.pt (pw_or (pt_not (pt_val (smL O.S_is_number (hr.mono (by decide)) (og_ref T.g_Amount) (pa_cons (pv 0) pa_nil)))) (pw_or1 (pt_cmpR (aC_lt O.AF O.M_lt (hr.mono (by decide)) (passT (takes_of rfl rfl rfl rfl))) (pv 0) pe_int (nomark _)))))
        (pss_one (raiseX MBadTool (hr.mono (by decide)) rfl (takes_of rfl rfl rfl rfl) (pa_cons pe_str pa_nil)))
        pss_nil)), ?_⟩
        repeat walk_at "y"
        refine ⟨_, rfl, .inl ⟨_, .am ha, ?_⟩⟩
        have q1 : ¬ q < ((0 : Int) : Rat) := Rat.not_lt.mpr q0
        repeat walk_at "y"
        exact k _ (by walk_at "same")
end
end LW
set_option maxRecDepth 100000
namespace LW
open PySem PySem.Spec PyProof.Rows L2 OZ
local macro_rules | `(tactic| walk_at "szx1") => `(tactic| first
  | with_reducible assumption
  | exact sz_i64 (n := 64) (by decide)
  | (refine' Sz.add ?sx ?sy; (case sx => walk_at "szx1"); (case sy => walk_at "szx1"))
  | (refine' Sz.sub ?sx ?sy; (case sx => walk_at "szx1"); (case sy => walk_at "szx1"))
  | (refine' Sz.mul ?sx ?sy; (case sx => walk_at "szx1"); (case sy => walk_at "szx1"))
  | (refine' Sz.neg ?sx; (case sx => walk_at "szx1"))
  | (refine' Sz.iabs ?sx; (case sx => walk_at "szx1"))
  | (refine' sz_fdiv ?sx ?sy; (case sy => walk_at "nz"); (case sx => walk_at "szx1")))
local macro_rules | `(tactic| walk_at "szx") => `(tactic| (refine' Sz.mono ?szk ?szl; (case szk => walk_at "szx1"); (case szl => exact Nat.le_of_ble_eq_true rfl)))
local macro_rules | `(tactic| walk_at "aq") => `(tactic| first
  | assumption
  | (refine' AmQ.same ?aqs ?aqk; (case aqs => assumption); (case aqk => walk_at "aq"))
  | (refine' AmQ.extN ?aqs ?aqk; (case aqs => assumption); (case aqk => walk_at "aq"))
  | (refine' AmQ.kpl ?aqs ?aql ?aqk; (case aqs => assumption); (case aql => walk_at "hp"); (case aqk => walk_at "aq"))
  | (refine' AmQ.kp ?aql ?aqs ?aqk; (case aqs => assumption); (case aql => walk_at "pen"); (case aqk => walk_at "aq")))
local macro_rules | `(tactic| walk_at "nq") => `(tactic| first
  | assumption
  | exact NumQ.int
  | (refine' NumQ.am ?nqk; (case nqk => walk_at "aq"))
  | (refine' NumQ.same ?nqs ?nqk; (case nqs => assumption); (case nqk => walk_at "nq"))
  | (refine' NumQ.extN ?nqs ?nqk; (case nqs => assumption); (case nqk => walk_at "nq"))
  | (refine' NumQ.kpl ?nqs ?nql ?nqk; (case nqs => assumption); (case nql => walk_at "hp"); (case nqk => walk_at "nq")))
local macro_rules | `(tactic| walk_at "sz1") => `(tactic| first
  | with_reducible assumption
  | (refine' SzQ.add ?sx ?sy; (case sx => walk_at "sz1"); (case sy => walk_at "sz1"))
  | (refine' SzQ.sub ?sx ?sy; (case sx => walk_at "sz1"); (case sy => walk_at "sz1"))
  | (refine' SzQ.mul ?sx ?sy; (case sx => walk_at "sz1"); (case sy => walk_at "sz1"))
  | (refine' SzQ.div ?sx ?sy ?sz; (case sz => assumption); (case sx => walk_at "sz1"); (case sy => walk_at "sz1"))
  | (refine' SzQ.rmod ?sx ?sy ?sz; (case sz => assumption); (case sx => walk_at "sz1"); (case sy => walk_at "sz1"))
  | (refine' SzQ.neg ?sx; (case sx => walk_at "sz1"))
  | (refine' SzQ.qabs ?sx; (case sx => walk_at "sz1"))
  | (refine' SzQ.int ?sx ?sy; (case sx => with_reducible assumption); (case sy => exact Nat.le_of_ble_eq_true rfl))
  | exact sz_lit (by decide))
local macro_rules | `(tactic| walk_at "sz") => `(tactic| (refine' SzQ.mono ?szk ?szl; (case szk => walk_at "sz1"); (case szl => exact Nat.le_of_ble_eq_true rfl)))
local macro_rules | `(tactic| walk_at "nz") => `(tactic| first
  | assumption
  | decide
  | omega
  | exact intq0 (by decide))
local macro_rules | `(tactic| walk_at "szi") => `(tactic| first
  | assumption
  | exact Sz.mono (by with_reducible assumption) (Nat.le_of_ble_eq_true rfl)
  | exact sz_i64 (by decide))
local macro_rules | `(tactic| walk_at "ex") => `(tactic| first
  | assumption
  | (refine ExAt.same (by assumption) ?_; walk_at "ex"))
local macro_rules | `(tactic| walk_at "same") => `(tactic| first
  | assumption
  | exact same0
  | (refine Same.trans ?_ (by assumption); walk_at "same"))
local macro_rules | `(tactic| walk_at "tabs") => `(tactic| first
  | assumption
  | (refine' OZ.Tabs.same ?tbs ?tbk; (case tbs => assumption); (case tbk => walk_at "tabs"))
  | (refine' OZ.Tabs.kpl ?tbs ?tbl ?tbk; (case tbs => assumption); (case tbl => walk_at "hp"); (case tbk => walk_at "tabs"))
  | (refine' OZ.Tabs.kp ?tbl ?tbs ?tbk; (case tbs => assumption); (case tbl => walk_at "pen"); (case tbk => walk_at "tabs")))
local macro_rules | `(tactic| walk_at "ext") => `(tactic| first
  | assumption
  | exact LamX.ExtN.refl _
  | exact LamX.ExtN.of (by assumption)
  | (refine LamX.ExtN.trans ?_ (by assumption); walk_at "ext")
  | (refine LamX.ExtN.trans ?_ (LamX.ExtN.of (by assumption)); walk_at "ext"))
local macro_rules | `(tactic| walk_at "pen") => `(tactic| first
  | assumption
  | (refine' PenAt.same ?pek ?pes; (case pes => assumption); (case pek => walk_at "pen"))
  | (refine' PenAt.extN ?pek ?pes; (case pes => assumption); (case pek => walk_at "pen")))
local macro_rules | `(tactic| walk_at "kn") => `(tactic| first
  | assumption
  | exact KN.refl
  | (refine KN.trans ?_ (KN.same (by assumption)); walk_at "kn")
  | (refine KN.trans ?_ (KN.kp (by assumption)); walk_at "kn")
  | (refine KN.trans ?_ (KN.ext (by assumption)); walk_at "kn")
  | (refine KN.trans ?_ (by assumption); walk_at "kn"))
local macro_rules | `(tactic| walk_at "free") => `(tactic| first
  | assumption
  | (refine sfree (by assumption) ?_; walk_at "free"))
local macro_rules | `(tactic| walk_at "hp") => `(tactic| first
  | assumption
  | exact upd_same
  | (refine sat (by assumption) ?_; walk_at "hp")
  | (refine' esat ?ess ?esk ?esn; (case ess => assumption); (case esk => walk_at "hp"); (case esn => (intro _ zz; cases zz)))
  | (refine' kpne ?ess ?esn ?esk; (case ess => assumption); (case esn => (first | assumption | exact Ne.symm (by assumption))); (case esk => walk_at "hp"))
  | (refine' kpsat ?ess ?esl ?esk ?esn; (case ess => assumption); (case esl => walk_at "hp"); (case esk => walk_at "hp"); (case esn => (intro _ zz; cases zz)))
  | (refine upd_old ?_ ?_; (first | assumption | exact free_upd (by assumption)); walk_at "hp")
  | (refine upd_oth ?_ ?_; (first | assumption | exact Ne.symm (by assumption)); walk_at "hp"))
local macro_rules | `(tactic| walk_at "side") => `(tactic| first
  | assumption
  | decide
  | omega
  | exact ⟨by omega, by omega, by omega⟩
  | exact Or.inl ⟨by omega, by omega⟩
  | exact Or.inr ⟨by omega, by omega⟩
  | (show (_ : Int) ≠ 0; omega)
  | (refine' Sz.mulW ?ma ?mb ?mc; (case ma => walk_at "szx1"); (case mb => walk_at "szx1"); (case mc => exact Nat.le_of_ble_eq_true rfl))
  | (refine' Sz.divN ?ma ?mb ?mc; (case ma => walk_at "szx1"); (case mb => walk_at "nz"); (case mc => exact Nat.le_of_ble_eq_true rfl))
  | exact wide_div (b := 64) (by omega) (by omega) (by decide) (by decide)
  | exact wide_div (b := 4000) (by assumption) (by assumption) (by decide) (by decide))
local macro_rules | `(tactic| walk_at "y") => `(tactic| first
  | ((with_reducible refine y_var ?_); refine ⟨_, rfl, ?_⟩)
  | with_reducible refine y_c ?_
  | with_reducible refine y_op ?_
  | with_reducible refine y_cb ?_
  | with_reducible refine y_cons ?_
  | with_reducible refine y_nil ?_
  | with_reducible refine y_seq ?_
  | with_reducible refine y_asg ?_
  | with_reducible refine x_gn ?_
  | ((with_reducible refine' y_nx ?k1 ?k2); (case k1 => (simp only [L2.start, List.length_cons, List.length_nil, List.map_cons, List.map_nil, List.set_cons_succ, List.set_cons_zero, List.cons_append, List.nil_append, List.replicate]; rfl)))
  | with_reducible refine y_gsub ?_
  | with_reducible refine y_ret ?_
  | with_reducible refine y_drop ?_
  | with_reducible refine y_next ?_
  | with_reducible refine y_ifS ?_
  | with_reducible refine y_test ?_
  | with_reducible refine y_B ?_
  | with_reducible refine y_ex ?_
  | with_reducible refine y_not ?_
  | with_reducible refine y_and ?_
  | with_reducible refine y_or ?_
  | with_reducible refine y_notV ?_
  | with_reducible refine y_andV ?_
  | with_reducible refine y_orV ?_
  | with_reducible refine y_ifE ?_
  | with_reducible refine y_un ?_
  | with_reducible refine x_par ?_
  | with_reducible refine y_ex2 ?_
  | with_reducible refine y_call ?_
  | with_reducible refine y_callS ?_
  | with_reducible refine y_I0 ?_
  | ((with_reducible refine y_I ?_ ?_); (walk_at "side"))
  | with_reducible refine y_U ?_
  | ((with_reducible refine y_eq ?_ ?_); (exact rfl))
  | ((with_reducible refine y_ne ?_ ?_); (exact rfl))
  | ((with_reducible refine' y_ixL ?k1 ?k2 ?k3); (case k1 => walk_at "hp"); (case k2 => (first | assumption | exact rfl)))
  | ((with_reducible refine' y_ixT ?k1 ?k2 ?k3); (case k1 => walk_at "hp"); (case k2 => (first | assumption | exact rfl)))
  | ((with_reducible refine' y_setL ?k1 ?k2 ?k3); (case k1 => walk_at "hp"); (case k2 => (first | assumption | exact rfl)))
  | with_reducible refine y_int ?_
  | with_reducible refine y_intB ?_
  | with_reducible refine y_abs ?_
  | ((with_reducible refine' y_lenL ?k1 ?k3); (case k1 => walk_at "hp"))
  | ((with_reducible refine' y_lenT ?k1 ?k3); (case k1 => walk_at "hp"))
  | ((with_reducible refine y_lenS ?_ ?_); (walk_at "side"))
  | with_reducible refine y_isN ?_
  | with_reducible refine y_notN ?_
  | ((with_reducible refine y_addS ?_ ?_); (walk_at "side"))
  | with_reducible refine y_inC ?_
  | with_reducible refine y_notInC ?_
  | with_reducible refine y_sl ?_
  | with_reducible refine y_part ?_
  | with_reducible refine y_nopart ?_
  | with_reducible refine y_exI ?_
  | ((with_reducible refine y_slS ?_ ?_); (walk_at "side"))
  | with_reducible refine z_lst ?_
  | with_reducible refine z_tup ?_
  | ((with_reducible refine z_newL ?_ ?_); (exact Nat.le_of_ble_eq_true rfl); (intro pp HH npp spp opp))
  | ((with_reducible refine z_newT ?_ ?_); (exact Nat.le_of_ble_eq_true rfl); (intro pp HH npp spp opp))
  | ((with_reducible refine' y_chI ?k1 ?k2); (case k1 => exact rfl))
  | with_reducible refine y_chain ?_
  | with_reducible refine y_yes ?_
  | with_reducible refine y_att ?_
  | ((with_reducible refine y_disp ?_ ?_); (exact Nat.le_of_ble_eq_true rfl); (intro pp hpp))
  | ((with_reducible refine' y_gtup ?k1 ?k2 ?k3); (case k1 => walk_at "hp"); (case k2 => exact rfl))
  | with_reducible refine y_gcons ?_
  | with_reducible refine y_gnil ?_
  | with_reducible refine y_mkO ?_
  | with_reducible refine y_callKw ?_
  | with_reducible refine y_mkA ?_
  | with_reducible refine y_sm ?_
  | with_reducible refine y_smK ?_
  | with_reducible refine y_cut0 ?_
  | with_reducible refine y_methK ?_
  | ((with_reducible refine' y_lm ?k1 ?k2); (case k1 => walk_at "tabs"); (intro HH ee tt))
  | ((with_reducible refine' z_rep ?k1 ?k2 ?k3 ?k4 ?k5); (case k1 => walk_at "hp"); (case k2 => decide); (case k3 => decide); (case k4 => exact Nat.le_of_ble_eq_true rfl); (intro pp HH npp spp opp))
  | ((with_reducible refine z_rev (by decide) (by walk_at "hp") ?_); (intro pp HH npp spp opp))
  | with_reducible refine y_rfl ?_
  | with_reducible refine y_mkA1 ?_
  | ((with_reducible refine' y_aqT ?k0 ?k1 ?k2); (case k0 => assumption); (case k1 => walk_at "aq"))
  | ((with_reducible refine' y_aqB ?k0 ?k1 ?k2); (case k0 => assumption); (case k1 => walk_at "aq"))
  | ((with_reducible refine' y_bin ?k1 ?k2 ?k3 ?k4 ?k5); (case k1 => walk_at "aq"); (case k2 => walk_at "nq"); (case k3 => walk_at "sz"); (case k4 => walk_at "sz"); (intro pp HH npp spp opp))
  | ((with_reducible refine' y_rbin ?k1 ?k3 ?k4 ?k5); (case k1 => walk_at "aq"); (case k3 => walk_at "sz"); (case k4 => walk_at "sz"); (intro pp HH npp spp opp))
  | ((with_reducible refine' y_binM ?k1 ?k2 ?k3 ?k4 ?k5); (case k1 => walk_at "aq"); (case k2 => walk_at "nq"); (case k3 => walk_at "sz"); (case k4 => walk_at "sz"); (intro pp HH npp spp opp))
  | ((with_reducible refine' y_rbinM ?k1 ?k3 ?k4 ?k5); (case k1 => walk_at "aq"); (case k3 => walk_at "sz"); (case k4 => walk_at "sz"); (intro pp HH npp spp opp))
  | ((with_reducible refine' y_binD ?k1 ?k2 ?k3 ?k4 ?k5 ?k6); (case k1 => walk_at "aq"); (case k2 => walk_at "nq"); (case k3 => walk_at "sz"); (case k4 => walk_at "sz"); (case k5 => walk_at "nz"); (intro pp HH npp spp opp))
  | ((with_reducible refine' y_rbinD ?k1 ?k3 ?k4 ?k5 ?k6); (case k1 => walk_at "aq"); (case k3 => walk_at "sz"); (case k4 => walk_at "sz"); (case k5 => walk_at "nz"); (intro pp HH npp spp opp))
  | ((with_reducible refine' y_binF ?k1 ?k2 ?k3 ?k4 ?k5 ?k6); (case k1 => walk_at "aq"); (case k2 => walk_at "nq"); (case k3 => walk_at "sz"); (case k4 => walk_at "sz"); (case k5 => walk_at "nz"); (intro HH spp))
  | ((with_reducible refine' y_rbinF ?k1 ?k3 ?k4 ?k5 ?k6); (case k1 => walk_at "aq"); (case k3 => walk_at "sz"); (case k4 => walk_at "sz"); (case k5 => walk_at "nz"); (intro HH spp))
  | ((with_reducible refine' y_cmp ?kK ?k0 ?k1 ?k2 ?k3 ?k4 ?k5); (case kK => exact rfl); (case k0 => assumption); (case k1 => walk_at "aq"); (case k2 => walk_at "nq"); (case k3 => walk_at "sz"); (case k4 => walk_at "sz"); (intro HH spp))
  | ((with_reducible refine' y_rcmp ?k1 ?k3 ?k4 ?k5); (case k1 => walk_at "aq"); (case k3 => walk_at "sz"); (case k4 => walk_at "sz"); (intro HH spp))
  | ((with_reducible refine' y_ceq ?kK ?k0 ?k1 ?k2 ?k5); (case kK => exact rfl); (case k0 => assumption); (case k1 => walk_at "aq"); (case k2 => walk_at "nq"); (intro HH spp))
  | ((with_reducible refine' y_req ?k1 ?k5); (case k1 => walk_at "aq"); (intro HH spp))
  | ((with_reducible refine' y_cne ?kK ?k0 ?k1 ?k2 ?k5); (case kK => exact rfl); (case k0 => assumption); (case k1 => walk_at "aq"); (case k2 => walk_at "nq"); (intro HH spp))
  | ((with_reducible refine' y_un1 ?k1 ?k3 ?k5); (case k1 => walk_at "aq"); (case k3 => walk_at "sz"); (intro pp HH npp spp opp))
  | ((with_reducible refine' y_absO ?k1 ?k3 ?k5); (case k1 => walk_at "aq"); (case k3 => walk_at "sz"); (intro pp HH npp spp opp))
  | ((with_reducible refine' y_truA ?k1 ?k5); (case k1 => walk_at "aq"))
  | ((with_reducible refine' y_boolA ?k1 ?k5); (case k1 => walk_at "aq"))
  | with_reducible refine y_meth ?_
  | ((with_reducible refine' y_methX ?k1 ?k2); (case k1 => walk_at "aq"))
  | ((with_reducible refine' y_over ?k1 ?k2 ?k3 ?k4 ?k5 ?k6); (case k1 => walk_at "aq"); (case k2 => walk_at "nq"); (case k3 => walk_at "sz"); (case k4 => walk_at "sz"); (case k5 => walk_at "nz"); (intro pp HH npp spp opp))
  | ((with_reducible refine x_aug ?_); refine ⟨_, rfl, ?_⟩)
  | ((with_reducible refine' y_nwI ?k1 ?k2 ?k3 ?k4); (case k1 => walk_at "nz"); (case k2 => walk_at "szi"); (case k3 => walk_at "szi"); (intro pp HH npp spp opp))
  | ((with_reducible refine' y_nwI1 ?k2 ?k4); (case k2 => walk_at "szi"); (intro pp HH npp spp opp))
  | with_reducible refine y_fld ?_
  | with_reducible refine y_for ?_
  | with_reducible refine y_iRng1 ?_
  | with_reducible refine y_iRng2 ?_
  | ((with_reducible refine y_rgF1 ?_ ?_); (first | decide | omega))
  | ((with_reducible refine y_rgL1 ?_ ?_); (first | decide | omega))
  | ((with_reducible refine y_rgF2 ?_ ?_); (first | decide | omega))
  | ((with_reducible refine y_rgL2 ?_ ?_); (first | decide | omega))
  | with_reducible refine y_lc ?_
  | with_reducible refine y_rev ?_
  | ((with_reducible refine' y_glst ?k1 ?k2 ?k3); (case k1 => walk_at "hp"); (case k2 => exact rfl))
  | with_reducible refine y_iList ?_
  | with_reducible refine y_iTup ?_
  | with_reducible refine y_iEnum ?_
  | ((with_reducible refine' y_itL ?k1 ?k2); (case k1 => walk_at "hp"))
  | ((with_reducible refine' y_itT ?k1 ?k2); (case k1 => walk_at "hp"))
  | ((with_reducible refine' y_itE ?k1 ?k2); (case k1 => walk_at "hp"))
  | with_reducible refine y_m0 ?_
  | ((with_reducible refine' z_slT ?k1 ?k2 ?k3); (case k1 => walk_at "hp"); (case k2 => decide); (intro pp HH npp spp opp))
  | with_reducible refine y_pp ?_
  | with_reducible refine y_pp0 ?_
  | with_reducible refine y_xv ?_
  | with_reducible refine y_xv0 ?_
  | with_reducible refine y_bm ?_
  | ((with_reducible refine' y_tyL ?k1 ?k2); (case k1 => walk_at "hp"))
  | ((with_reducible refine' z_app ?k1 ?k2 ?k3); (case k1 => walk_at "hp"); (case k2 => (first | exact Nat.le_of_ble_eq_true rfl | walk_at "side")); (intro HH kpp opp))
  | ((with_reducible refine' z_cat ?k1 ?k2 ?k3 ?k4); (case k1 => walk_at "hp"); (case k2 => walk_at "hp"); (case k3 => (first | exact Nat.le_of_ble_eq_true rfl | walk_at "side")); (intro pp HH npp spp opp))
  | ((with_reducible refine' z_slL ?k1 ?k2); (case k1 => walk_at "hp"); (intro pp HH npp spp opp))
  | ((with_reducible refine' y_in ?k1 ?k2 ?k3 ?k4); (case k1 => walk_at "hp"); (case k2 => exact rfl); (case k3 => exact rfl))
  | with_reducible refine y_iteT ?_
  | with_reducible refine y_iteF ?_
  | with_reducible refine y_iteNT ?_
  | with_reducible refine y_iteNF ?_
  | ((with_reducible refine y_iteY ?_ ?_); (first | exact rfl | assumption | omega))
  | ((with_reducible refine y_iteX ?_ ?_); (first | focus (intro zz; cases zz; done) | assumption | omega))
  | ((with_reducible refine y_iteNY ?_ ?_); (first | exact rfl | assumption | omega))
  | ((with_reducible refine y_iteNX ?_ ?_); (first | focus (intro zz; cases zz; done) | assumption | omega))
  | ((with_reducible refine y_ite ?_ ?_) <;> intro hh)
  | ((with_reducible refine y_iteN ?_ ?_) <;> intro hh)
  | dsimp only)
section
variable {P : Program} {w : World} {K : PySem.W.Frag} {mg : Str → Option Value} {base : Heap}
def spTl (K : PySem.W.Frag) : Sp := fun vs H Q E => ∃ (x C dx : Addr) (n s : V), vs = [.ref x, n, s] ∧ H x = some (.ins C dx []) ∧ Cls K C ∧ NoAttr K C "name" ∧ NoAttr K C "sense" ∧ StrV K H n ∧ StrV K H s ∧
  ((nmV n = false ∧ OutTx K x H "name" E) ∨ (nmV n = true ∧ snV s = false ∧ OutTx K x H "sense" E) ∨ (nmV n = true ∧ snV s = true ∧ ∀ H', Bt x H H' → H' x = some (.ins C dx [("name", n), ("sense", s)]) → Q .non H'))
abbrev s_tli : Stmt := inClass (topS 33) 2
theorem sc_tli : FnScope ["self", "name", "sense"] ["self", "name", "sense"] (defScope s_tli) := ⟨rfl, rfl, rfl, by decide +kernel, rfl, by decide +kernel, by decide +kernel⟩
theorem ok_tli {f : Addr} {fd : FuncData} (F : FunD K "__init__" "Tool.__init__" (defArgs s_tli) (defBody s_tli) (defScope s_tli) [] [] f fd) (Fneed_parts : Fnc P w K mg base 3 "need_parts" ["name", "sense"] (spNP K)) :
    FnOk P w K mg base (L2.CX P w) 4 f fd ["self", "name", "sense"] (spTl K) := by
  have nd := sc_tli.nd
  refine F.ok sc_tli (fun vs H Q E h => ?_) (fun cdv A' outer s H vs Q E hr h => ?_)
  · obtain ⟨x, C, dx, n, s, rfl, _⟩ := h
    rfl
  · obtain ⟨x, C, dx, n, sn, rfl, hx, cl, a1, a2, hn, hs, h⟩ := h
    refine ⟨_, (pss_cons (ps_expr (ocX Fneed_parts (hr.mono (by decide)) (takes_of rfl rfl rfl rfl) (pa_cons (pv 1) (pa_cons (pv 2) pa_nil))))
      (pss_cons (ps_fld (pv 0) (pv 1) rfl)
      (pss_one (ps_fld (pv 0) (pv 2) rfl)))), ?_⟩
    repeat walk_at "y"
    refine ⟨n, sn, rfl, hn, hs, ?_⟩
    rcases h with ⟨e1, k⟩ | ⟨e1, e2, k⟩ | ⟨e1, e2, k⟩
    · exact .inl ⟨e1, k.t Bt.refl hx⟩
    · exact .inr (.inl ⟨e1, e2, k.t Bt.refl hx⟩)
    · refine .inr (.inr ⟨e1, e2, fun H1 s1 => ?_⟩)
      repeat walk_at "y"
      refine ⟨x, C, dx, _, rfl, s1 _ _ hx, cl, a1, by decide, ?_⟩
      repeat walk_at "y"
      refine ⟨x, C, dx, _, rfl, upd_same, cl, a2, Nat.le_of_ble_eq_true rfl, ?_⟩
      refine k _ (fun a o na e => ?_) upd_same
      rw [upd_ne na, upd_ne na]
      exact s1 _ _ e
def spSc (K : PySem.W.Frag) : Sp := fun vs H Q E => ∃ (x dx : Addr) (n s d : V), vs = [.ref x, n, s, d] ∧ H x = some (.ins (CSc K) dx []) ∧ StrV K H n ∧ StrV K H s ∧
  ((nmV n = false ∧ OutTx K x H "name" E) ∨ (nmV n = true ∧ snV s = false ∧ OutTx K x H "sense" E) ∨
   (nmV n = true ∧ snV s = true ∧ ((∃ q, NumQ (CA K) H d q ∧ SzQ 1800 q ∧ q < 0 ∧ OutTx K x H "doubt" E) ∨ ((∀ H', Bt x H H' → NoNum K H' d) ∧ OutTx K x H "doubt" E) ∨
     (∃ q, NumQ (CA K) H d q ∧ SzQ 1800 q ∧ 0 ≤ q ∧ ∀ H' da, Bt x H H' → H' x = some (.ins (CSc K) dx [("name", n), ("sense", s), ("doubt", .ref da)]) → AmQ (CA K) H' da q → Q .non H'))))
theorem amq_bt {x a : Addr} {q : Rat} {H H' : Hp} (b : Bt x H H') (n : a ≠ x) (h : AmQ (CA K) H a q) : AmQ (CA K) H' a q := by
  obtain ⟨dx, h⟩ := h
  exact ⟨dx, b _ _ n h⟩
theorem numq_bt {x : Addr} {v : V} {q : Rat} {H H' : Hp} (b : Bt x H H') (n : v ≠ .ref x) (h : NumQ (CA K) H v q) : NumQ (CA K) H' v q := by
  rcases h with h | ⟨a, e, h⟩
  · exact .inl h
  · exact .inr ⟨a, e, amq_bt b (fun z => n (by rw [e, z])) h⟩
theorem num_ne {x dx C : Addr} {v : V} {q : Rat} {H : Hp} (hx : H x = some (.ins C dx [])) (h : NumQ (CA K) H v q) : v ≠ .ref x := by
  rcases h with ⟨i, e, _⟩ | ⟨a, e, dy, h⟩
  · rw [e]; intro z; cases z
  · rw [e]; intro z
    injection z with z
    rw [z, hx] at h; cases h
theorem scS_init : SupS ["self", "name", "sense", "doubt"] ["self", "name", "sense", "doubt"] (defScope (inClass (topS 34) 1)) := ⟨rfl, rfl, rfl, by decide +kernel, rfl, by decide +kernel, by decide +kernel, by decide +kernel⟩
abbrev s_sci : Stmt := inClass (topS 34) 1
abbrev s_rki : Stmt := inClass (topS 35) 1
theorem scR_init : SupS ["self", "name", "sense"] ["self", "name", "sense"] (defScope (inClass (topS 35) 1)) := ⟨rfl, rfl, rfl, by decide +kernel, rfl, by decide +kernel, by decide +kernel, by decide +kernel⟩
theorem ok_sci {f cc : Addr} {fd ft : FuncData} {dvs : List V} (F : FunS P K "__init__" "Scale.__init__" s_sci dvs cc (CSc K) f fd) (T : TopT K mg) (TF : TlF K) (O : AOps P w K mg base) (top : (P.main.scope.names.lookup ("super" : Str)).isSome = false)
    (SG : FnOk P w K mg base (L2.CX P w) 4 (He.ma K (CTl K) "__init__") ft ["self", "name", "sense"] (spTl K)) (SB : Binds K ft ["self", "name", "sense"] [])
    (Fneed_doubt : Fnc P w K mg base 6 "need_doubt" ["doubt"] (spND K)) : FnOk P w K mg base (L2.CX P w) 7 f fd ["self", "name", "sense", "doubt"] (spSc K) := by
  have AF := O.AF
  refine fnSup F scS_init (fun vs H Q E h => ?_) (fun cdv A' outer s H vs Q E hcd hr h => ?_)
  · obtain ⟨x, dx, n, s, d, rfl, _⟩ := h
    rfl
  · obtain ⟨x, dx, n, sn, d, rfl, hx, hn, hs, h⟩ := h
    have SA := supA_of (w := w) (mg := mg) (base := base) (N := ["self", "name", "sense", "doubt"]) (A := A') (outer := outer) (s := s) (H := H) (E := E) F hcd rfl rfl TF.cl T.n_super T.opq (by decide +kernel) (by decide +kernel) (by decide +kernel) rfl top
    refine ⟨_, (psu_super SA SG SB (hr.mono (by decide)) (passT (takes_of rfl rfl rfl rfl)) (pa_cons (pv 1) (pa_cons (pv 2) pa_nil)) (psu_of (pss_cons (ps_expr (ocX Fneed_doubt (hr.mono (by decide)) (takes_of rfl rfl rfl rfl) (pa_cons (pv 3) pa_nil)))
      (pss_one (ps_fld (pv 0) (smX O.S_of (hr.mono (by decide)) (takes_of rfl rfl rfl rfl) (og_ref T.g_Amount) (pa_cons (pv 3) pa_nil)) rfl))))), ?_⟩
    refine ⟨x, _, dx, _, rfl, hx, TF.as, ?_⟩
    repeat walk_at "y"
    refine ⟨x, _, dx, n, sn, rfl, hx, TF.os.cls, TF.ns "name" (by decide), TF.ns "sense" (by decide), hn, hs, ?_⟩
    rcases h with ⟨e1, k⟩ | ⟨e1, e2, k⟩ | ⟨e1, e2, h⟩
    · exact .inl ⟨e1, k⟩
    · exact .inr (.inl ⟨e1, e2, k⟩)
    · refine .inr (.inr ⟨e1, e2, fun H1 b1 hx1 => ?_⟩)
      repeat walk_at "y"
      rcases h with ⟨q, hq, sq, q0, k⟩ | ⟨hv, k⟩ | ⟨q, hq, sq, q0, k⟩
      · exact ⟨d, rfl, .inl ⟨q, numq_bt b1 (num_ne hx hq) hq, sq, q0, k.t b1 hx1⟩⟩
      · exact ⟨d, rfl, .inr (.inl ⟨hv _ b1, k.t b1 hx1⟩)⟩
      · have hq1 := numq_bt b1 (num_ne hx hq) hq
        refine ⟨d, rfl, .inr (.inr ⟨q, hq1, sq, q0, fun H2 s2 => ?_⟩)⟩
        repeat walk_at "y"
        refine ⟨d, rfl, .inl ⟨q, hq1.same s2, sq, fun z H3 n3 s3 a3 => ?_⟩⟩
        repeat walk_at "y"
        have hx3 := s3 _ _ (s2 _ _ hx1)
        refine ⟨x, _, dx, _, rfl, hx3, TF.os.cls, TF.ns "doubt" (by decide), Nat.le_of_ble_eq_true rfl, ?_⟩
        have zx : z ≠ x := fun e => by rw [e, s2 _ _ hx1] at n3; cases n3
        refine k _ z (fun a o na e => ?_) upd_same (amq_bt (x := x) (fun a o na e => by rw [upd_ne na]; exact e) zx a3)
        rw [upd_ne na]
        exact s3 _ _ (s2 _ _ (b1 _ _ na e))
def spRk (K : PySem.W.Frag) : Sp := fun vs H Q E => ∃ (x dx : Addr) (n s : V), vs = [.ref x, n, s] ∧ H x = some (.ins (CRk K) dx []) ∧ StrV K H n ∧ StrV K H s ∧
  ((nmV n = false ∧ OutTx K x H "name" E) ∨ (nmV n = true ∧ snV s = false ∧ OutTx K x H "sense" E) ∨ (nmV n = true ∧ snV s = true ∧ ∀ H', Bt x H H' → H' x = some (.ins (CRk K) dx [("name", n), ("sense", s)]) → Q .non H'))
theorem ok_rki {f cc : Addr} {fd ft : FuncData} {dvs : List V} (F : FunS P K "__init__" "Ranker.__init__" s_rki dvs cc (CRk K) f fd) (T : TopT K mg) (TF : TlF K) (top : (P.main.scope.names.lookup ("super" : Str)).isSome = false)
    (SG : FnOk P w K mg base (L2.CX P w) 4 (He.ma K (CTl K) "__init__") ft ["self", "name", "sense"] (spTl K)) (SB : Binds K ft ["self", "name", "sense"] []) : FnOk P w K mg base (L2.CX P w) 5 f fd ["self", "name", "sense"] (spRk K) := by
  refine fnSup F scR_init (fun vs H Q E h => ?_) (fun cdv A' outer s H vs Q E hcd hr h => ?_)
  · obtain ⟨x, dx, n, s, rfl, _⟩ := h
    rfl
  · obtain ⟨x, dx, n, sn, rfl, hx, hn, hs, h⟩ := h
    have SA := supA_of (w := w) (mg := mg) (base := base) (N := ["self", "name", "sense"]) (A := A') (outer := outer) (s := s) (H := H) (E := E) F hcd rfl rfl TF.cr T.n_super T.opq (by decide +kernel) (by decide +kernel) (by decide +kernel) rfl top
    refine ⟨_, (psu_super SA SG SB (hr.mono (by decide)) (passT (takes_of rfl rfl rfl rfl)) (pa_cons (pv 1) (pa_cons (pv 2) pa_nil)) (psu_of pss_nil)), ?_⟩
    refine ⟨x, _, dx, _, rfl, hx, TF.ar, ?_⟩
    repeat walk_at "y"
    refine ⟨x, _, dx, n, sn, rfl, hx, TF.or.cls, TF.nr "name" (by decide), TF.nr "sense" (by decide), hn, hs, ?_⟩
    rcases h with ⟨e1, k⟩ | ⟨e1, e2, k⟩ | ⟨e1, e2, k⟩
    · exact .inl ⟨e1, k⟩
    · exact .inr (.inl ⟨e1, e2, k⟩)
    · exact .inr (.inr ⟨e1, e2, fun H1 b1 hx1 => k H1 b1 hx1⟩)
end
end LW
set_option maxRecDepth 100000
namespace LW
open PySem PySem.Spec PyProof.Rows L2 OZ
local macro_rules | `(tactic| walk_at "szx1") => `(tactic| first
  | with_reducible assumption
  | exact sz_i64 (n := 64) (by decide)
  | (refine' Sz.add ?sx ?sy; (case sx => walk_at "szx1"); (case sy => walk_at "szx1"))
  | (refine' Sz.sub ?sx ?sy; (case sx => walk_at "szx1"); (case sy => walk_at "szx1"))
  | (refine' Sz.mul ?sx ?sy; (case sx => walk_at "szx1"); (case sy => walk_at "szx1"))
  | (refine' Sz.neg ?sx; (case sx => walk_at "szx1"))
  | (refine' Sz.iabs ?sx; (case sx => walk_at "szx1"))
  | (refine' sz_fdiv ?sx ?sy; (case sy => walk_at "nz"); (case sx => walk_at "szx1")))
local macro_rules | `(tactic| walk_at "szx") => `(tactic| (refine' Sz.mono ?szk ?szl; (case szk => walk_at "szx1"); (case szl => exact Nat.le_of_ble_eq_true rfl)))
local macro_rules | `(tactic| walk_at "aq") => `(tactic| first
  | assumption
  | (refine' AmQ.same ?aqs ?aqk; (case aqs => assumption); (case aqk => walk_at "aq"))
  | (refine' AmQ.extN ?aqs ?aqk; (case aqs => assumption); (case aqk => walk_at "aq"))
  | (refine' AmQ.kpl ?aqs ?aql ?aqk; (case aqs => assumption); (case aql => walk_at "hp"); (case aqk => walk_at "aq"))
  | (refine' AmQ.kp ?aql ?aqs ?aqk; (case aqs => assumption); (case aql => walk_at "pen"); (case aqk => walk_at "aq")))
local macro_rules | `(tactic| walk_at "nq") => `(tactic| first
  | assumption
  | exact NumQ.int
  | (refine' NumQ.am ?nqk; (case nqk => walk_at "aq"))
  | (refine' NumQ.same ?nqs ?nqk; (case nqs => assumption); (case nqk => walk_at "nq"))
  | (refine' NumQ.extN ?nqs ?nqk; (case nqs => assumption); (case nqk => walk_at "nq"))
  | (refine' NumQ.kpl ?nqs ?nql ?nqk; (case nqs => assumption); (case nql => walk_at "hp"); (case nqk => walk_at "nq")))
local macro_rules | `(tactic| walk_at "sz1") => `(tactic| first
  | with_reducible assumption
  | (refine' SzQ.add ?sx ?sy; (case sx => walk_at "sz1"); (case sy => walk_at "sz1"))
  | (refine' SzQ.sub ?sx ?sy; (case sx => walk_at "sz1"); (case sy => walk_at "sz1"))
  | (refine' SzQ.mul ?sx ?sy; (case sx => walk_at "sz1"); (case sy => walk_at "sz1"))
  | (refine' SzQ.div ?sx ?sy ?sz; (case sz => assumption); (case sx => walk_at "sz1"); (case sy => walk_at "sz1"))
  | (refine' SzQ.rmod ?sx ?sy ?sz; (case sz => assumption); (case sx => walk_at "sz1"); (case sy => walk_at "sz1"))
  | (refine' SzQ.neg ?sx; (case sx => walk_at "sz1"))
  | (refine' SzQ.qabs ?sx; (case sx => walk_at "sz1"))
  | (refine' SzQ.int ?sx ?sy; (case sx => with_reducible assumption); (case sy => exact Nat.le_of_ble_eq_true rfl))
  | exact sz_lit (by decide))
local macro_rules | `(tactic| walk_at "sz") => `(tactic| (refine' SzQ.mono ?szk ?szl; (case szk => walk_at "sz1"); (case szl => exact Nat.le_of_ble_eq_true rfl)))
local macro_rules | `(tactic| walk_at "nz") => `(tactic| first
  | assumption
  | decide
  | omega
  | exact intq0 (by decide))
local macro_rules | `(tactic| walk_at "szi") => `(tactic| first
  | assumption
  | exact Sz.mono (by with_reducible assumption) (Nat.le_of_ble_eq_true rfl)
  | exact sz_i64 (by decide))
local macro_rules | `(tactic| walk_at "ex") => `(tactic| first
  | assumption
  | (refine ExAt.same (by assumption) ?_; walk_at "ex"))
local macro_rules | `(tactic| walk_at "same") => `(tactic| first
  | assumption
  | exact same0
  | (refine Same.trans ?_ (by assumption); walk_at "same"))
local macro_rules | `(tactic| walk_at "tabs") => `(tactic| first
  | assumption
  | (refine' OZ.Tabs.same ?tbs ?tbk; (case tbs => assumption); (case tbk => walk_at "tabs"))
  | (refine' OZ.Tabs.kpl ?tbs ?tbl ?tbk; (case tbs => assumption); (case tbl => walk_at "hp"); (case tbk => walk_at "tabs"))
  | (refine' OZ.Tabs.kp ?tbl ?tbs ?tbk; (case tbs => assumption); (case tbl => walk_at "pen"); (case tbk => walk_at "tabs")))
local macro_rules | `(tactic| walk_at "ext") => `(tactic| first
  | assumption
  | exact LamX.ExtN.refl _
  | exact LamX.ExtN.of (by assumption)
  | (refine LamX.ExtN.trans ?_ (by assumption); walk_at "ext")
  | (refine LamX.ExtN.trans ?_ (LamX.ExtN.of (by assumption)); walk_at "ext"))
local macro_rules | `(tactic| walk_at "pen") => `(tactic| first
  | assumption
  | (refine' PenAt.same ?pek ?pes; (case pes => assumption); (case pek => walk_at "pen"))
  | (refine' PenAt.extN ?pek ?pes; (case pes => assumption); (case pek => walk_at "pen")))
local macro_rules | `(tactic| walk_at "kn") => `(tactic| first
  | assumption
  | exact KN.refl
  | (refine KN.trans ?_ (KN.same (by assumption)); walk_at "kn")
  | (refine KN.trans ?_ (KN.kp (by assumption)); walk_at "kn")
  | (refine KN.trans ?_ (KN.ext (by assumption)); walk_at "kn")
  | (refine KN.trans ?_ (by assumption); walk_at "kn"))
local macro_rules | `(tactic| walk_at "free") => `(tactic| first
  | assumption
  | (refine sfree (by assumption) ?_; walk_at "free"))
local macro_rules | `(tactic| walk_at "hp") => `(tactic| first
  | assumption
  | exact upd_same
  | (refine sat (by assumption) ?_; walk_at "hp")
  | (refine' esat ?ess ?esk ?esn; (case ess => assumption); (case esk => walk_at "hp"); (case esn => (intro _ zz; cases zz)))
  | (refine' kpne ?ess ?esn ?esk; (case ess => assumption); (case esn => (first | assumption | exact Ne.symm (by assumption))); (case esk => walk_at "hp"))
  | (refine' kpsat ?ess ?esl ?esk ?esn; (case ess => assumption); (case esl => walk_at "hp"); (case esk => walk_at "hp"); (case esn => (intro _ zz; cases zz)))
  | (refine upd_old ?_ ?_; (first | assumption | exact free_upd (by assumption)); walk_at "hp")
  | (refine upd_oth ?_ ?_; (first | assumption | exact Ne.symm (by assumption)); walk_at "hp"))
local macro_rules | `(tactic| walk_at "side") => `(tactic| first
  | assumption
  | decide
  | omega
  | exact ⟨by omega, by omega, by omega⟩
  | exact Or.inl ⟨by omega, by omega⟩
  | exact Or.inr ⟨by omega, by omega⟩
  | (show (_ : Int) ≠ 0; omega)
  | (refine' Sz.mulW ?ma ?mb ?mc; (case ma => walk_at "szx1"); (case mb => walk_at "szx1"); (case mc => exact Nat.le_of_ble_eq_true rfl))
  | (refine' Sz.divN ?ma ?mb ?mc; (case ma => walk_at "szx1"); (case mb => walk_at "nz"); (case mc => exact Nat.le_of_ble_eq_true rfl))
  | exact wide_div (b := 64) (by omega) (by omega) (by decide) (by decide)
  | exact wide_div (b := 4000) (by assumption) (by assumption) (by decide) (by decide))
local macro_rules | `(tactic| walk_at "y") => `(tactic| first
  | ((with_reducible refine y_var ?_); refine ⟨_, rfl, ?_⟩)
  | with_reducible refine y_c ?_
  | with_reducible refine y_op ?_
  | with_reducible refine y_cb ?_
  | with_reducible refine y_cons ?_
  | with_reducible refine y_nil ?_
  | with_reducible refine y_seq ?_
  | with_reducible refine y_asg ?_
  | with_reducible refine x_gn ?_
  | ((with_reducible refine' y_nx ?k1 ?k2); (case k1 => (simp only [L2.start, List.length_cons, List.length_nil, List.map_cons, List.map_nil, List.set_cons_succ, List.set_cons_zero, List.cons_append, List.nil_append, List.replicate]; rfl)))
  | with_reducible refine y_gsub ?_
  | with_reducible refine y_ret ?_
  | with_reducible refine y_drop ?_
  | with_reducible refine y_next ?_
  | with_reducible refine y_ifS ?_
  | with_reducible refine y_test ?_
  | with_reducible refine y_B ?_
  | with_reducible refine y_ex ?_
  | with_reducible refine y_not ?_
  | with_reducible refine y_and ?_
  | with_reducible refine y_or ?_
  | with_reducible refine y_notV ?_
  | with_reducible refine y_andV ?_
  | with_reducible refine y_orV ?_
  | with_reducible refine y_ifE ?_
  | with_reducible refine y_un ?_
  | with_reducible refine x_par ?_
  | with_reducible refine y_ex2 ?_
  | with_reducible refine y_call ?_
  | with_reducible refine y_callS ?_
  | with_reducible refine y_I0 ?_
  | ((with_reducible refine y_I ?_ ?_); (walk_at "side"))
  | with_reducible refine y_U ?_
  | ((with_reducible refine y_eq ?_ ?_); (exact rfl))
  | ((with_reducible refine y_ne ?_ ?_); (exact rfl))
  | ((with_reducible refine' y_ixL ?k1 ?k2 ?k3); (case k1 => walk_at "hp"); (case k2 => (first | assumption | exact rfl)))
  | ((with_reducible refine' y_ixT ?k1 ?k2 ?k3); (case k1 => walk_at "hp"); (case k2 => (first | assumption | exact rfl)))
  | ((with_reducible refine' y_setL ?k1 ?k2 ?k3); (case k1 => walk_at "hp"); (case k2 => (first | assumption | exact rfl)))
  | with_reducible refine y_int ?_
  | with_reducible refine y_intB ?_
  | with_reducible refine y_abs ?_
  | ((with_reducible refine' y_lenL ?k1 ?k3); (case k1 => walk_at "hp"))
  | ((with_reducible refine' y_lenT ?k1 ?k3); (case k1 => walk_at "hp"))
  | ((with_reducible refine y_lenS ?_ ?_); (walk_at "side"))
  | with_reducible refine y_isN ?_
  | with_reducible refine y_notN ?_
  | ((with_reducible refine y_addS ?_ ?_); (walk_at "side"))
  | with_reducible refine y_inC ?_
  | with_reducible refine y_notInC ?_
  | with_reducible refine y_sl ?_
  | with_reducible refine y_part ?_
  | with_reducible refine y_nopart ?_
  | with_reducible refine y_exI ?_
  | ((with_reducible refine y_slS ?_ ?_); (walk_at "side"))
  | with_reducible refine z_lst ?_
  | with_reducible refine z_tup ?_
  | ((with_reducible refine z_newL ?_ ?_); (exact Nat.le_of_ble_eq_true rfl); (intro pp HH npp spp opp))
  | ((with_reducible refine z_newT ?_ ?_); (exact Nat.le_of_ble_eq_true rfl); (intro pp HH npp spp opp))
  | ((with_reducible refine' y_chI ?k1 ?k2); (case k1 => exact rfl))
  | with_reducible refine y_chain ?_
  | with_reducible refine y_yes ?_
  | with_reducible refine y_att ?_
  | ((with_reducible refine y_disp ?_ ?_); (exact Nat.le_of_ble_eq_true rfl); (intro pp hpp))
  | ((with_reducible refine' y_gtup ?k1 ?k2 ?k3); (case k1 => walk_at "hp"); (case k2 => exact rfl))
  | with_reducible refine y_gcons ?_
  | with_reducible refine y_gnil ?_
  | with_reducible refine y_mkO ?_
  | with_reducible refine y_callKw ?_
  | with_reducible refine y_mkA ?_
  | with_reducible refine y_sm ?_
  | with_reducible refine y_smK ?_
  | with_reducible refine y_cut0 ?_
  | with_reducible refine y_methK ?_
  | ((with_reducible refine' y_lm ?k1 ?k2); (case k1 => walk_at "tabs"); (intro HH ee tt))
  | ((with_reducible refine' z_rep ?k1 ?k2 ?k3 ?k4 ?k5); (case k1 => walk_at "hp"); (case k2 => decide); (case k3 => decide); (case k4 => exact Nat.le_of_ble_eq_true rfl); (intro pp HH npp spp opp))
  | ((with_reducible refine z_rev (by decide) (by walk_at "hp") ?_); (intro pp HH npp spp opp))
  | with_reducible refine y_rfl ?_
  | with_reducible refine y_mkA1 ?_
  | ((with_reducible refine' y_aqT ?k0 ?k1 ?k2); (case k0 => assumption); (case k1 => walk_at "aq"))
  | ((with_reducible refine' y_aqB ?k0 ?k1 ?k2); (case k0 => assumption); (case k1 => walk_at "aq"))
  | ((with_reducible refine' y_bin ?k1 ?k2 ?k3 ?k4 ?k5); (case k1 => walk_at "aq"); (case k2 => walk_at "nq"); (case k3 => walk_at "sz"); (case k4 => walk_at "sz"); (intro pp HH npp spp opp))
  | ((with_reducible refine' y_rbin ?k1 ?k3 ?k4 ?k5); (case k1 => walk_at "aq"); (case k3 => walk_at "sz"); (case k4 => walk_at "sz"); (intro pp HH npp spp opp))
  | ((with_reducible refine' y_binM ?k1 ?k2 ?k3 ?k4 ?k5); (case k1 => walk_at "aq"); (case k2 => walk_at "nq"); (case k3 => walk_at "sz"); (case k4 => walk_at "sz"); (intro pp HH npp spp opp))
  | ((with_reducible refine' y_rbinM ?k1 ?k3 ?k4 ?k5); (case k1 => walk_at "aq"); (case k3 => walk_at "sz"); (case k4 => walk_at "sz"); (intro pp HH npp spp opp))
  | ((with_reducible refine' y_binD ?k1 ?k2 ?k3 ?k4 ?k5 ?k6); (case k1 => walk_at "aq"); (case k2 => walk_at "nq"); (case k3 => walk_at "sz"); (case k4 => walk_at "sz"); (case k5 => walk_at "nz"); (intro pp HH npp spp opp))
  | ((with_reducible refine' y_rbinD ?k1 ?k3 ?k4 ?k5 ?k6); (case k1 => walk_at "aq"); (case k3 => walk_at "sz"); (case k4 => walk_at "sz"); (case k5 => walk_at "nz"); (intro pp HH npp spp opp))
  | ((with_reducible refine' y_binF ?k1 ?k2 ?k3 ?k4 ?k5 ?k6); (case k1 => walk_at "aq"); (case k2 => walk_at "nq"); (case k3 => walk_at "sz"); (case k4 => walk_at "sz"); (case k5 => walk_at "nz"); (intro HH spp))
  | ((with_reducible refine' y_rbinF ?k1 ?k3 ?k4 ?k5 ?k6); (case k1 => walk_at "aq"); (case k3 => walk_at "sz"); (case k4 => walk_at "sz"); (case k5 => walk_at "nz"); (intro HH spp))
  | ((with_reducible refine' y_cmp ?kK ?k0 ?k1 ?k2 ?k3 ?k4 ?k5); (case kK => exact rfl); (case k0 => assumption); (case k1 => walk_at "aq"); (case k2 => walk_at "nq"); (case k3 => walk_at "sz"); (case k4 => walk_at "sz"); (intro HH spp))
  | ((with_reducible refine' y_rcmp ?k1 ?k3 ?k4 ?k5); (case k1 => walk_at "aq"); (case k3 => walk_at "sz"); (case k4 => walk_at "sz"); (intro HH spp))
  | ((with_reducible refine' y_ceq ?kK ?k0 ?k1 ?k2 ?k5); (case kK => exact rfl); (case k0 => assumption); (case k1 => walk_at "aq"); (case k2 => walk_at "nq"); (intro HH spp))
  | ((with_reducible refine' y_req ?k1 ?k5); (case k1 => walk_at "aq"); (intro HH spp))
  | ((with_reducible refine' y_cne ?kK ?k0 ?k1 ?k2 ?k5); (case kK => exact rfl); (case k0 => assumption); (case k1 => walk_at "aq"); (case k2 => walk_at "nq"); (intro HH spp))
  | ((with_reducible refine' y_un1 ?k1 ?k3 ?k5); (case k1 => walk_at "aq"); (case k3 => walk_at "sz"); (intro pp HH npp spp opp))
  | ((with_reducible refine' y_absO ?k1 ?k3 ?k5); (case k1 => walk_at "aq"); (case k3 => walk_at "sz"); (intro pp HH npp spp opp))
  | ((with_reducible refine' y_truA ?k1 ?k5); (case k1 => walk_at "aq"))
  | ((with_reducible refine' y_boolA ?k1 ?k5); (case k1 => walk_at "aq"))
  | with_reducible refine y_meth ?_
  | ((with_reducible refine' y_methX ?k1 ?k2); (case k1 => walk_at "aq"))
  | ((with_reducible refine' y_over ?k1 ?k2 ?k3 ?k4 ?k5 ?k6); (case k1 => walk_at "aq"); (case k2 => walk_at "nq"); (case k3 => walk_at "sz"); (case k4 => walk_at "sz"); (case k5 => walk_at "nz"); (intro pp HH npp spp opp))
  | ((with_reducible refine x_aug ?_); refine ⟨_, rfl, ?_⟩)
  | ((with_reducible refine' y_nwI ?k1 ?k2 ?k3 ?k4); (case k1 => walk_at "nz"); (case k2 => walk_at "szi"); (case k3 => walk_at "szi"); (intro pp HH npp spp opp))
  | ((with_reducible refine' y_nwI1 ?k2 ?k4); (case k2 => walk_at "szi"); (intro pp HH npp spp opp))
  | with_reducible refine y_fld ?_
  | with_reducible refine y_for ?_
  | with_reducible refine y_iRng1 ?_
  | with_reducible refine y_iRng2 ?_
  | ((with_reducible refine y_rgF1 ?_ ?_); (first | decide | omega))
  | ((with_reducible refine y_rgL1 ?_ ?_); (first | decide | omega))
  | ((with_reducible refine y_rgF2 ?_ ?_); (first | decide | omega))
  | ((with_reducible refine y_rgL2 ?_ ?_); (first | decide | omega))
  | with_reducible refine y_lc ?_
  | with_reducible refine y_rev ?_
  | ((with_reducible refine' y_glst ?k1 ?k2 ?k3); (case k1 => walk_at "hp"); (case k2 => exact rfl))
  | with_reducible refine y_iList ?_
  | with_reducible refine y_iTup ?_
  | with_reducible refine y_iEnum ?_
  | ((with_reducible refine' y_itL ?k1 ?k2); (case k1 => walk_at "hp"))
  | ((with_reducible refine' y_itT ?k1 ?k2); (case k1 => walk_at "hp"))
  | ((with_reducible refine' y_itE ?k1 ?k2); (case k1 => walk_at "hp"))
  | with_reducible refine y_m0 ?_
  | ((with_reducible refine' z_slT ?k1 ?k2 ?k3); (case k1 => walk_at "hp"); (case k2 => decide); (intro pp HH npp spp opp))
  | with_reducible refine y_pp ?_
  | with_reducible refine y_pp0 ?_
  | with_reducible refine y_xv ?_
  | with_reducible refine y_xv0 ?_
  | with_reducible refine y_bm ?_
  | ((with_reducible refine' y_tyL ?k1 ?k2); (case k1 => walk_at "hp"))
  | ((with_reducible refine' z_app ?k1 ?k2 ?k3); (case k1 => walk_at "hp"); (case k2 => (first | exact Nat.le_of_ble_eq_true rfl | walk_at "side")); (intro HH kpp opp))
  | ((with_reducible refine' z_cat ?k1 ?k2 ?k3 ?k4); (case k1 => walk_at "hp"); (case k2 => walk_at "hp"); (case k3 => (first | exact Nat.le_of_ble_eq_true rfl | walk_at "side")); (intro pp HH npp spp opp))
  | ((with_reducible refine' z_slL ?k1 ?k2); (case k1 => walk_at "hp"); (intro pp HH npp spp opp))
  | ((with_reducible refine' y_in ?k1 ?k2 ?k3 ?k4); (case k1 => walk_at "hp"); (case k2 => exact rfl); (case k3 => exact rfl))
  | with_reducible refine y_iteT ?_
  | with_reducible refine y_iteF ?_
  | with_reducible refine y_iteNT ?_
  | with_reducible refine y_iteNF ?_
  | ((with_reducible refine y_iteY ?_ ?_); (first | exact rfl | assumption | omega))
  | ((with_reducible refine y_iteX ?_ ?_); (first | focus (intro zz; cases zz; done) | assumption | omega))
  | ((with_reducible refine y_iteNY ?_ ?_); (first | exact rfl | assumption | omega))
  | ((with_reducible refine y_iteNX ?_ ?_); (first | focus (intro zz; cases zz; done) | assumption | omega))
  | ((with_reducible refine y_ite ?_ ?_) <;> intro hh)
  | ((with_reducible refine y_iteN ?_ ?_) <;> intro hh)
  | dsimp only)
local macro_rules | `(tactic| walk_at "kpc") => `(tactic| first
  | assumption
  | exact Kp.refl _ _
  | (refine Kp.trans ?_ (by assumption); walk_at "kpc")
  | (refine Kp.trans ?_ (Kp.of (by assumption)); walk_at "kpc")
  | fail)
local macro_rules | `(tactic| walk_at "ik") => `(tactic| first
  | assumption
  | exact InsK.refl
  | (refine' InsK.trans ?ika ?ikb; (case ikb => exact InsK.same (by assumption)); (case ika => walk_at "ik"))
  | (refine' InsK.trans ?ika ?ikb; (case ikb => exact InsK.ext (by assumption)); (case ika => walk_at "ik"))
  | (refine' InsK.trans ?ika ?ikb; (case ikb => (refine' InsK.pen ?ikp ?ikk; (case ikk => assumption); (case ikp => walk_at "pen"))); (case ika => walk_at "ik"))
  | (refine' InsK.trans ?ika ?ikb; (case ikb => (refine' InsK.kpl ?ikl ?ikk; (case ikk => assumption); (case ikl => walk_at "hp"))); (case ika => walk_at "ik"))
  | fail)
local macro_rules | `(tactic| walk_at "tl") => `(tactic| first
  | assumption
  | (refine' TlAt.ik ?tlk ?tla; (case tla => assumption); (case tlk => walk_at "ik"))
  | fail)
local macro_rules | `(tactic| walk_at "drw") => `(tactic| first
  | ((with_reducible refine' y_drawC ?k1 ?k2 ?k3 ?k4 ?k5); (case k1 => walk_at "pen"); (case k2 => omega); (case k3 => (first | decide | omega)); (case k4 => (first | exact nat4000 (by decide) | exact nat4000 (Nat.le_trans (by omega) (show 1000000 ≤ 10 ^ 60 by decide)))); (intro rr HH rr0 rr1 PP kk))
  | fail)
local macro_rules | `(tactic| walk_at "np") => `(tactic| first
  | assumption
  | (refine' PenAt.p_ne ?npP ?nph; (case nph => assumption); (case npP => walk_at "pen"))
  | fail)
local macro_rules | `(tactic| walk_at "y") => `(tactic| first
  | with_reducible refine y_make ?_
  | with_reducible refine y_makeKG ?_
  | with_reducible refine y_smD ?_
  | with_reducible refine y_dget ?_
  | with_reducible refine y_dput ?_
  | ((with_reducible refine' z_dgetR ?k1 ?k2 ?k3); (case k1 => walk_at "hp"); (case k2 => exact rfl))
  | ((with_reducible refine z_disp ?_); (intro pp HH npp spp opp))
  | ((with_reducible refine z_dnew ?_); (intro pp HH npp spp opp))
  | fail)
local macro_rules | `(tactic| walk_at "hp") => `(tactic| first
  | (refine' kpne ?ess ?esn ?esk; (case ess => assumption); (case esn => walk_at "np"); (case esk => walk_at "hp"))
  | fail)
local macro_rules | `(tactic| walk_at "hp") => `(tactic| first
  | (refine' kpdat ?ess ?esl ?esk ?esn; (case ess => assumption); (case esl => walk_at "hp"); (case esk => walk_at "hp"); (case esn => (intro _ zz; cases zz)))
  | fail)
local macro_rules | `(tactic| walk_at "pen") => `(tactic| first
  | (refine' PenAt.kpd ?pek ?ped ?pes; (case pes => assumption); (case ped => walk_at "hp"); (case pek => walk_at "pen"))
  | fail)
local macro_rules | `(tactic| walk_at "ik") => `(tactic| first
  | (refine' InsK.trans ?ika ?ikb; (case ikb => (refine' InsK.kpd ?ikl ?ikk; (case ikk => assumption); (case ikl => walk_at "hp"))); (case ika => walk_at "ik"))
  | fail)
local macro_rules | `(tactic| walk_at "tabs") => `(tactic| first
  | (refine' OZ.Tabs.kpd ?tbs ?tbl ?tbk; (case tbs => assumption); (case tbl => walk_at "hp"); (case tbk => walk_at "tabs"))
  | fail)
structure Tl where
  nm : Str
  sn : Str
  db : Option Rat
def TlAt (K : PySem.W.Frag) (H : Hp) (a : Addr) (t : Tl) : Prop := match t.db with
  | some q => ∃ dx d, H a = some (.ins (CSc K) dx [("name", .str t.nm), ("sense", .str t.sn), ("doubt", .ref d)]) ∧ AmQ (CA K) H d q
  | none => ∃ dx, H a = some (.ins (CRk K) dx [("name", .str t.nm), ("sense", .str t.sn)])
theorem TlAt.ik {K : PySem.W.Frag} {H H' : Hp} {a : Addr} {t : Tl} (k : InsK H H') (h : TlAt K H a t) : TlAt K H' a t := by
  obtain ⟨n, s, db⟩ := t
  cases db with
  | none => obtain ⟨dx, h⟩ := h; exact ⟨dx, k _ _ _ _ h⟩
  | some q => obtain ⟨dx, d, h1, h2⟩ := h; exact ⟨dx, d, k _ _ _ _ h1, h2.ik k⟩
def NewS (K : PySem.W.Frag) (n s d : V) (H : Hp) (Q : VK) (E : XK) : Prop := StrV K H n ∧ StrV K H s ∧
  ((nmV n = false ∧ OutT K H "name" E) ∨ (nmV n = true ∧ snV s = false ∧ OutT K H "sense" E) ∨
   (nmV n = true ∧ snV s = true ∧ ((∃ q, NumQ (CA K) H d q ∧ SzQ 1800 q ∧ q < 0 ∧ OutT K H "doubt" E) ∨ (NoNum K H d ∧ OutT K H "doubt" E) ∨
     (∃ zn zs q, n = .str zn ∧ s = .str zs ∧ NumQ (CA K) H d q ∧ SzQ 1800 q ∧ 0 ≤ q ∧ ∀ a H', H a = none → Same H H' → TlAt K H' a ⟨zn, zs, some q⟩ → Q (.ref a) H'))))
def NewR (K : PySem.W.Frag) (n s : V) (H : Hp) (Q : VK) (E : XK) : Prop := StrV K H n ∧ StrV K H s ∧
  ((nmV n = false ∧ OutT K H "name" E) ∨ (nmV n = true ∧ snV s = false ∧ OutT K H "sense" E) ∨
   (nmV n = true ∧ snV s = true ∧ ∃ zn zs, n = .str zn ∧ s = .str zs ∧ ∀ a H', H a = none → Same H H' → TlAt K H' a ⟨zn, zs, none⟩ → Q (.ref a) H'))
section
variable {P : Program} {w : World} {K : PySem.W.Frag} {mg : Str → Option Value} {base : Heap} {n s d : V} {H : Hp} {Q : VK} {E : XK}
theorem made_same {x dx C : Addr} (hx : H x = none) (hd : H dx = none) : Same H (upd (upd H dx (.own x)) x (.ins C dx [])) := fun b o e => by
  rw [upd_ne (ne_of_none e hx)]; exact upd_old hd e
theorem bt_same {x : Addr} {H1 H' : Hp} (hx : H x = none) (s0 : Same H H1) (b : Bt x H1 H') : Same H H' := fun a o e => b a o (ne_of_none e hx) (s0 _ _ e)
theorem OutT.tx {x : Addr} {H1 : Hp} {z : Str} (h : OutT K H z E) (hx : H x = none) (s0 : Same H H1) : OutTx K x H1 z E := fun H' dd b n e => h H' dd (bt_same hx s0 b) (s0.free n) e
theorem newS_init (h : NewS K n s d H Q E) : Mks (CSc K) (spSc K) [n, s, d] H Q E := by
  intro x dx hx hd hn
  have s0 := made_same (C := CSc K) hx hd
  obtain ⟨h1, h2, h⟩ := h
  refine ⟨x, dx, n, s, d, rfl, upd_same, h1.vk (.same s0), h2.vk (.same s0), ?_⟩
  rcases h with ⟨e1, k⟩ | ⟨e1, e2, k⟩ | ⟨e1, e2, h⟩
  · exact .inl ⟨e1, k.tx hx s0⟩
  · exact .inr (.inl ⟨e1, e2, k.tx hx s0⟩)
  · refine .inr (.inr ⟨e1, e2, ?_⟩)
    rcases h with ⟨q, hq, sq, q0, k⟩ | ⟨⟨kd, iv, t, ty, kt⟩, k⟩ | ⟨zn, zs, q, rfl, rfl, hq, sq, q0, k⟩
    · exact .inl ⟨q, hq.same s0, sq, q0, k.tx hx s0⟩
    · exact .inr (.inl ⟨fun H' b => ⟨kd.same (bt_same hx s0 b), iv, t, tyX_same (bt_same hx s0 b) ty, kt⟩, k.tx hx s0⟩)
    · exact .inr (.inr ⟨q, hq.same s0, sq, q0, fun H' da b e a => ⟨rfl, k x H' hx (bt_same hx s0 b) ⟨dx, da, e, a⟩⟩⟩)
theorem newR_init (h : NewR K n s H Q E) : Mks (CRk K) (spRk K) [n, s] H Q E := by
  intro x dx hx hd hn
  have s0 := made_same (C := CRk K) hx hd
  obtain ⟨h1, h2, h⟩ := h
  refine ⟨x, dx, n, s, rfl, upd_same, h1.vk (.same s0), h2.vk (.same s0), ?_⟩
  rcases h with ⟨e1, k⟩ | ⟨e1, e2, k⟩ | ⟨e1, e2, zn, zs, rfl, rfl, k⟩
  · exact .inl ⟨e1, k.tx hx s0⟩
  · exact .inr (.inl ⟨e1, e2, k.tx hx s0⟩)
  · exact .inr (.inr ⟨e1, e2, fun H' b e => ⟨rfl, k x H' hx (bt_same hx s0 b) ⟨dx, e⟩⟩⟩)
theorem newS_ok {zn zs : Str} {q : Rat} (hn : isNm zn = true) (hs : zs ∈ SEN) (hq : NumQ (CA K) H d q) (sq : SzQ 1800 q) (q0 : 0 ≤ q) (k : ∀ a H', H a = none → Same H H' → TlAt K H' a ⟨zn, zs, some q⟩ → Q (.ref a) H') : NewS K (.str zn) (.str zs) d H Q E := by
  have l1 := isNm_len hn
  have l2 : zs.length ≤ 10000 := by
    simp only [SEN, List.mem_cons, List.not_mem_nil, or_false] at hs
    rcases hs with rfl | rfl | rfl <;> decide
  exact ⟨.str (by omega), .str l2, .inr (.inr ⟨hn, decide_eq_true hs, .inr (.inr ⟨zn, zs, q, rfl, rfl, hq, sq, q0, k⟩)⟩)⟩
theorem newR_ok {zn zs : Str} (hn : isNm zn = true) (hs : zs ∈ SEN) (k : ∀ a H', H a = none → Same H H' → TlAt K H' a ⟨zn, zs, none⟩ → Q (.ref a) H') : NewR K (.str zn) (.str zs) H Q E := by
  have l1 := isNm_len hn
  have l2 : zs.length ≤ 10000 := by
    simp only [SEN, List.mem_cons, List.not_mem_nil, or_false] at hs
    rcases hs with rfl | rfl | rfl <;> decide
  exact ⟨.str (by omega), .str l2, .inr (.inr ⟨hn, decide_eq_true hs, zn, zs, rfl, rfl, k⟩)⟩
def spUpS (sn : Str) (K : PySem.W.Frag) : Sp := fun vs H Q E => ∃ n d : V, vs = [n, d] ∧ NewS K n (.str sn) d H Q E
def spUpR (sn : Str) (K : PySem.W.Frag) : Sp := fun vs H Q E => ∃ n : V, vs = [n] ∧ NewR K n (.str sn) H Q E
end
end LW
set_option maxRecDepth 100000
set_option maxHeartbeats 2000000
namespace LW
open PySem PySem.Spec PyProof.Rows L2 OZ
theorem toolB_ok {K : PySem.W.Frag} (h : toolB K = true) : TlF K := by
  unfold toolB kitB at h
  obtain ⟨h1, h⟩ := He.ba h
  obtain ⟨h2, h⟩ := He.ba h
  obtain ⟨h3, h⟩ := He.ba h
  obtain ⟨h4, h⟩ := He.ba h
  obtain ⟨h5, h⟩ := He.ba h
  obtain ⟨h6, h⟩ := He.ba h
  obtain ⟨h7, h⟩ := He.ba h
  obtain ⟨h8, h⟩ := He.ba h
  obtain ⟨h9, h⟩ := He.ba h
  obtain ⟨h10, h⟩ := He.ba h
  obtain ⟨h11, h⟩ := He.ba h
  obtain ⟨h12, h⟩ := He.ba h
  obtain ⟨h13, h⟩ := He.ba h
  obtain ⟨h14, h⟩ := He.ba h
  obtain ⟨h15, h⟩ := He.ba h
  obtain ⟨h16, h⟩ := He.ba h
  obtain ⟨h17, h⟩ := He.ba h
  obtain ⟨h18, h⟩ := He.ba h
  obtain ⟨h19, h⟩ := He.ba h
  obtain ⟨h20, h⟩ := He.ba h
  obtain ⟨h21, h⟩ := He.ba h
  obtain ⟨h22, h23⟩ := He.ba h
  have two : ∀ {p q : Prop} [Decidable p] [Decidable q], (decide p && decide q) = true → p ∧ q := fun h => by simpa only [Bool.and_eq_true, decide_eq_true_eq] using h
  exact { os := ocB_ok h1, or := ocB_ok h2, ns := fun f hf => of_decide_eq_true (p := PySem.W.findIn K (.ref (CSc K)) f = some none) (List.all_eq_true.mp h3 f hf), nr := fun f hf => of_decide_eq_true (p := PySem.W.findIn K (.ref (CRk K)) f = some none) (List.all_eq_true.mp h4 f hf)
          ks := fun T hT => two (List.all_eq_true.mp h5 T hT), kr := fun T hT => two (List.all_eq_true.mp h6 T hT), kt := fun T hT => of_decide_eq_true (List.all_eq_true.mp h7 T hT), ka := fun T hT => of_decide_eq_true (List.all_eq_true.mp h8 T hT)
          k1 := of_decide_eq_true h9, k2 := of_decide_eq_true h10, k3 := of_decide_eq_true h11, k4 := of_decide_eq_true h12, k5 := of_decide_eq_true h13, k6 := of_decide_eq_true h14, k7 := of_decide_eq_true h15, k8 := of_decide_eq_true h16, k9 := of_decide_eq_true h17, k10 := of_decide_eq_true h18, k11 := of_decide_eq_true h19
          cl := Option.isSome_iff_exists.mp h20, cr := Option.isSome_iff_exists.mp h21, as := abvB_ok h22, ar := abvB_ok h23 }
theorem mkB_ok {K : PySem.W.Frag} {C : Addr} (h : mkB K C = true) : Mk K C (He.ma K C "__init__") ∧ ClX.CRead K C (.type "type") := by
  unfold mkB at h
  obtain ⟨h1, h⟩ := He.ba h
  obtain ⟨h2, h⟩ := He.ba h
  obtain ⟨h3, h4⟩ := He.ba h
  exact ⟨⟨h1, (methB_ok h2).1, (methB_ok h2).2, h3⟩, crdB_ok h4⟩
section
variable {P : Program} {w : World} {K : PySem.W.Frag} {mg : Str → Option Value} {base : Heap}
abbrev s_xbt : Stmt := inClass (topS 6) 0
theorem sc_xbt : FnScope ["self", "part"] ["self", "part"] (defScope s_xbt) := ⟨rfl, rfl, rfl, by decide +kernel, rfl, by decide +kernel, by decide +kernel⟩
theorem ok_xbt {f C : Addr} {fd : FuncData} (F : FunD K "__init__" "BadTool.__init__" (defArgs s_xbt) (defBody s_xbt) (defScope s_xbt) [] [] f fd) (xc : XC K C) (na : NoAttr K C "part") : FnOk P w K mg base (L2.CX P w) 1 f fd ["self", "part"] (spX1 "part" C) := by
  refine F.ok sc_xbt (fun vs H Q E h => ?_) (fun cdv A outer s H vs Q E hr h => ?_)
  · obtain ⟨a, v, rfl, _⟩ := h
    rfl
  · obtain ⟨a, v, rfl, ha, k⟩ := h
    refine ⟨_, PSs.nox (pss_one (ps_ost (pv 0) (pv 1))), ?_⟩
    exact ⟨_, rfl, _, rfl, a, C, rfl, xc.oex, na, .inl ⟨ha, fun dx h1 h2 => k dx h1 h2⟩⟩
end
end LW
set_option maxRecDepth 100000
namespace LW
open PySem PySem.Spec PyProof.Rows L2 OZ PySem.NumText
local macro_rules | `(tactic| walk_at "szx1") => `(tactic| first
  | with_reducible assumption
  | exact sz_i64 (n := 64) (by decide)
  | (refine' Sz.add ?sx ?sy; (case sx => walk_at "szx1"); (case sy => walk_at "szx1"))
  | (refine' Sz.sub ?sx ?sy; (case sx => walk_at "szx1"); (case sy => walk_at "szx1"))
  | (refine' Sz.mul ?sx ?sy; (case sx => walk_at "szx1"); (case sy => walk_at "szx1"))
  | (refine' Sz.neg ?sx; (case sx => walk_at "szx1"))
  | (refine' Sz.iabs ?sx; (case sx => walk_at "szx1"))
  | (refine' sz_fdiv ?sx ?sy; (case sy => walk_at "nz"); (case sx => walk_at "szx1")))
local macro_rules | `(tactic| walk_at "szx") => `(tactic| (refine' Sz.mono ?szk ?szl; (case szk => walk_at "szx1"); (case szl => exact Nat.le_of_ble_eq_true rfl)))
local macro_rules | `(tactic| walk_at "aq") => `(tactic| first
  | assumption
  | (refine' AmQ.same ?aqs ?aqk; (case aqs => assumption); (case aqk => walk_at "aq"))
  | (refine' AmQ.extN ?aqs ?aqk; (case aqs => assumption); (case aqk => walk_at "aq"))
  | (refine' AmQ.kpl ?aqs ?aql ?aqk; (case aqs => assumption); (case aql => walk_at "hp"); (case aqk => walk_at "aq"))
  | (refine' AmQ.kp ?aql ?aqs ?aqk; (case aqs => assumption); (case aql => walk_at "pen"); (case aqk => walk_at "aq")))
local macro_rules | `(tactic| walk_at "nq") => `(tactic| first
  | assumption
  | exact NumQ.int
  | (refine' NumQ.am ?nqk; (case nqk => walk_at "aq"))
  | (refine' NumQ.same ?nqs ?nqk; (case nqs => assumption); (case nqk => walk_at "nq"))
  | (refine' NumQ.extN ?nqs ?nqk; (case nqs => assumption); (case nqk => walk_at "nq"))
  | (refine' NumQ.kpl ?nqs ?nql ?nqk; (case nqs => assumption); (case nql => walk_at "hp"); (case nqk => walk_at "nq")))
local macro_rules | `(tactic| walk_at "sz1") => `(tactic| first
  | with_reducible assumption
  | (refine' SzQ.add ?sx ?sy; (case sx => walk_at "sz1"); (case sy => walk_at "sz1"))
  | (refine' SzQ.sub ?sx ?sy; (case sx => walk_at "sz1"); (case sy => walk_at "sz1"))
  | (refine' SzQ.mul ?sx ?sy; (case sx => walk_at "sz1"); (case sy => walk_at "sz1"))
  | (refine' SzQ.div ?sx ?sy ?sz; (case sz => assumption); (case sx => walk_at "sz1"); (case sy => walk_at "sz1"))
  | (refine' SzQ.rmod ?sx ?sy ?sz; (case sz => assumption); (case sx => walk_at "sz1"); (case sy => walk_at "sz1"))
  | (refine' SzQ.neg ?sx; (case sx => walk_at "sz1"))
  | (refine' SzQ.qabs ?sx; (case sx => walk_at "sz1"))
  | (refine' SzQ.int ?sx ?sy; (case sx => with_reducible assumption); (case sy => exact Nat.le_of_ble_eq_true rfl))
  | exact sz_lit (by decide))
local macro_rules | `(tactic| walk_at "sz") => `(tactic| (refine' SzQ.mono ?szk ?szl; (case szk => walk_at "sz1"); (case szl => exact Nat.le_of_ble_eq_true rfl)))
local macro_rules | `(tactic| walk_at "nz") => `(tactic| first
  | assumption
  | decide
  | omega
  | exact intq0 (by decide))
local macro_rules | `(tactic| walk_at "szi") => `(tactic| first
  | assumption
  | exact Sz.mono (by with_reducible assumption) (Nat.le_of_ble_eq_true rfl)
  | exact sz_i64 (by decide))
local macro_rules | `(tactic| walk_at "ex") => `(tactic| first
  | assumption
  | (refine ExAt.same (by assumption) ?_; walk_at "ex"))
local macro_rules | `(tactic| walk_at "same") => `(tactic| first
  | assumption
  | exact same0
  | (refine Same.trans ?_ (by assumption); walk_at "same"))
local macro_rules | `(tactic| walk_at "tabs") => `(tactic| first
  | assumption
  | (refine' OZ.Tabs.same ?tbs ?tbk; (case tbs => assumption); (case tbk => walk_at "tabs"))
  | (refine' OZ.Tabs.kpl ?tbs ?tbl ?tbk; (case tbs => assumption); (case tbl => walk_at "hp"); (case tbk => walk_at "tabs"))
  | (refine' OZ.Tabs.kp ?tbl ?tbs ?tbk; (case tbs => assumption); (case tbl => walk_at "pen"); (case tbk => walk_at "tabs")))
local macro_rules | `(tactic| walk_at "ext") => `(tactic| first
  | assumption
  | exact LamX.ExtN.refl _
  | exact LamX.ExtN.of (by assumption)
  | (refine LamX.ExtN.trans ?_ (by assumption); walk_at "ext")
  | (refine LamX.ExtN.trans ?_ (LamX.ExtN.of (by assumption)); walk_at "ext"))
local macro_rules | `(tactic| walk_at "pen") => `(tactic| first
  | assumption
  | (refine' PenAt.same ?pek ?pes; (case pes => assumption); (case pek => walk_at "pen"))
  | (refine' PenAt.extN ?pek ?pes; (case pes => assumption); (case pek => walk_at "pen")))
local macro_rules | `(tactic| walk_at "kn") => `(tactic| first
  | assumption
  | exact KN.refl
  | (refine KN.trans ?_ (KN.same (by assumption)); walk_at "kn")
  | (refine KN.trans ?_ (KN.kp (by assumption)); walk_at "kn")
  | (refine KN.trans ?_ (KN.ext (by assumption)); walk_at "kn")
  | (refine KN.trans ?_ (by assumption); walk_at "kn"))
local macro_rules | `(tactic| walk_at "free") => `(tactic| first
  | assumption
  | (refine sfree (by assumption) ?_; walk_at "free"))
local macro_rules | `(tactic| walk_at "hp") => `(tactic| first
  | assumption
  | exact upd_same
  | (refine sat (by assumption) ?_; walk_at "hp")
  | (refine' esat ?ess ?esk ?esn; (case ess => assumption); (case esk => walk_at "hp"); (case esn => (intro _ zz; cases zz)))
  | (refine' kpne ?ess ?esn ?esk; (case ess => assumption); (case esn => (first | assumption | exact Ne.symm (by assumption))); (case esk => walk_at "hp"))
  | (refine' kpsat ?ess ?esl ?esk ?esn; (case ess => assumption); (case esl => walk_at "hp"); (case esk => walk_at "hp"); (case esn => (intro _ zz; cases zz)))
  | (refine upd_old ?_ ?_; (first | assumption | exact free_upd (by assumption)); walk_at "hp")
  | (refine upd_oth ?_ ?_; (first | assumption | exact Ne.symm (by assumption)); walk_at "hp"))
local macro_rules | `(tactic| walk_at "side") => `(tactic| first
  | assumption
  | decide
  | omega
  | exact ⟨by omega, by omega, by omega⟩
  | exact Or.inl ⟨by omega, by omega⟩
  | exact Or.inr ⟨by omega, by omega⟩
  | (show (_ : Int) ≠ 0; omega)
  | (refine' Sz.mulW ?ma ?mb ?mc; (case ma => walk_at "szx1"); (case mb => walk_at "szx1"); (case mc => exact Nat.le_of_ble_eq_true rfl))
  | (refine' Sz.divN ?ma ?mb ?mc; (case ma => walk_at "szx1"); (case mb => walk_at "nz"); (case mc => exact Nat.le_of_ble_eq_true rfl))
  | exact wide_div (b := 64) (by omega) (by omega) (by decide) (by decide)
  | exact wide_div (b := 4000) (by assumption) (by assumption) (by decide) (by decide))
local macro_rules | `(tactic| walk_at "y") => `(tactic| first
  | ((with_reducible refine y_var ?_); refine ⟨_, rfl, ?_⟩)
  | with_reducible refine y_c ?_
  | with_reducible refine y_op ?_
  | with_reducible refine y_cb ?_
  | with_reducible refine y_cons ?_
  | with_reducible refine y_nil ?_
  | with_reducible refine y_seq ?_
  | with_reducible refine y_asg ?_
  | with_reducible refine x_gn ?_
  | ((with_reducible refine' y_nx ?k1 ?k2); (case k1 => (simp only [L2.start, List.length_cons, List.length_nil, List.map_cons, List.map_nil, List.set_cons_succ, List.set_cons_zero, List.cons_append, List.nil_append, List.replicate]; rfl)))
  | with_reducible refine y_gsub ?_
  | with_reducible refine y_ret ?_
  | with_reducible refine y_drop ?_
  | with_reducible refine y_next ?_
  | with_reducible refine y_ifS ?_
  | with_reducible refine y_test ?_
  | with_reducible refine y_B ?_
  | with_reducible refine y_ex ?_
  | with_reducible refine y_not ?_
  | with_reducible refine y_and ?_
  | with_reducible refine y_or ?_
  | with_reducible refine y_notV ?_
  | with_reducible refine y_andV ?_
  | with_reducible refine y_orV ?_
  | with_reducible refine y_ifE ?_
  | with_reducible refine y_un ?_
  | with_reducible refine x_par ?_
  | with_reducible refine y_ex2 ?_
  | with_reducible refine y_call ?_
  | with_reducible refine y_callS ?_
  | with_reducible refine y_I0 ?_
  | ((with_reducible refine y_I ?_ ?_); (walk_at "side"))
  | with_reducible refine y_U ?_
  | ((with_reducible refine y_eq ?_ ?_); (exact rfl))
  | ((with_reducible refine y_ne ?_ ?_); (exact rfl))
  | ((with_reducible refine' y_ixL ?k1 ?k2 ?k3); (case k1 => walk_at "hp"); (case k2 => (first | assumption | exact rfl)))
  | ((with_reducible refine' y_ixT ?k1 ?k2 ?k3); (case k1 => walk_at "hp"); (case k2 => (first | assumption | exact rfl)))
  | ((with_reducible refine' y_setL ?k1 ?k2 ?k3); (case k1 => walk_at "hp"); (case k2 => (first | assumption | exact rfl)))
  | with_reducible refine y_int ?_
  | with_reducible refine y_intB ?_
  | with_reducible refine y_abs ?_
  | ((with_reducible refine' y_lenL ?k1 ?k3); (case k1 => walk_at "hp"))
  | ((with_reducible refine' y_lenT ?k1 ?k3); (case k1 => walk_at "hp"))
  | ((with_reducible refine y_lenS ?_ ?_); (walk_at "side"))
  | with_reducible refine y_isN ?_
  | with_reducible refine y_notN ?_
  | ((with_reducible refine y_addS ?_ ?_); (walk_at "side"))
  | with_reducible refine y_inC ?_
  | with_reducible refine y_notInC ?_
  | with_reducible refine y_sl ?_
  | with_reducible refine y_part ?_
  | with_reducible refine y_nopart ?_
  | with_reducible refine y_exI ?_
  | ((with_reducible refine y_slS ?_ ?_); (walk_at "side"))
  | with_reducible refine z_lst ?_
  | with_reducible refine z_tup ?_
  | ((with_reducible refine z_newL ?_ ?_); (exact Nat.le_of_ble_eq_true rfl); (intro pp HH npp spp opp))
  | ((with_reducible refine z_newT ?_ ?_); (exact Nat.le_of_ble_eq_true rfl); (intro pp HH npp spp opp))
  | ((with_reducible refine' y_chI ?k1 ?k2); (case k1 => exact rfl))
  | with_reducible refine y_chain ?_
  | with_reducible refine y_yes ?_
  | with_reducible refine y_att ?_
  | ((with_reducible refine y_disp ?_ ?_); (exact Nat.le_of_ble_eq_true rfl); (intro pp hpp))
  | ((with_reducible refine' y_gtup ?k1 ?k2 ?k3); (case k1 => walk_at "hp"); (case k2 => exact rfl))
  | with_reducible refine y_gcons ?_
  | with_reducible refine y_gnil ?_
  | with_reducible refine y_mkO ?_
  | with_reducible refine y_callKw ?_
  | with_reducible refine y_mkA ?_
  | with_reducible refine y_sm ?_
  | with_reducible refine y_smK ?_
  | with_reducible refine y_cut0 ?_
  | with_reducible refine y_methK ?_
  | ((with_reducible refine' y_lm ?k1 ?k2); (case k1 => walk_at "tabs"); (intro HH ee tt))
  | ((with_reducible refine' z_rep ?k1 ?k2 ?k3 ?k4 ?k5); (case k1 => walk_at "hp"); (case k2 => decide); (case k3 => decide); (case k4 => exact Nat.le_of_ble_eq_true rfl); (intro pp HH npp spp opp))
  | ((with_reducible refine z_rev (by decide) (by walk_at "hp") ?_); (intro pp HH npp spp opp))
  | with_reducible refine y_rfl ?_
  | with_reducible refine y_mkA1 ?_
  | ((with_reducible refine' y_aqT ?k0 ?k1 ?k2); (case k0 => assumption); (case k1 => walk_at "aq"))
  | ((with_reducible refine' y_aqB ?k0 ?k1 ?k2); (case k0 => assumption); (case k1 => walk_at "aq"))
  | ((with_reducible refine' y_bin ?k1 ?k2 ?k3 ?k4 ?k5); (case k1 => walk_at "aq"); (case k2 => walk_at "nq"); (case k3 => walk_at "sz"); (case k4 => walk_at "sz"); (intro pp HH npp spp opp))
  | ((with_reducible refine' y_rbin ?k1 ?k3 ?k4 ?k5); (case k1 => walk_at "aq"); (case k3 => walk_at "sz"); (case k4 => walk_at "sz"); (intro pp HH npp spp opp))
  | ((with_reducible refine' y_binM ?k1 ?k2 ?k3 ?k4 ?k5); (case k1 => walk_at "aq"); (case k2 => walk_at "nq"); (case k3 => walk_at "sz"); (case k4 => walk_at "sz"); (intro pp HH npp spp opp))
  | ((with_reducible refine' y_rbinM ?k1 ?k3 ?k4 ?k5); (case k1 => walk_at "aq"); (case k3 => walk_at "sz"); (case k4 => walk_at "sz"); (intro pp HH npp spp opp))
  | ((with_reducible refine' y_binD ?k1 ?k2 ?k3 ?k4 ?k5 ?k6); (case k1 => walk_at "aq"); (case k2 => walk_at "nq"); (case k3 => walk_at "sz"); (case k4 => walk_at "sz"); (case k5 => walk_at "nz"); (intro pp HH npp spp opp))
  | ((with_reducible refine' y_rbinD ?k1 ?k3 ?k4 ?k5 ?k6); (case k1 => walk_at "aq"); (case k3 => walk_at "sz"); (case k4 => walk_at "sz"); (case k5 => walk_at "nz"); (intro pp HH npp spp opp))
  | ((with_reducible refine' y_binF ?k1 ?k2 ?k3 ?k4 ?k5 ?k6); (case k1 => walk_at "aq"); (case k2 => walk_at "nq"); (case k3 => walk_at "sz"); (case k4 => walk_at "sz"); (case k5 => walk_at "nz"); (intro HH spp))
  | ((with_reducible refine' y_rbinF ?k1 ?k3 ?k4 ?k5 ?k6); (case k1 => walk_at "aq"); (case k3 => walk_at "sz"); (case k4 => walk_at "sz"); (case k5 => walk_at "nz"); (intro HH spp))
  | ((with_reducible refine' y_cmp ?kK ?k0 ?k1 ?k2 ?k3 ?k4 ?k5); (case kK => exact rfl); (case k0 => assumption); (case k1 => walk_at "aq"); (case k2 => walk_at "nq"); (case k3 => walk_at "sz"); (case k4 => walk_at "sz"); (intro HH spp))
  | ((with_reducible refine' y_rcmp ?k1 ?k3 ?k4 ?k5); (case k1 => walk_at "aq"); (case k3 => walk_at "sz"); (case k4 => walk_at "sz"); (intro HH spp))
  | ((with_reducible refine' y_ceq ?kK ?k0 ?k1 ?k2 ?k5); (case kK => exact rfl); (case k0 => assumption); (case k1 => walk_at "aq"); (case k2 => walk_at "nq"); (intro HH spp))
  | ((with_reducible refine' y_req ?k1 ?k5); (case k1 => walk_at "aq"); (intro HH spp))
  | ((with_reducible refine' y_cne ?kK ?k0 ?k1 ?k2 ?k5); (case kK => exact rfl); (case k0 => assumption); (case k1 => walk_at "aq"); (case k2 => walk_at "nq"); (intro HH spp))
  | ((with_reducible refine' y_un1 ?k1 ?k3 ?k5); (case k1 => walk_at "aq"); (case k3 => walk_at "sz"); (intro pp HH npp spp opp))
  | ((with_reducible refine' y_absO ?k1 ?k3 ?k5); (case k1 => walk_at "aq"); (case k3 => walk_at "sz"); (intro pp HH npp spp opp))
  | ((with_reducible refine' y_truA ?k1 ?k5); (case k1 => walk_at "aq"))
  | ((with_reducible refine' y_boolA ?k1 ?k5); (case k1 => walk_at "aq"))
  | with_reducible refine y_meth ?_
  | ((with_reducible refine' y_methX ?k1 ?k2); (case k1 => walk_at "aq"))
  | ((with_reducible refine' y_over ?k1 ?k2 ?k3 ?k4 ?k5 ?k6); (case k1 => walk_at "aq"); (case k2 => walk_at "nq"); (case k3 => walk_at "sz"); (case k4 => walk_at "sz"); (case k5 => walk_at "nz"); (intro pp HH npp spp opp))
  | ((with_reducible refine x_aug ?_); refine ⟨_, rfl, ?_⟩)
  | ((with_reducible refine' y_nwI ?k1 ?k2 ?k3 ?k4); (case k1 => walk_at "nz"); (case k2 => walk_at "szi"); (case k3 => walk_at "szi"); (intro pp HH npp spp opp))
  | ((with_reducible refine' y_nwI1 ?k2 ?k4); (case k2 => walk_at "szi"); (intro pp HH npp spp opp))
  | with_reducible refine y_fld ?_
  | with_reducible refine y_for ?_
  | with_reducible refine y_iRng1 ?_
  | with_reducible refine y_iRng2 ?_
  | ((with_reducible refine y_rgF1 ?_ ?_); (first | decide | omega))
  | ((with_reducible refine y_rgL1 ?_ ?_); (first | decide | omega))
  | ((with_reducible refine y_rgF2 ?_ ?_); (first | decide | omega))
  | ((with_reducible refine y_rgL2 ?_ ?_); (first | decide | omega))
  | with_reducible refine y_lc ?_
  | with_reducible refine y_rev ?_
  | ((with_reducible refine' y_glst ?k1 ?k2 ?k3); (case k1 => walk_at "hp"); (case k2 => exact rfl))
  | with_reducible refine y_iList ?_
  | with_reducible refine y_iTup ?_
  | with_reducible refine y_iEnum ?_
  | ((with_reducible refine' y_itL ?k1 ?k2); (case k1 => walk_at "hp"))
  | ((with_reducible refine' y_itT ?k1 ?k2); (case k1 => walk_at "hp"))
  | ((with_reducible refine' y_itE ?k1 ?k2); (case k1 => walk_at "hp"))
  | with_reducible refine y_m0 ?_
  | ((with_reducible refine' z_slT ?k1 ?k2 ?k3); (case k1 => walk_at "hp"); (case k2 => decide); (intro pp HH npp spp opp))
  | with_reducible refine y_pp ?_
  | with_reducible refine y_pp0 ?_
  | with_reducible refine y_xv ?_
  | with_reducible refine y_xv0 ?_
  | with_reducible refine y_bm ?_
  | ((with_reducible refine' y_tyL ?k1 ?k2); (case k1 => walk_at "hp"))
  | ((with_reducible refine' z_app ?k1 ?k2 ?k3); (case k1 => walk_at "hp"); (case k2 => (first | exact Nat.le_of_ble_eq_true rfl | walk_at "side")); (intro HH kpp opp))
  | ((with_reducible refine' z_cat ?k1 ?k2 ?k3 ?k4); (case k1 => walk_at "hp"); (case k2 => walk_at "hp"); (case k3 => (first | exact Nat.le_of_ble_eq_true rfl | walk_at "side")); (intro pp HH npp spp opp))
  | ((with_reducible refine' z_slL ?k1 ?k2); (case k1 => walk_at "hp"); (intro pp HH npp spp opp))
  | ((with_reducible refine' y_in ?k1 ?k2 ?k3 ?k4); (case k1 => walk_at "hp"); (case k2 => exact rfl); (case k3 => exact rfl))
  | with_reducible refine y_iteT ?_
  | with_reducible refine y_iteF ?_
  | with_reducible refine y_iteNT ?_
  | with_reducible refine y_iteNF ?_
  | ((with_reducible refine y_iteY ?_ ?_); (first | exact rfl | assumption | omega))
  | ((with_reducible refine y_iteX ?_ ?_); (first | focus (intro zz; cases zz; done) | assumption | omega))
  | ((with_reducible refine y_iteNY ?_ ?_); (first | exact rfl | assumption | omega))
  | ((with_reducible refine y_iteNX ?_ ?_); (first | focus (intro zz; cases zz; done) | assumption | omega))
  | ((with_reducible refine y_ite ?_ ?_) <;> intro hh)
  | ((with_reducible refine y_iteN ?_ ?_) <;> intro hh)
  | dsimp only)
local macro_rules | `(tactic| walk_at "kpc") => `(tactic| first
  | assumption
  | exact Kp.refl _ _
  | (refine Kp.trans ?_ (by assumption); walk_at "kpc")
  | (refine Kp.trans ?_ (Kp.of (by assumption)); walk_at "kpc")
  | fail)
local macro_rules | `(tactic| walk_at "ik") => `(tactic| first
  | assumption
  | exact InsK.refl
  | (refine' InsK.trans ?ika ?ikb; (case ikb => exact InsK.same (by assumption)); (case ika => walk_at "ik"))
  | (refine' InsK.trans ?ika ?ikb; (case ikb => exact InsK.ext (by assumption)); (case ika => walk_at "ik"))
  | (refine' InsK.trans ?ika ?ikb; (case ikb => (refine' InsK.pen ?ikp ?ikk; (case ikk => assumption); (case ikp => walk_at "pen"))); (case ika => walk_at "ik"))
  | (refine' InsK.trans ?ika ?ikb; (case ikb => (refine' InsK.kpl ?ikl ?ikk; (case ikk => assumption); (case ikl => walk_at "hp"))); (case ika => walk_at "ik"))
  | fail)
local macro_rules | `(tactic| walk_at "tl") => `(tactic| first
  | assumption
  | (refine' TlAt.ik ?tlk ?tla; (case tla => assumption); (case tlk => walk_at "ik"))
  | fail)
local macro_rules | `(tactic| walk_at "drw") => `(tactic| first
  | ((with_reducible refine' y_drawC ?k1 ?k2 ?k3 ?k4 ?k5); (case k1 => walk_at "pen"); (case k2 => omega); (case k3 => (first | decide | omega)); (case k4 => (first | exact nat4000 (by decide) | exact nat4000 (Nat.le_trans (by omega) (show 1000000 ≤ 10 ^ 60 by decide)))); (intro rr HH rr0 rr1 PP kk))
  | fail)
local macro_rules | `(tactic| walk_at "np") => `(tactic| first
  | assumption
  | (refine' PenAt.p_ne ?npP ?nph; (case nph => assumption); (case npP => walk_at "pen"))
  | fail)
local macro_rules | `(tactic| walk_at "y") => `(tactic| first
  | with_reducible refine y_make ?_
  | with_reducible refine y_makeKG ?_
  | with_reducible refine y_smD ?_
  | with_reducible refine y_dget ?_
  | with_reducible refine y_dput ?_
  | ((with_reducible refine' z_dgetR ?k1 ?k2 ?k3); (case k1 => walk_at "hp"); (case k2 => exact rfl))
  | ((with_reducible refine z_disp ?_); (intro pp HH npp spp opp))
  | ((with_reducible refine z_dnew ?_); (intro pp HH npp spp opp))
  | fail)
local macro_rules | `(tactic| walk_at "hp") => `(tactic| first
  | (refine' kpne ?ess ?esn ?esk; (case ess => assumption); (case esn => walk_at "np"); (case esk => walk_at "hp"))
  | fail)
local macro_rules | `(tactic| walk_at "hp") => `(tactic| first
  | (refine' kpdat ?ess ?esl ?esk ?esn; (case ess => assumption); (case esl => walk_at "hp"); (case esk => walk_at "hp"); (case esn => (intro _ zz; cases zz)))
  | fail)
local macro_rules | `(tactic| walk_at "pen") => `(tactic| first
  | (refine' PenAt.kpd ?pek ?ped ?pes; (case pes => assumption); (case ped => walk_at "hp"); (case pek => walk_at "pen"))
  | fail)
local macro_rules | `(tactic| walk_at "ik") => `(tactic| first
  | (refine' InsK.trans ?ika ?ikb; (case ikb => (refine' InsK.kpd ?ikl ?ikk; (case ikk => assumption); (case ikl => walk_at "hp"))); (case ika => walk_at "ik"))
  | fail)
local macro_rules | `(tactic| walk_at "tabs") => `(tactic| first
  | (refine' OZ.Tabs.kpd ?tbs ?tbl ?tbk; (case tbs => assumption); (case tbl => walk_at "hp"); (case tbk => walk_at "tabs"))
  | fail)
local macro_rules | `(tactic| walk_at "y") => `(tactic| first
  | with_reducible refine y_js ?_
  | with_reducible refine y_js0 ?_
  | with_reducible refine y_fmt ?_
  | with_reducible refine y_fmtP ?_
  | with_reducible refine y_methP ?_
  | with_reducible refine y_methKP ?_
  | fail)
section
variable {P : Program} {w : World} {K : PySem.W.Frag} {mg : Str → Option Value} {base : Heap}
def spFigs : Sp := fun vs H Q _ => ∃ n : Nat, vs = [.int n] ∧ (dec n).length ≤ 100000 ∧ Q (.str (natS n)) H
def spItx : Sp := fun vs H Q _ => ∃ i : Int, vs = [.int i] ∧ (dec i.natAbs).length ≤ 100000 ∧ Q (.str (intS i)) H
abbrev s_figs : Stmt := topS 18
theorem sc_figs : FnScope ["number", "found", "left", "some"] ["number"] (defScope s_figs) := ⟨rfl, rfl, rfl, by decide +kernel, rfl, by decide +kernel, by decide +kernel⟩
abbrev s_itx : Stmt := topS 19
theorem sc_itx : FnScope ["number"] ["number"] (defScope s_itx) := ⟨rfl, rfl, rfl, by decide +kernel, rfl, by decide +kernel, by decide +kernel⟩
theorem sizeL : sizeLine = 16777216 := sizeLine_eq
theorem small60 {r : Nat} (h : r < 10 ^ 60) : ((r : Nat) : Int).natAbs.log2 < 1920 := by
  by_cases z : r = 0
  · rw [z]; decide
  · exact (Nat.log2_lt (by omega)).mpr (Nat.lt_of_lt_of_le (show ((r : Nat) : Int).natAbs < 10 ^ 60 by omega) (by decide))
theorem ok_figs {f : Addr} {fd : FuncData} (F : FnP K "figures_of" s_figs f fd) (T : TopA K mg) : FnOk P w K mg base (L2.CX P w) 1 f fd ["number"] spFigs := by
  have nd := sc_figs.nd
  refine F.ok sc_figs (fun vs H Q E h => ?_) (fun cdv A outer s H vs Q E hr h => ?_)
  · obtain ⟨n, rfl, _⟩ := h
    rfl
  · obtain ⟨n, rfl, hl, q⟩ := h
    refine ⟨_, PSs.nox (pss_cons (ps_par (i := 1) (j := 2) (by rfl) nd rfl rfl (by decide) rfl rfl (pa_cons pe_str (pa_cons (pv 0) pa_nil)) (by rfl))
      (pss_cons (ps_while PassesOwn.never (pt_cmpR op_ge (pv 2) (pe_op op_pow pe_int pe_int) (nomark _))
        (pss_cons (ps_set (i := 3) nd rfl (Or.inl rfl) (pe_callTy call_str_int (by rfl) T.n_str (by decide +kernel) (pa_cons (pe_op op_modN (pv 2) (pe_op op_pow pe_int pe_int)) pa_nil)))
        (pss_cons (ps_set (i := 1) nd rfl (Or.inl rfl) (pe_op o_addS (pe_op o_addS (pe_op op_repS pe_str (pe_op op_sub pe_int (pe_callB c_lenS (by rfl) T.n_len (by decide +kernel) (pa_cons (pv 3) pa_nil)))) (pv 3)) (pv 1)))
        (pss_one (ps_set (i := 2) nd rfl (Or.inl rfl) (pe_op op_fdivW (pv 2) (pe_op op_pow pe_int pe_int)))))))
      (pss_one (ps_ret (pe_op o_addS (pe_callTy call_str_int (by rfl) T.n_str (by decide +kernel) (pa_cons (pv 2) pa_nil)) (pv 1)))))), ?_⟩
    have e60 : (10 : Int) ^ (60 : Int).toNat = ((10 ^ 60 : Nat) : Int) := by decide
    repeat walk_at "y"
    refine while_by (fun σ' H' => ∃ (l : List Nat) (m : Nat) (o : Option V), σ' = [some (.int n), some (.str (lS l)), some (.int m), o] ∧ dec n = dec m ++ l ∧ H' = H) (fun σ' _ => match σ' with | [_, _, some (.int y), _] => y.toNat | _ => 0) ⟨[], n, _, rfl, by simp, rfl⟩ ?_ ?_
    · rintro σ' H' ⟨l, m, o, rfl, hd, rfl⟩
      have ll : (dec m).length + l.length ≤ 100000 := by rw [hd, List.length_append] at hl; exact hl
      repeat walk_at "y"
      all_goals rename_i hh
      all_goals rw [e60] at hh
      · have hm : 10 ^ 60 ≤ m := by omega
        have hr : m % 10 ^ 60 < 10 ^ 60 := Nat.mod_lt _ (by decide)
        have hq : 0 < m / 10 ^ 60 := Nat.div_pos hm (by decide)
        have d60 : (dec (m % 10 ^ 60)).length ≤ 60 := dec_len (by decide) hr
        have em : ((m : Nat) : Int).fmod ((10 : Int) ^ (60 : Int).toNat) = ((m % 10 ^ 60 : Nat) : Int) := by
          rw [e60, Int.fmod_eq_emod_of_nonneg _ (by omega)]; rfl
        have ed : ((m : Nat) : Int) / ((10 : Int) ^ (60 : Int).toNat) = ((m / 10 ^ 60 : Nat) : Int) := by rw [e60]; rfl
        have key : dec m = dec (m / 10 ^ 60) ++ (List.replicate (60 - (dec (m % 10 ^ 60)).length) 48 ++ dec (m % 10 ^ 60)) := by
          rw [← pd_pad 60 _ (by decide) hr, ← dec_app 60 _ _ hq hr, Nat.div_add_mod']
        refine ⟨_, rfl, by rw [em]; exact small60 hr, ?_⟩
        rw [em, str_nat]
        have sl := sizeL
        have l60 : (natS (m % 10 ^ 60)).length = (dec (m % 10 ^ 60)).length := lS_len _
        have lr : (lS (List.replicate (60 - (dec (m % 10 ^ 60)).length) 48)).length = 60 - (dec (m % 10 ^ 60)).length := by rw [lS_len, List.length_replicate]
        have ll2 : (lS l).length = l.length := lS_len _
        have lm : (dec m).length = (dec (m / 10 ^ 60)).length + ((60 - (dec (m % 10 ^ 60)).length) + (dec (m % 10 ^ 60)).length) := by rw [key]; simp
        repeat walk_at "y"
        refine ⟨_, _, rfl, rfl, by omega, by omega, ?_, ?_⟩
        · show 1 * _ ≤ _
          omega
        have er : repS (Str.ofString "0") ((60 : Int) - ((natS (m % 10 ^ 60)).length : Int)).toNat = lS (List.replicate (60 - (dec (m % 10 ^ 60)).length) 48) := by
          rw [l60]
          unfold repS
          have e1 : (Str.ofString "0").cps.toList = [48] := by decide +kernel
          rw [e1, show ((60 : Int) - ((dec (m % 10 ^ 60)).length : Int)).toNat = 60 - (dec (m % 10 ^ 60)).length by omega]
          congr 1
          simp
        rw [er]
        have ea : lS (List.replicate (60 - (dec (m % 10 ^ 60)).length) 48) ++ natS (m % 10 ^ 60) = lS (List.replicate (60 - (dec (m % 10 ^ 60)).length) 48 ++ dec (m % 10 ^ 60)) := lS_app _ _
        have lb : (lS (List.replicate (60 - (dec (m % 10 ^ 60)).length) 48 ++ dec (m % 10 ^ 60))).length = (60 - (dec (m % 10 ^ 60)).length) + (dec (m % 10 ^ 60)).length := by rw [lS_len]; simp
        have cd : CDivW ((m : Nat) : Int) ((10 : Int) ^ (60 : Int).toNat) := by rw [e60]; exact wide_div (b := 200) (by decide) (by decide) (by decide) (by decide)
        repeat walk_at "y"
        rw [ea]
        repeat walk_at "y"
        rw [lS_app]
        refine ⟨⟨_, m / 10 ^ 60, _, by rw [ed], ?_, rfl⟩, ?_⟩
        · rw [hd, key, List.append_assoc]
        · show (((m : Nat) : Int) / ((10 : Int) ^ (60 : Int).toNat)).toNat < ((m : Nat) : Int).toNat
          rw [ed]
          have := Nat.div_lt_self (show 0 < m by omega) (show 1 < 10 ^ 60 by decide)
          omega
      · have hm : m < 10 ^ 60 := by omega
        have sl := sizeL
        have l1 : (natS m).length = (dec m).length := lS_len _
        have l2 : (lS l).length = l.length := lS_len _
        repeat walk_at "y"
        refine ⟨_, rfl, small60 hm, ?_⟩
        rw [str_nat]
        repeat walk_at "y"
        rw [show natS m = lS (dec m) from rfl, lS_app, ← hd]
        exact q
    · intro σ' H' Q1 Q2 hq h
      obtain ⟨v, e, i, j, e1, e2, hc, i', j', e3, e4, k, ek, q1⟩ := h
      exact ⟨v, e, i, j, e1, e2, hc, i', j', e3, e4, k, ek, hq _ _ q1⟩
theorem ok_itx {f : Addr} {fd : FuncData} (F : FnP K "integer_text" s_itx f fd) (T : TopA K mg) (Ffigures_of : Fnc P w K mg base 1 "figures_of" ["number"] spFigs) : FnOk P w K mg base (L2.CX P w) 2 f fd ["number"] spItx := by
  have nd := sc_itx.nd
  refine F.ok sc_itx (fun vs H Q E h => ?_) (fun cdv A outer s H vs Q E hr h => ?_)
  · obtain ⟨n, rfl, _⟩ := h
    rfl
  · obtain ⟨i, rfl, hl, q⟩ := h
    refine ⟨_, PSs.nox (pss_one (ps_ret (pe_ifExp (pt_cmpR op_lt (pv 0) pe_int (nomark _)) (pe_op o_addS pe_str (oc Ffigures_of (hr.mono (by decide)) (pa_cons (pe_un un_neg (pv 0)) pa_nil))) (oc Ffigures_of (hr.mono (by decide)) (pa_cons (pv 0) pa_nil))))), ?_⟩
    have sl := sizeL
    repeat walk_at "y"
    · have hi : i < 0 := by assumption
      refine ⟨i.natAbs, by rw [show -i = ((i.natAbs : Nat) : Int) by omega]; rfl, hl, ?_⟩
      have l1 : (natS i.natAbs).length = (dec i.natAbs).length := lS_len _
      have l2 : (Str.ofString "-").length = 1 := by decide +kernel
      repeat walk_at "y"
      have e : Str.ofString "-" ++ natS i.natAbs = intS i := by
        have e1 : Str.ofString "-" = lS [45] := by decide +kernel
        rw [e1]
        unfold natS intS
        rw [lS_app, if_pos hi]
        rfl
      rw [e]
      exact q
    · have hi : ¬ i < 0 := by assumption
      repeat walk_at "y"
      refine ⟨i.natAbs, by rw [show i = ((i.natAbs : Nat) : Int) by omega]; rfl, hl, ?_⟩
      have e : natS i.natAbs = intS i := by unfold natS intS; rw [if_neg hi]
      rw [e]
      exact q
abbrev s_astr : Stmt := inClass (topS 24) 25
theorem sc_astr : FnScope ["self"] ["self"] (defScope s_astr) := ⟨rfl, rfl, rfl, by decide +kernel, rfl, by decide +kernel, by decide +kernel⟩
def spStrA (K : PySem.W.Frag) : Sp := fun vs H Q _ => ∃ (a : Addr) (q : Rat), vs = [.ref a] ∧ AmQ (CA K) H a q ∧ SzQ 100000 q ∧ Q (.str (qS q)) H
theorem dec_sz {n : Nat} {i : Int} (h1 : 1 ≤ n) (h : Sz n i) : (dec i.natAbs).length ≤ n := dec_len h1 (Nat.lt_of_lt_of_le h (Nat.pow_le_pow_left (by decide) n))
theorem ok_astr {f : Addr} {fd : FuncData} (F : FunD K "__str__" "Amount.__str__" (defArgs s_astr) (defBody s_astr) (defScope s_astr) [] [] f fd) (T : TopA K mg) (AF : AmF K (CA K)) (Finteger_text : Fnc P w K mg base 2 "integer_text" ["number"] spItx) : FnOk P w K mg base (L2.CX P w) 3 f fd ["self"] (spStrA K) := by
  have nd := sc_astr.nd
  have A := AmF.c AF
  refine F.ok sc_astr (fun vs H Q E h => ?_) (fun cdv A' outer s H vs Q E hr h => ?_)
  · obtain ⟨a, q, rfl, _⟩ := h
    rfl
  · obtain ⟨a, q, rfl, ha, sq, k⟩ := h
    refine ⟨_, PSs.nox (pss_cons (ps_if (pt_cmpR op_eq (pe_att (pv 0)) pe_int (nomark _))
        (pss_one (ps_ret (pe_callTy SkE.call_str_str (by rfl) T.n_str (by decide +kernel) (pa_cons (oc Finteger_text (hr.mono (by decide)) (pa_cons (pe_att (pv 0)) pa_nil)) pa_nil))))
        pss_nil)
      (pss_one (ps_ret (pe_joined (PJ.cons (pe_fmt (oc Finteger_text (hr.mono (by decide)) (pa_cons (pe_att (pv 0)) pa_nil))) (PJ.cons pe_str (PJ.cons (pe_fmt (oc Finteger_text (hr.mono (by decide)) (pa_cons (pe_att (pv 0)) pa_nil))) PJ.nil))))))), ?_⟩
    have l1 := dec_sz (by decide) sq.1
    have l2 := dec_sz (by decide) sq.2
    have i1 := intS_len q.num
    have i2 := intS_len (q.den : Int)
    have sl := sizeL
    repeat walk_at "y"
    · have hd : q.den = 1 := by rename_i h; injection h with h; omega
      refine ⟨_, rfl, l1, ?_⟩
      repeat walk_at "y"
      refine ⟨_, rfl, ?_⟩
      unfold qS at k
      rw [if_pos hd] at k
      exact k
    · have hd : ¬ q.den = 1 := by rename_i h; exact fun z => h (by rw [z]; rfl)
      have e0 : ∀ z : Str, Str.empty ++ z = z := fun z => by cases z with | mk c => show Str.mk (#[] ++ c) = Str.mk c; simp
      have al : ∀ x y : Str, (x ++ y).length = x.length + y.length := fun x y => by cases x; cases y; show (_ ++ _ : Array Nat).size = _; simp [Str.length]
      have sl1 : Str.ofString "/" = lS [47] := by decide +kernel
      have sl2 : (lS [47]).length = 1 := rfl
      repeat walk_at "y"
      refine ⟨_, rfl, l1, ?_⟩
      refine .inl ⟨_, rfl, by omega, ?_⟩
      refine ⟨_, rfl, by rw [e0]; omega, ?_⟩
      rw [e0, sl1]
      repeat walk_at "y"
      refine ⟨_, rfl, by rw [al]; omega, ?_⟩
      repeat walk_at "y"
      refine ⟨_, rfl, l2, ?_⟩
      refine .inl ⟨_, rfl, by omega, ?_⟩
      refine ⟨_, rfl, by rw [al, al]; omega, ?_⟩
      repeat walk_at "y"
      unfold qS at k
      rw [if_neg hd] at k
      exact k
end
end LW
set_option maxRecDepth 100000
namespace LW
open PySem PySem.Spec PyProof.Rows L2 OZ
local macro_rules | `(tactic| walk_at "szx1") => `(tactic| first
  | with_reducible assumption
  | exact sz_i64 (n := 64) (by decide)
  | (refine' Sz.add ?sx ?sy; (case sx => walk_at "szx1"); (case sy => walk_at "szx1"))
  | (refine' Sz.sub ?sx ?sy; (case sx => walk_at "szx1"); (case sy => walk_at "szx1"))
  | (refine' Sz.mul ?sx ?sy; (case sx => walk_at "szx1"); (case sy => walk_at "szx1"))
  | (refine' Sz.neg ?sx; (case sx => walk_at "szx1"))
  | (refine' Sz.iabs ?sx; (case sx => walk_at "szx1"))
  | (refine' sz_fdiv ?sx ?sy; (case sy => walk_at "nz"); (case sx => walk_at "szx1")))
local macro_rules | `(tactic| walk_at "szx") => `(tactic| (refine' Sz.mono ?szk ?szl; (case szk => walk_at "szx1"); (case szl => exact Nat.le_of_ble_eq_true rfl)))
local macro_rules | `(tactic| walk_at "aq") => `(tactic| first
  | assumption
  | (refine' AmQ.same ?aqs ?aqk; (case aqs => assumption); (case aqk => walk_at "aq"))
  | (refine' AmQ.extN ?aqs ?aqk; (case aqs => assumption); (case aqk => walk_at "aq"))
  | (refine' AmQ.kpl ?aqs ?aql ?aqk; (case aqs => assumption); (case aql => walk_at "hp"); (case aqk => walk_at "aq"))
  | (refine' AmQ.kp ?aql ?aqs ?aqk; (case aqs => assumption); (case aql => walk_at "pen"); (case aqk => walk_at "aq")))
local macro_rules | `(tactic| walk_at "nq") => `(tactic| first
  | assumption
  | exact NumQ.int
  | (refine' NumQ.am ?nqk; (case nqk => walk_at "aq"))
  | (refine' NumQ.same ?nqs ?nqk; (case nqs => assumption); (case nqk => walk_at "nq"))
  | (refine' NumQ.extN ?nqs ?nqk; (case nqs => assumption); (case nqk => walk_at "nq"))
  | (refine' NumQ.kpl ?nqs ?nql ?nqk; (case nqs => assumption); (case nql => walk_at "hp"); (case nqk => walk_at "nq")))
local macro_rules | `(tactic| walk_at "sz1") => `(tactic| first
  | with_reducible assumption
  | (refine' SzQ.add ?sx ?sy; (case sx => walk_at "sz1"); (case sy => walk_at "sz1"))
  | (refine' SzQ.sub ?sx ?sy; (case sx => walk_at "sz1"); (case sy => walk_at "sz1"))
  | (refine' SzQ.mul ?sx ?sy; (case sx => walk_at "sz1"); (case sy => walk_at "sz1"))
  | (refine' SzQ.div ?sx ?sy ?sz; (case sz => assumption); (case sx => walk_at "sz1"); (case sy => walk_at "sz1"))
  | (refine' SzQ.rmod ?sx ?sy ?sz; (case sz => assumption); (case sx => walk_at "sz1"); (case sy => walk_at "sz1"))
  | (refine' SzQ.neg ?sx; (case sx => walk_at "sz1"))
  | (refine' SzQ.qabs ?sx; (case sx => walk_at "sz1"))
  | (refine' SzQ.int ?sx ?sy; (case sx => with_reducible assumption); (case sy => exact Nat.le_of_ble_eq_true rfl))
  | exact sz_lit (by decide))
local macro_rules | `(tactic| walk_at "sz") => `(tactic| (refine' SzQ.mono ?szk ?szl; (case szk => walk_at "sz1"); (case szl => exact Nat.le_of_ble_eq_true rfl)))
local macro_rules | `(tactic| walk_at "nz") => `(tactic| first
  | assumption
  | decide
  | omega
  | exact intq0 (by decide))
local macro_rules | `(tactic| walk_at "szi") => `(tactic| first
  | assumption
  | exact Sz.mono (by with_reducible assumption) (Nat.le_of_ble_eq_true rfl)
  | exact sz_i64 (by decide))
local macro_rules | `(tactic| walk_at "ex") => `(tactic| first
  | assumption
  | (refine ExAt.same (by assumption) ?_; walk_at "ex"))
local macro_rules | `(tactic| walk_at "same") => `(tactic| first
  | assumption
  | exact same0
  | (refine Same.trans ?_ (by assumption); walk_at "same"))
local macro_rules | `(tactic| walk_at "tabs") => `(tactic| first
  | assumption
  | (refine' OZ.Tabs.same ?tbs ?tbk; (case tbs => assumption); (case tbk => walk_at "tabs"))
  | (refine' OZ.Tabs.kpl ?tbs ?tbl ?tbk; (case tbs => assumption); (case tbl => walk_at "hp"); (case tbk => walk_at "tabs"))
  | (refine' OZ.Tabs.kp ?tbl ?tbs ?tbk; (case tbs => assumption); (case tbl => walk_at "pen"); (case tbk => walk_at "tabs")))
local macro_rules | `(tactic| walk_at "ext") => `(tactic| first
  | assumption
  | exact LamX.ExtN.refl _
  | exact LamX.ExtN.of (by assumption)
  | (refine LamX.ExtN.trans ?_ (by assumption); walk_at "ext")
  | (refine LamX.ExtN.trans ?_ (LamX.ExtN.of (by assumption)); walk_at "ext"))
local macro_rules | `(tactic| walk_at "pen") => `(tactic| first
  | assumption
  | (refine' PenAt.same ?pek ?pes; (case pes => assumption); (case pek => walk_at "pen"))
  | (refine' PenAt.extN ?pek ?pes; (case pes => assumption); (case pek => walk_at "pen")))
local macro_rules | `(tactic| walk_at "kn") => `(tactic| first
  | assumption
  | exact KN.refl
  | (refine KN.trans ?_ (KN.same (by assumption)); walk_at "kn")
  | (refine KN.trans ?_ (KN.kp (by assumption)); walk_at "kn")
  | (refine KN.trans ?_ (KN.ext (by assumption)); walk_at "kn")
  | (refine KN.trans ?_ (by assumption); walk_at "kn"))
local macro_rules | `(tactic| walk_at "free") => `(tactic| first
  | assumption
  | (refine sfree (by assumption) ?_; walk_at "free"))
local macro_rules | `(tactic| walk_at "hp") => `(tactic| first
  | assumption
  | exact upd_same
  | (refine sat (by assumption) ?_; walk_at "hp")
  | (refine' esat ?ess ?esk ?esn; (case ess => assumption); (case esk => walk_at "hp"); (case esn => (intro _ zz; cases zz)))
  | (refine' kpne ?ess ?esn ?esk; (case ess => assumption); (case esn => (first | assumption | exact Ne.symm (by assumption))); (case esk => walk_at "hp"))
  | (refine' kpsat ?ess ?esl ?esk ?esn; (case ess => assumption); (case esl => walk_at "hp"); (case esk => walk_at "hp"); (case esn => (intro _ zz; cases zz)))
  | (refine upd_old ?_ ?_; (first | assumption | exact free_upd (by assumption)); walk_at "hp")
  | (refine upd_oth ?_ ?_; (first | assumption | exact Ne.symm (by assumption)); walk_at "hp"))
local macro_rules | `(tactic| walk_at "side") => `(tactic| first
  | assumption
  | decide
  | omega
  | exact ⟨by omega, by omega, by omega⟩
  | exact Or.inl ⟨by omega, by omega⟩
  | exact Or.inr ⟨by omega, by omega⟩
  | (show (_ : Int) ≠ 0; omega)
  | (refine' Sz.mulW ?ma ?mb ?mc; (case ma => walk_at "szx1"); (case mb => walk_at "szx1"); (case mc => exact Nat.le_of_ble_eq_true rfl))
  | (refine' Sz.divN ?ma ?mb ?mc; (case ma => walk_at "szx1"); (case mb => walk_at "nz"); (case mc => exact Nat.le_of_ble_eq_true rfl))
  | exact wide_div (b := 64) (by omega) (by omega) (by decide) (by decide)
  | exact wide_div (b := 4000) (by assumption) (by assumption) (by decide) (by decide))
local macro_rules | `(tactic| walk_at "y") => `(tactic| first
  | ((with_reducible refine y_var ?_); refine ⟨_, rfl, ?_⟩)
  | with_reducible refine y_c ?_
  | with_reducible refine y_op ?_
  | with_reducible refine y_cb ?_
  | with_reducible refine y_cons ?_
  | with_reducible refine y_nil ?_
  | with_reducible refine y_seq ?_
  | with_reducible refine y_asg ?_
  | with_reducible refine x_gn ?_
  | ((with_reducible refine' y_nx ?k1 ?k2); (case k1 => (simp only [L2.start, List.length_cons, List.length_nil, List.map_cons, List.map_nil, List.set_cons_succ, List.set_cons_zero, List.cons_append, List.nil_append, List.replicate]; rfl)))
  | with_reducible refine y_gsub ?_
  | with_reducible refine y_ret ?_
  | with_reducible refine y_drop ?_
  | with_reducible refine y_next ?_
  | with_reducible refine y_ifS ?_
  | with_reducible refine y_test ?_
  | with_reducible refine y_B ?_
  | with_reducible refine y_ex ?_
  | with_reducible refine y_not ?_
  | with_reducible refine y_and ?_
  | with_reducible refine y_or ?_
  | with_reducible refine y_notV ?_
  | with_reducible refine y_andV ?_
  | with_reducible refine y_orV ?_
  | with_reducible refine y_ifE ?_
  | with_reducible refine y_un ?_
  | with_reducible refine x_par ?_
  | with_reducible refine y_ex2 ?_
  | with_reducible refine y_call ?_
  | with_reducible refine y_callS ?_
  | with_reducible refine y_I0 ?_
  | ((with_reducible refine y_I ?_ ?_); (walk_at "side"))
  | with_reducible refine y_U ?_
  | ((with_reducible refine y_eq ?_ ?_); (exact rfl))
  | ((with_reducible refine y_ne ?_ ?_); (exact rfl))
  | ((with_reducible refine' y_ixL ?k1 ?k2 ?k3); (case k1 => walk_at "hp"); (case k2 => (first | assumption | exact rfl)))
  | ((with_reducible refine' y_ixT ?k1 ?k2 ?k3); (case k1 => walk_at "hp"); (case k2 => (first | assumption | exact rfl)))
  | ((with_reducible refine' y_setL ?k1 ?k2 ?k3); (case k1 => walk_at "hp"); (case k2 => (first | assumption | exact rfl)))
  | with_reducible refine y_int ?_
  | with_reducible refine y_intB ?_
  | with_reducible refine y_abs ?_
  | ((with_reducible refine' y_lenL ?k1 ?k3); (case k1 => walk_at "hp"))
  | ((with_reducible refine' y_lenT ?k1 ?k3); (case k1 => walk_at "hp"))
  | ((with_reducible refine y_lenS ?_ ?_); (walk_at "side"))
  | with_reducible refine y_isN ?_
  | with_reducible refine y_notN ?_
  | ((with_reducible refine y_addS ?_ ?_); (walk_at "side"))
  | with_reducible refine y_inC ?_
  | with_reducible refine y_notInC ?_
  | with_reducible refine y_sl ?_
  | with_reducible refine y_part ?_
  | with_reducible refine y_nopart ?_
  | with_reducible refine y_exI ?_
  | ((with_reducible refine y_slS ?_ ?_); (walk_at "side"))
  | with_reducible refine z_lst ?_
  | with_reducible refine z_tup ?_
  | ((with_reducible refine z_newL ?_ ?_); (exact Nat.le_of_ble_eq_true rfl); (intro pp HH npp spp opp))
  | ((with_reducible refine z_newT ?_ ?_); (exact Nat.le_of_ble_eq_true rfl); (intro pp HH npp spp opp))
  | ((with_reducible refine' y_chI ?k1 ?k2); (case k1 => exact rfl))
  | with_reducible refine y_chain ?_
  | with_reducible refine y_yes ?_
  | with_reducible refine y_att ?_
  | ((with_reducible refine y_disp ?_ ?_); (exact Nat.le_of_ble_eq_true rfl); (intro pp hpp))
  | ((with_reducible refine' y_gtup ?k1 ?k2 ?k3); (case k1 => walk_at "hp"); (case k2 => exact rfl))
  | with_reducible refine y_gcons ?_
  | with_reducible refine y_gnil ?_
  | with_reducible refine y_mkO ?_
  | with_reducible refine y_callKw ?_
  | with_reducible refine y_mkA ?_
  | with_reducible refine y_sm ?_
  | with_reducible refine y_smK ?_
  | with_reducible refine y_cut0 ?_
  | with_reducible refine y_methK ?_
  | ((with_reducible refine' y_lm ?k1 ?k2); (case k1 => walk_at "tabs"); (intro HH ee tt))
  | ((with_reducible refine' z_rep ?k1 ?k2 ?k3 ?k4 ?k5); (case k1 => walk_at "hp"); (case k2 => decide); (case k3 => decide); (case k4 => exact Nat.le_of_ble_eq_true rfl); (intro pp HH npp spp opp))
  | ((with_reducible refine z_rev (by decide) (by walk_at "hp") ?_); (intro pp HH npp spp opp))
  | with_reducible refine y_rfl ?_
  | with_reducible refine y_mkA1 ?_
  | ((with_reducible refine' y_aqT ?k0 ?k1 ?k2); (case k0 => assumption); (case k1 => walk_at "aq"))
  | ((with_reducible refine' y_aqB ?k0 ?k1 ?k2); (case k0 => assumption); (case k1 => walk_at "aq"))
  | ((with_reducible refine' y_bin ?k1 ?k2 ?k3 ?k4 ?k5); (case k1 => walk_at "aq"); (case k2 => walk_at "nq"); (case k3 => walk_at "sz"); (case k4 => walk_at "sz"); (intro pp HH npp spp opp))
  | ((with_reducible refine' y_rbin ?k1 ?k3 ?k4 ?k5); (case k1 => walk_at "aq"); (case k3 => walk_at "sz"); (case k4 => walk_at "sz"); (intro pp HH npp spp opp))
  | ((with_reducible refine' y_binM ?k1 ?k2 ?k3 ?k4 ?k5); (case k1 => walk_at "aq"); (case k2 => walk_at "nq"); (case k3 => walk_at "sz"); (case k4 => walk_at "sz"); (intro pp HH npp spp opp))
  | ((with_reducible refine' y_rbinM ?k1 ?k3 ?k4 ?k5); (case k1 => walk_at "aq"); (case k3 => walk_at "sz"); (case k4 => walk_at "sz"); (intro pp HH npp spp opp))
  | ((with_reducible refine' y_binD ?k1 ?k2 ?k3 ?k4 ?k5 ?k6); (case k1 => walk_at "aq"); (case k2 => walk_at "nq"); (case k3 => walk_at "sz"); (case k4 => walk_at "sz"); (case k5 => walk_at "nz"); (intro pp HH npp spp opp))
  | ((with_reducible refine' y_rbinD ?k1 ?k3 ?k4 ?k5 ?k6); (case k1 => walk_at "aq"); (case k3 => walk_at "sz"); (case k4 => walk_at "sz"); (case k5 => walk_at "nz"); (intro pp HH npp spp opp))
  | ((with_reducible refine' y_binF ?k1 ?k2 ?k3 ?k4 ?k5 ?k6); (case k1 => walk_at "aq"); (case k2 => walk_at "nq"); (case k3 => walk_at "sz"); (case k4 => walk_at "sz"); (case k5 => walk_at "nz"); (intro HH spp))
  | ((with_reducible refine' y_rbinF ?k1 ?k3 ?k4 ?k5 ?k6); (case k1 => walk_at "aq"); (case k3 => walk_at "sz"); (case k4 => walk_at "sz"); (case k5 => walk_at "nz"); (intro HH spp))
  | ((with_reducible refine' y_cmp ?kK ?k0 ?k1 ?k2 ?k3 ?k4 ?k5); (case kK => exact rfl); (case k0 => assumption); (case k1 => walk_at "aq"); (case k2 => walk_at "nq"); (case k3 => walk_at "sz"); (case k4 => walk_at "sz"); (intro HH spp))
  | ((with_reducible refine' y_rcmp ?k1 ?k3 ?k4 ?k5); (case k1 => walk_at "aq"); (case k3 => walk_at "sz"); (case k4 => walk_at "sz"); (intro HH spp))
  | ((with_reducible refine' y_ceq ?kK ?k0 ?k1 ?k2 ?k5); (case kK => exact rfl); (case k0 => assumption); (case k1 => walk_at "aq"); (case k2 => walk_at "nq"); (intro HH spp))
  | ((with_reducible refine' y_req ?k1 ?k5); (case k1 => walk_at "aq"); (intro HH spp))
  | ((with_reducible refine' y_cne ?kK ?k0 ?k1 ?k2 ?k5); (case kK => exact rfl); (case k0 => assumption); (case k1 => walk_at "aq"); (case k2 => walk_at "nq"); (intro HH spp))
  | ((with_reducible refine' y_un1 ?k1 ?k3 ?k5); (case k1 => walk_at "aq"); (case k3 => walk_at "sz"); (intro pp HH npp spp opp))
  | ((with_reducible refine' y_absO ?k1 ?k3 ?k5); (case k1 => walk_at "aq"); (case k3 => walk_at "sz"); (intro pp HH npp spp opp))
  | ((with_reducible refine' y_truA ?k1 ?k5); (case k1 => walk_at "aq"))
  | ((with_reducible refine' y_boolA ?k1 ?k5); (case k1 => walk_at "aq"))
  | with_reducible refine y_meth ?_
  | ((with_reducible refine' y_methX ?k1 ?k2); (case k1 => walk_at "aq"))
  | ((with_reducible refine' y_over ?k1 ?k2 ?k3 ?k4 ?k5 ?k6); (case k1 => walk_at "aq"); (case k2 => walk_at "nq"); (case k3 => walk_at "sz"); (case k4 => walk_at "sz"); (case k5 => walk_at "nz"); (intro pp HH npp spp opp))
  | ((with_reducible refine x_aug ?_); refine ⟨_, rfl, ?_⟩)
  | ((with_reducible refine' y_nwI ?k1 ?k2 ?k3 ?k4); (case k1 => walk_at "nz"); (case k2 => walk_at "szi"); (case k3 => walk_at "szi"); (intro pp HH npp spp opp))
  | ((with_reducible refine' y_nwI1 ?k2 ?k4); (case k2 => walk_at "szi"); (intro pp HH npp spp opp))
  | with_reducible refine y_fld ?_
  | with_reducible refine y_for ?_
  | with_reducible refine y_iRng1 ?_
  | with_reducible refine y_iRng2 ?_
  | ((with_reducible refine y_rgF1 ?_ ?_); (first | decide | omega))
  | ((with_reducible refine y_rgL1 ?_ ?_); (first | decide | omega))
  | ((with_reducible refine y_rgF2 ?_ ?_); (first | decide | omega))
  | ((with_reducible refine y_rgL2 ?_ ?_); (first | decide | omega))
  | with_reducible refine y_lc ?_
  | with_reducible refine y_rev ?_
  | ((with_reducible refine' y_glst ?k1 ?k2 ?k3); (case k1 => walk_at "hp"); (case k2 => exact rfl))
  | with_reducible refine y_iList ?_
  | with_reducible refine y_iTup ?_
  | with_reducible refine y_iEnum ?_
  | ((with_reducible refine' y_itL ?k1 ?k2); (case k1 => walk_at "hp"))
  | ((with_reducible refine' y_itT ?k1 ?k2); (case k1 => walk_at "hp"))
  | ((with_reducible refine' y_itE ?k1 ?k2); (case k1 => walk_at "hp"))
  | with_reducible refine y_m0 ?_
  | ((with_reducible refine' z_slT ?k1 ?k2 ?k3); (case k1 => walk_at "hp"); (case k2 => decide); (intro pp HH npp spp opp))
  | with_reducible refine y_pp ?_
  | with_reducible refine y_pp0 ?_
  | with_reducible refine y_xv ?_
  | with_reducible refine y_xv0 ?_
  | with_reducible refine y_bm ?_
  | ((with_reducible refine' y_tyL ?k1 ?k2); (case k1 => walk_at "hp"))
  | ((with_reducible refine' z_app ?k1 ?k2 ?k3); (case k1 => walk_at "hp"); (case k2 => (first | exact Nat.le_of_ble_eq_true rfl | walk_at "side")); (intro HH kpp opp))
  | ((with_reducible refine' z_cat ?k1 ?k2 ?k3 ?k4); (case k1 => walk_at "hp"); (case k2 => walk_at "hp"); (case k3 => (first | exact Nat.le_of_ble_eq_true rfl | walk_at "side")); (intro pp HH npp spp opp))
  | ((with_reducible refine' z_slL ?k1 ?k2); (case k1 => walk_at "hp"); (intro pp HH npp spp opp))
  | ((with_reducible refine' y_in ?k1 ?k2 ?k3 ?k4); (case k1 => walk_at "hp"); (case k2 => exact rfl); (case k3 => exact rfl))
  | with_reducible refine y_iteT ?_
  | with_reducible refine y_iteF ?_
  | with_reducible refine y_iteNT ?_
  | with_reducible refine y_iteNF ?_
  | ((with_reducible refine y_iteY ?_ ?_); (first | exact rfl | assumption | omega))
  | ((with_reducible refine y_iteX ?_ ?_); (first | focus (intro zz; cases zz; done) | assumption | omega))
  | ((with_reducible refine y_iteNY ?_ ?_); (first | exact rfl | assumption | omega))
  | ((with_reducible refine y_iteNX ?_ ?_); (first | focus (intro zz; cases zz; done) | assumption | omega))
  | ((with_reducible refine y_ite ?_ ?_) <;> intro hh)
  | ((with_reducible refine y_iteN ?_ ?_) <;> intro hh)
  | dsimp only)
local macro_rules | `(tactic| walk_at "kpc") => `(tactic| first
  | assumption
  | exact Kp.refl _ _
  | (refine Kp.trans ?_ (by assumption); walk_at "kpc")
  | (refine Kp.trans ?_ (Kp.of (by assumption)); walk_at "kpc")
  | fail)
local macro_rules | `(tactic| walk_at "ik") => `(tactic| first
  | assumption
  | exact InsK.refl
  | (refine' InsK.trans ?ika ?ikb; (case ikb => exact InsK.same (by assumption)); (case ika => walk_at "ik"))
  | (refine' InsK.trans ?ika ?ikb; (case ikb => exact InsK.ext (by assumption)); (case ika => walk_at "ik"))
  | (refine' InsK.trans ?ika ?ikb; (case ikb => (refine' InsK.pen ?ikp ?ikk; (case ikk => assumption); (case ikp => walk_at "pen"))); (case ika => walk_at "ik"))
  | (refine' InsK.trans ?ika ?ikb; (case ikb => (refine' InsK.kpl ?ikl ?ikk; (case ikk => assumption); (case ikl => walk_at "hp"))); (case ika => walk_at "ik"))
  | fail)
local macro_rules | `(tactic| walk_at "tl") => `(tactic| first
  | assumption
  | (refine' TlAt.ik ?tlk ?tla; (case tla => assumption); (case tlk => walk_at "ik"))
  | fail)
local macro_rules | `(tactic| walk_at "drw") => `(tactic| first
  | ((with_reducible refine' y_drawC ?k1 ?k2 ?k3 ?k4 ?k5); (case k1 => walk_at "pen"); (case k2 => omega); (case k3 => (first | decide | omega)); (case k4 => (first | exact nat4000 (by decide) | exact nat4000 (Nat.le_trans (by omega) (show 1000000 ≤ 10 ^ 60 by decide)))); (intro rr HH rr0 rr1 PP kk))
  | fail)
local macro_rules | `(tactic| walk_at "np") => `(tactic| first
  | assumption
  | (refine' PenAt.p_ne ?npP ?nph; (case nph => assumption); (case npP => walk_at "pen"))
  | fail)
local macro_rules | `(tactic| walk_at "y") => `(tactic| first
  | with_reducible refine y_make ?_
  | with_reducible refine y_makeKG ?_
  | with_reducible refine y_smD ?_
  | with_reducible refine y_dget ?_
  | with_reducible refine y_dput ?_
  | ((with_reducible refine' z_dgetR ?k1 ?k2 ?k3); (case k1 => walk_at "hp"); (case k2 => exact rfl))
  | ((with_reducible refine z_disp ?_); (intro pp HH npp spp opp))
  | ((with_reducible refine z_dnew ?_); (intro pp HH npp spp opp))
  | fail)
local macro_rules | `(tactic| walk_at "hp") => `(tactic| first
  | (refine' kpne ?ess ?esn ?esk; (case ess => assumption); (case esn => walk_at "np"); (case esk => walk_at "hp"))
  | fail)
local macro_rules | `(tactic| walk_at "hp") => `(tactic| first
  | (refine' kpdat ?ess ?esl ?esk ?esn; (case ess => assumption); (case esl => walk_at "hp"); (case esk => walk_at "hp"); (case esn => (intro _ zz; cases zz)))
  | fail)
local macro_rules | `(tactic| walk_at "pen") => `(tactic| first
  | (refine' PenAt.kpd ?pek ?ped ?pes; (case pes => assumption); (case ped => walk_at "hp"); (case pek => walk_at "pen"))
  | fail)
local macro_rules | `(tactic| walk_at "ik") => `(tactic| first
  | (refine' InsK.trans ?ika ?ikb; (case ikb => (refine' InsK.kpd ?ikl ?ikk; (case ikk => assumption); (case ikl => walk_at "hp"))); (case ika => walk_at "ik"))
  | fail)
local macro_rules | `(tactic| walk_at "tabs") => `(tactic| first
  | (refine' OZ.Tabs.kpd ?tbs ?tbl ?tbk; (case tbs => assumption); (case tbl => walk_at "hp"); (case tbk => walk_at "tabs"))
  | fail)
local macro_rules | `(tactic| walk_at "y") => `(tactic| first
  | with_reducible refine y_js ?_
  | with_reducible refine y_js0 ?_
  | with_reducible refine y_fmt ?_
  | with_reducible refine y_fmtP ?_
  | with_reducible refine y_methP ?_
  | with_reducible refine y_methKP ?_
  | fail)
structure TopT2 (K : PySem.W.Frag) (w : World) (mg : Str → Option Value) : Prop extends TopT K mg where
  g_OTHER_SENSES : mg "OTHER_SENSES" = some (.ref (He.ga K "OTHER_SENSES"))
  oth : ∀ p ∈ ([("rising", "falling"), ("falling", "rising"), ("unsure", "unsure")] : List (Str × Str)), KDct K w (He.ga K "OTHER_SENSES") p.1 (.str p.2)
abbrev isTl (K : PySem.W.Frag) (C : Addr) : Prop := C = CSc K ∨ C = CRk K
def clsT (K : PySem.W.Frag) (t : Tl) : Addr := match t.db with
  | some _ => CSc K
  | none => CRk K
def twords (t : Tl) : List Str := match t.db with
  | some q => ["scale", t.nm, t.sn, qS q]
  | none => ["ranker", t.nm, t.sn]
theorem twords_inj {t u : Tl} (h : twords t = twords u) : t = u := by
  obtain ⟨n, s, d⟩ := t
  obtain ⟨n', s', d'⟩ := u
  cases d <;> cases d'
  · simp [twords] at h
    rw [h.1, h.2]
  · simp [twords] at h
  · simp [twords] at h
  · simp [twords] at h
    rw [h.1, h.2.1, qS_inj h.2.2]
theorem TlF.ne {K : PySem.W.Frag} (TF : TlF K) : CSc K ≠ CRk K := fun e => by
  have h1 := TF.k1
  have h2 := TF.k2
  rw [← e, h1] at h2
  cases h2
structure TlOk (t : Tl) : Prop where
  nm : isNm t.nm = true
  sn : t.sn ∈ SEN
  db : ∀ q, t.db = some q → 0 ≤ q ∧ SzQ 1800 q
theorem TlAt.ins {K : PySem.W.Frag} {H : Hp} {a : Addr} {t : Tl} (h : TlAt K H a t) : ∃ dx fs, H a = some (.ins (clsT K t) dx fs) ∧ ∀ m : Str, m ∉ (["name", "sense", "doubt"] : List Str) → fs.lookup m = none := by
  obtain ⟨n, s, d⟩ := t
  have ne : ∀ {m x : Str}, x ≠ m → (m == x) = false := fun h => beq_eq_false_iff_ne.mpr (Ne.symm h)
  cases d with
  | none =>
    obtain ⟨dx, h⟩ := h
    refine ⟨dx, _, h, fun m hm => ?_⟩
    simp only [List.mem_cons, List.not_mem_nil, or_false, not_or] at hm
    simp [List.lookup, ne (Ne.symm hm.1), ne (Ne.symm hm.2.1)]
  | some q =>
    obtain ⟨dx, d, h, _⟩ := h
    refine ⟨dx, _, h, fun m hm => ?_⟩
    simp only [List.mem_cons, List.not_mem_nil, or_false, not_or] at hm
    simp [List.lookup, ne (Ne.symm hm.1), ne (Ne.symm hm.2.1), ne (Ne.symm hm.2.2)]
theorem isTl_cls {K : PySem.W.Frag} (t : Tl) : isTl K (clsT K t) := by
  obtain ⟨n, s, d⟩ := t
  cases d
  · exact .inr rfl
  · exact .inl rfl
section
variable {P : Program} {w : World} {K : PySem.W.Frag} {mg : Str → Option Value} {base : Heap} {n s d : V} {H : Hp} {Q : VK} {E : XK}
theorem y_atN (TF : TlF K) {a : Addr} {t : Tl} (h : TlAt K H a t) (k : Q (.str t.nm) H) : rAtt K "name" (.ref a) H Q := by
  obtain ⟨n, s, db⟩ := t
  cases db with
  | none => obtain ⟨dx, h⟩ := h; exact y_attI h TF.or.cls (TF.nr "name" (by decide)) rfl k
  | some q => obtain ⟨dx, d, h, _⟩ := h; exact y_attI h TF.os.cls (TF.ns "name" (by decide)) rfl k
theorem y_atS (TF : TlF K) {a : Addr} {t : Tl} (h : TlAt K H a t) (k : Q (.str t.sn) H) : rAtt K "sense" (.ref a) H Q := by
  obtain ⟨n, s, db⟩ := t
  cases db with
  | none => obtain ⟨dx, h⟩ := h; exact y_attI h TF.or.cls (TF.nr "sense" (by decide)) rfl k
  | some q => obtain ⟨dx, d, h, _⟩ := h; exact y_attI h TF.os.cls (TF.ns "sense" (by decide)) rfl k
theorem y_atD (TF : TlF K) {a : Addr} {n s : Str} {q : Rat} (h : TlAt K H a ⟨n, s, some q⟩) (k : ∀ d, AmQ (CA K) H d q → Q (.ref d) H) : rAtt K "doubt" (.ref a) H Q := by
  obtain ⟨dx, d, h, hd⟩ := h
  exact y_attI h TF.os.cls (TF.ns "doubt" (by decide)) rfl (k d hd)
def NewD (K : PySem.W.Frag) (db : Option Rat) (n s : V) (H : Hp) (Q : VK) (E : XK) : Prop := StrV K H n ∧ StrV K H s ∧
  ((nmV n = false ∧ OutT K H "name" E) ∨ (nmV n = true ∧ snV s = false ∧ OutT K H "sense" E) ∨
   (nmV n = true ∧ snV s = true ∧ ∃ zn zs, n = .str zn ∧ s = .str zs ∧ ∀ a H', H a = none → Same H H' → TlAt K H' a ⟨zn, zs, db⟩ → Q (.ref a) H'))
theorem NewD.R (h : NewD K none n s H Q E) : NewR K n s H Q E := h
theorem NewD.S {q : Rat} (hd : NumQ (CA K) H d q) (q0 : 0 ≤ q) (sq : SzQ 1800 q) (h : NewD K (some q) n s H Q E) : NewS K n s d H Q E := by
  obtain ⟨h1, h2, h⟩ := h
  refine ⟨h1, h2, ?_⟩
  rcases h with h | h | ⟨e1, e2, zn, zs, r1, r2, k⟩
  · exact .inl h
  · exact .inr (.inl h)
  · exact .inr (.inr ⟨e1, e2, .inr (.inr ⟨zn, zs, q, r1, r2, hd, sq, q0, k⟩)⟩)
theorem newD_ok {db : Option Rat} {zn zs : Str} (hn : isNm zn = true) (hs : zs ∈ SEN) (k : ∀ a H', H a = none → Same H H' → TlAt K H' a ⟨zn, zs, db⟩ → Q (.ref a) H') : NewD K db (.str zn) (.str zs) H Q E := by
  have l1 := isNm_len hn
  have l2 : zs.length ≤ 10000 := by
    simp only [SEN, List.mem_cons, List.not_mem_nil, or_false] at hs
    rcases hs with rfl | rfl | rfl <;> decide
  exact ⟨.str (by omega), .str l2, .inr (.inr ⟨hn, decide_eq_true hs, zn, zs, rfl, rfl, k⟩)⟩
theorem strV_n {z : Str} (h : isNm z = true) : StrV K H (.str z) := .str (by have := isNm_len h; omega)
theorem strV_s {z : Str} (h : z ∈ SEN) : StrV K H (.str z) := .str (by
  simp only [SEN, List.mem_cons, List.not_mem_nil, or_false] at h
  rcases h with rfl | rfl | rfl <;> decide)
def spMadeAs (K : PySem.W.Frag) (C : Addr) : Sp := fun vs H Q E => ∃ (a : Addr) (t : Tl) (n s : V), vs = [.ref a, n, s] ∧ TlAt K H a t ∧ C = clsT K t ∧ TlOk t ∧ NewD K t.db n s H Q E
def spSense (K : PySem.W.Frag) : Sp := fun vs H Q E => ∃ (a : Addr) (t : Tl) (s : V), vs = [.ref a, s] ∧ TlAt K H a t ∧ TlOk t ∧ NewD K t.db (.str t.nm) s H Q E
def spRenamed (K : PySem.W.Frag) : Sp := fun vs H Q E => ∃ (a : Addr) (t : Tl) (n : V), vs = [.ref a, n] ∧ TlAt K H a t ∧ TlOk t ∧ NewD K t.db n (.str t.sn) H Q E
def spDoubt (K : PySem.W.Frag) : Sp := fun vs H Q E => ∃ (a : Addr) (t : Tl) (q : Rat) (d : V), vs = [.ref a, d] ∧ TlAt K H a t ∧ t.db = some q ∧ TlOk t ∧ NewS K (.str t.nm) (.str t.sn) d H Q E
def oth (s : Str) : Str := if s = "rising" then "falling" else if s = "falling" then "rising" else "unsure"
def spTNeg (K : PySem.W.Frag) : Sp := fun vs H Q E => ∃ (a : Addr) (t : Tl), vs = [.ref a] ∧ TlAt K H a t ∧ TlOk t ∧ NewD K t.db (.str t.nm) (.str (oth t.sn)) H Q E
def spTold (K : PySem.W.Frag) (C : Addr) : Sp := fun vs H Q _ => ∃ (a : Addr) (t : Tl), vs = [.ref a] ∧ TlAt K H a t ∧ C = clsT K t ∧ TlOk t ∧ ∀ l H', H l = none → Same H H' → H' l = some (.lst ((twords t).map V.str)) → Q (.ref l) H'
def spTEq (K : PySem.W.Frag) : Sp := fun vs H Q _ => ∃ (a : Addr) (t : Tl) (v : V), vs = [.ref a, v] ∧ TlAt K H a t ∧ TlOk t ∧ ((∃ b u, v = .ref b ∧ TlAt K H b u ∧ TlOk u ∧ ∀ H', Same H H' → Q (.bl (decide (twords t = twords u))) H') ∨ (∃ ty, TyX K H v ty ∧ PySem.W.kitOne K ty (.ref (CTl K)) = some false ∧ Q (.bl false) H))
def spTStr (K : PySem.W.Frag) : Sp := fun vs H Q _ => ∃ (a : Addr) (t : Tl), vs = [.ref a] ∧ TlAt K H a t ∧ TlOk t ∧ ∀ H', Same H H' → Q (.str (Txt.join " " (twords t))) H'
end
section
variable {P : Program} {w : World} {K : PySem.W.Frag} {mg : Str → Option Value} {base : Heap}
abbrev s_sma : Stmt := inClass (topS 34) 5
theorem sc_sma : FnScope ["self", "name", "sense"] ["self", "name", "sense"] (defScope s_sma) := ⟨rfl, rfl, rfl, by decide +kernel, rfl, by decide +kernel, by decide +kernel⟩
abbrev s_rma : Stmt := inClass (topS 35) 5
theorem sc_rma : FnScope ["self", "name", "sense"] ["self", "name", "sense"] (defScope s_rma) := ⟨rfl, rfl, rfl, by decide +kernel, rfl, by decide +kernel, by decide +kernel⟩
abbrev s_stw : Stmt := inClass (topS 34) 6
theorem sc_stw : FnScope ["self"] ["self"] (defScope s_stw) := ⟨rfl, rfl, rfl, by decide +kernel, rfl, by decide +kernel, by decide +kernel⟩
abbrev s_rtw : Stmt := inClass (topS 35) 6
theorem sc_rtw : FnScope ["self"] ["self"] (defScope s_rtw) := ⟨rfl, rfl, rfl, by decide +kernel, rfl, by decide +kernel, by decide +kernel⟩
theorem ok_sma {f : Addr} {fd : FuncData} (F : FunD K "made_as" "Scale.made_as" (defArgs s_sma) (defBody s_sma) (defScope s_sma) [] [] f fd) (TF : TlF K) (K_Scale_3 : MkC P w K mg base 7 "Scale" (CSc K) ["self", "name", "sense", "doubt"] [] (spSc K)) : FnOk P w K mg base (L2.CX P w) 9 f fd ["self", "name", "sense"] (spMadeAs K (CSc K)) := by
  have hne := TF.ne
  have nd := sc_sma.nd
  refine F.ok sc_sma (fun vs H Q E h => ?_) (fun cdv A' outer s H vs Q E hr h => ?_)
  · obtain ⟨a, t, n, s, rfl, _⟩ := h
    rfl
  · obtain ⟨a, t, n, s, rfl, ha, hc, ok, h⟩ := h
    refine ⟨_, (pss_one (ps_ret (mkC K_Scale_3 (hr.mono (by decide)) (passT (takes_of rfl rfl rfl rfl)) (pa_cons (pv 1) (pa_cons (pv 2) (pa_cons (pe_att (pv 0)) pa_nil)))))), ?_⟩
    obtain ⟨tn, ts, td⟩ := t
    cases td with
    | none => exact absurd hc hne
    | some q =>
      repeat walk_at "y"
      refine y_atD TF ha fun d hd => ?_
      repeat walk_at "y"
      exact newS_init (h.S (.inr ⟨d, rfl, hd⟩) (ok.db q rfl).1 (ok.db q rfl).2)
theorem ok_rma {f : Addr} {fd : FuncData} (F : FunD K "made_as" "Ranker.made_as" (defArgs s_rma) (defBody s_rma) (defScope s_rma) [] [] f fd) (TF : TlF K) (K_Ranker_2 : MkC P w K mg base 5 "Ranker" (CRk K) ["self", "name", "sense"] [] (spRk K)) : FnOk P w K mg base (L2.CX P w) 9 f fd ["self", "name", "sense"] (spMadeAs K (CRk K)) := by
  have hne := TF.ne
  have nd := sc_rma.nd
  refine F.ok sc_rma (fun vs H Q E h => ?_) (fun cdv A' outer s H vs Q E hr h => ?_)
  · obtain ⟨a, t, n, s, rfl, _⟩ := h
    rfl
  · obtain ⟨a, t, n, s, rfl, ha, hc, ok, h⟩ := h
    refine ⟨_, (pss_one (ps_ret (mkC K_Ranker_2 (hr.mono (by decide)) (passT (takes_of rfl rfl rfl rfl)) (pa_cons (pv 1) (pa_cons (pv 2) pa_nil))))), ?_⟩
    obtain ⟨tn, ts, td⟩ := t
    cases td with
    | some q => exact absurd hc.symm hne
    | none =>
      repeat walk_at "y"
      exact newR_init h.R
theorem ok_stw {f : Addr} {fd : FuncData} (F : FunD K "told_words" "Scale.told_words" (defArgs s_stw) (defBody s_stw) (defScope s_stw) [] [] f fd) (T : TopA K mg) (TF : TlF K) (M_amt_str : MthP P w K mg base 3 (fun C => C = CA K) "__str__" ["self"] (fun _ => spStrA K)) : FnOk P w K mg base (L2.CX P w) 6 f fd ["self"] (spTold K (CSc K)) := by
  have nd := sc_stw.nd
  have hne := TF.ne
  refine F.ok sc_stw (fun vs H Q E h => ?_) (fun cdv A' outer s H vs Q E hr h => ?_)
  · obtain ⟨a, t, rfl, _⟩ := h
    rfl
  · obtain ⟨a, t, rfl, ha, hc, ok, k⟩ := h
    refine ⟨_, PSs.nox (pss_one (ps_ret (pe_lst (pa_cons pe_str (pa_cons (pe_att (pv 0)) (pa_cons (pe_att (pv 0)) (pa_cons (pe_callTy (c_strP M_amt_str (hr.mono (by decide)) passL) (by rfl) T.n_str (by decide +kernel) (pa_cons (pe_att (pv 0)) pa_nil)) pa_nil))))))), ?_⟩
    obtain ⟨tn, ts, td⟩ := t
    cases td with
    | none => exact absurd hc hne
    | some q =>
      repeat walk_at "y"
      refine y_atN TF ha ?_
      repeat walk_at "y"
      refine y_atS TF ha ?_
      repeat walk_at "y"
      refine y_atD TF ha fun d hd => ?_
      repeat walk_at "y"
      have hd' := hd
      obtain ⟨dx, hd'⟩ := hd'
      refine ⟨d, _, dx, _, rfl, hd', rfl, d, q, rfl, hd, (ok.db q rfl).2.mono (by decide), _, rfl, ?_⟩
      repeat walk_at "y"
      exact k _ _ (by assumption) (by assumption) (by assumption)
theorem ok_rtw {f : Addr} {fd : FuncData} (F : FunD K "told_words" "Ranker.told_words" (defArgs s_rtw) (defBody s_rtw) (defScope s_rtw) [] [] f fd) (TF : TlF K) : FnOk P w K mg base (L2.CX P w) 6 f fd ["self"] (spTold K (CRk K)) := by
  have nd := sc_rtw.nd
  have hne := TF.ne
  refine F.ok sc_rtw (fun vs H Q E h => ?_) (fun cdv A' outer s H vs Q E hr h => ?_)
  · obtain ⟨a, t, rfl, _⟩ := h
    rfl
  · obtain ⟨a, t, rfl, ha, hc, ok, k⟩ := h
    refine ⟨_, PSs.nox (pss_one (ps_ret (pe_lst (pa_cons pe_str (pa_cons (pe_att (pv 0)) (pa_cons (pe_att (pv 0)) pa_nil)))))), ?_⟩
    obtain ⟨tn, ts, td⟩ := t
    cases td with
    | some q => exact absurd hc.symm hne
    | none =>
      repeat walk_at "y"
      refine y_atN TF ha ?_
      repeat walk_at "y"
      refine y_atS TF ha ?_
      repeat walk_at "y"
      exact k _ _ (by assumption) (by assumption) (by assumption)
theorem y_isX {H : Hp} {Q : VK} {v : V} {t : Value} {C : Addr} {b : Bool} (ty : TyX K H v t) (k : PySem.W.kitOne K t (.ref C) = some b) (q : Q (.bl b) H) : rIsA K [v, .ref C] H Q := .inl ⟨_, _, _, _, _, rfl, .own _, ty, k, q⟩
theorem strOk_of {z : Str} (h : ∀ c ∈ z.cps.toList, c < 0x110000) : PyData.strOk z = true := by
  unfold PyData.strOk
  rw [Array.all_eq_true']
  intro c hc
  exact decide_eq_true (h c (by simpa using hc))
theorem let_ok : ∀ c ∈ LET.cps.toList, c < 0x110000 := by decide +kernel
theorem nm_ok {z : Str} (h : isNm z = true) : PyData.strOk z = true := by
  unfold isNm at h
  simp only [Bool.and_eq_true, List.all_eq_true, decide_eq_true_eq] at h
  exact strOk_of fun c hc => let_ok c (h.2.2 c hc)
theorem sn_ok {z : Str} (h : z ∈ SEN) : PyData.strOk z = true := by
  simp only [SEN, List.mem_cons, List.not_mem_nil, or_false] at h
  rcases h with rfl | rfl | rfl <;> decide +kernel
theorem qS_ok (q : Rat) : PyData.strOk (qS q) = true := by
  refine strOk_of fun c hc => ?_
  rw [qS_eq, lS_list] at hc
  unfold qL at hc
  split at hc
  · rcases intL_signs _ c hc with e | e <;> omega
  · rcases List.mem_append.mp hc with hc | hc
    · rcases intL_signs _ c hc with e | e <;> omega
    · rcases List.mem_cons.mp hc with e | hc
      · omega
      · rcases intL_signs _ c hc with e | e <;> omega
theorem words_ok {t : Tl} (ok : TlOk t) : ∀ z ∈ twords t, PyData.strOk z = true := by
  obtain ⟨n, s, d⟩ := t
  intro z hz
  cases d with
  | none =>
    simp only [twords, List.mem_cons, List.not_mem_nil, or_false] at hz
    rcases hz with rfl | rfl | rfl
    · decide +kernel
    · exact nm_ok ok.nm
    · exact sn_ok ok.sn
  | some q =>
    simp only [twords, List.mem_cons, List.not_mem_nil, or_false] at hz
    rcases hz with rfl | rfl | rfl | rfl
    · decide +kernel
    · exact nm_ok ok.nm
    · exact sn_ok ok.sn
    · exact qS_ok q
theorem sn_len {z : Str} (h : z ∈ SEN) : z.length ≤ 8 := by
  simp only [SEN, List.mem_cons, List.not_mem_nil, or_false] at h
  rcases h with rfl | rfl | rfl <;> decide +kernel
theorem words_sum {t : Tl} (ok : TlOk t) : ((twords t).map (·.length)).sum + (twords t).length * (Str.ofString " ").length ≤ 16777216 := by
  obtain ⟨n, s, d⟩ := t
  have l1 := isNm_len ok.nm
  have l2 := sn_len ok.sn
  have e1 : (Str.ofString "ranker").length = 6 := by decide +kernel
  have e2 : (Str.ofString "scale").length = 5 := by decide +kernel
  have e3 : (Str.ofString " ").length = 1 := by decide +kernel
  dsimp only at l1 l2
  cases d with
  | none =>
    simp only [twords, List.map_cons, List.map_nil, List.sum_cons, List.sum_nil, List.length_cons, List.length_nil, e1, e3]
    omega
  | some q =>
    have sq := (ok.db q rfl).2
    have l3 := qS_len (dec_sz (by decide) sq.1) (dec_sz (by decide) sq.2)
    simp only [twords, List.map_cons, List.map_nil, List.sum_cons, List.sum_nil, List.length_cons, List.length_nil, e2, e3]
    omega
abbrev s_tws : Stmt := inClass (topS 33) 7
theorem sc_tws : FnScope ["self", "sense"] ["self", "sense"] (defScope s_tws) := ⟨rfl, rfl, rfl, by decide +kernel, rfl, by decide +kernel, by decide +kernel⟩
abbrev s_tre : Stmt := inClass (topS 33) 8
theorem sc_tre : FnScope ["self", "name"] ["self", "name"] (defScope s_tre) := ⟨rfl, rfl, rfl, by decide +kernel, rfl, by decide +kernel, by decide +kernel⟩
abbrev s_swd : Stmt := inClass (topS 34) 7
theorem sc_swd : FnScope ["self", "doubt"] ["self", "doubt"] (defScope s_swd) := ⟨rfl, rfl, rfl, by decide +kernel, rfl, by decide +kernel, by decide +kernel⟩
abbrev s_tneg : Stmt := inClass (topS 33) 9
theorem sc_tneg : FnScope ["self"] ["self"] (defScope s_tneg) := ⟨rfl, rfl, rfl, by decide +kernel, rfl, by decide +kernel, by decide +kernel⟩
abbrev s_teq : Stmt := inClass (topS 33) 10
theorem sc_teq : FnScope ["self", "other"] ["self", "other"] (defScope s_teq) := ⟨rfl, rfl, rfl, by decide +kernel, rfl, by decide +kernel, by decide +kernel⟩
abbrev s_tstr : Stmt := inClass (topS 33) 11
theorem sc_tstr : FnScope ["self"] ["self"] (defScope s_tstr) := ⟨rfl, rfl, rfl, by decide +kernel, rfl, by decide +kernel, by decide +kernel⟩
theorem ok_tws {f : Addr} {fd : FuncData} (F : FunD K "with_sense" "Tool.with_sense" (defArgs s_tws) (defBody s_tws) (defScope s_tws) [] [] f fd) (TF : TlF K) (M_tool_made_as : MtdP P w K mg base 9 (isTl K) "made_as" ["self", "name", "sense"] (spMadeAs K)) : FnOk P w K mg base (L2.CX P w) 10 f fd ["self", "sense"] (spSense K) := by
  have nd := sc_tws.nd
  refine F.ok sc_tws (fun vs H Q E h => ?_) (fun cdv A' outer s H vs Q E hr h => ?_)
  · obtain ⟨a, t, sv, rfl, _⟩ := h
    rfl
  · obtain ⟨a, t, sv, rfl, ha, ok, h⟩ := h
    refine ⟨_, (pss_one (ps_ret (omP M_tool_made_as (hr.mono (by decide)) (passT (takes_of rfl rfl rfl rfl)) (pv 0) (pa_cons (pe_att (pv 0)) (pa_cons (pv 1) pa_nil))))), ?_⟩
    obtain ⟨dx, fs, hi, hl⟩ := ha.ins
    repeat walk_at "y"
    refine ⟨a, _, dx, fs, rfl, hi, isTl_cls t, hl _ (by decide), ?_⟩
    repeat walk_at "y"
    refine y_atN TF ha ?_
    repeat walk_at "y"
    exact ⟨a, t, _, _, rfl, ha, rfl, ok, h⟩
theorem ok_tre {f : Addr} {fd : FuncData} (F : FunD K "renamed" "Tool.renamed" (defArgs s_tre) (defBody s_tre) (defScope s_tre) [] [] f fd) (TF : TlF K) (M_tool_made_as : MtdP P w K mg base 9 (isTl K) "made_as" ["self", "name", "sense"] (spMadeAs K)) : FnOk P w K mg base (L2.CX P w) 10 f fd ["self", "name"] (spRenamed K) := by
  have nd := sc_tre.nd
  refine F.ok sc_tre (fun vs H Q E h => ?_) (fun cdv A' outer s H vs Q E hr h => ?_)
  · obtain ⟨a, t, nv, rfl, _⟩ := h
    rfl
  · obtain ⟨a, t, nv, rfl, ha, ok, h⟩ := h
    refine ⟨_, (pss_one (ps_ret (omP M_tool_made_as (hr.mono (by decide)) (passT (takes_of rfl rfl rfl rfl)) (pv 0) (pa_cons (pv 1) (pa_cons (pe_att (pv 0)) pa_nil))))), ?_⟩
    obtain ⟨dx, fs, hi, hl⟩ := ha.ins
    repeat walk_at "y"
    refine ⟨a, _, dx, fs, rfl, hi, isTl_cls t, hl _ (by decide), ?_⟩
    repeat walk_at "y"
    refine y_atS TF ha ?_
    repeat walk_at "y"
    exact ⟨a, t, _, _, rfl, ha, rfl, ok, h⟩
theorem ok_swd {f : Addr} {fd : FuncData} (F : FunD K "with_doubt" "Scale.with_doubt" (defArgs s_swd) (defBody s_swd) (defScope s_swd) [] [] f fd) (TF : TlF K) (K_Scale_3 : MkC P w K mg base 7 "Scale" (CSc K) ["self", "name", "sense", "doubt"] [] (spSc K)) : FnOk P w K mg base (L2.CX P w) 9 f fd ["self", "doubt"] (spDoubt K) := by
  have nd := sc_swd.nd
  refine F.ok sc_swd (fun vs H Q E h => ?_) (fun cdv A' outer s H vs Q E hr h => ?_)
  · obtain ⟨a, t, q, d, rfl, _⟩ := h
    rfl
  · obtain ⟨a, t, q, d, rfl, ha, hd, ok, h⟩ := h
    refine ⟨_, (pss_one (ps_ret (mkC K_Scale_3 (hr.mono (by decide)) (passT (takes_of rfl rfl rfl rfl)) (pa_cons (pe_att (pv 0)) (pa_cons (pe_att (pv 0)) (pa_cons (pv 1) pa_nil)))))), ?_⟩
    repeat walk_at "y"
    refine y_atN TF ha ?_
    repeat walk_at "y"
    refine y_atS TF ha ?_
    repeat walk_at "y"
    exact newS_init h
theorem ok_tneg {f : Addr} {fd : FuncData} (F : FunD K "__neg__" "Tool.__neg__" (defArgs s_tneg) (defBody s_tneg) (defScope s_tneg) [] [] f fd) (T : TopT2 K w mg) (TF : TlF K) (M_tool_made_as : MtdP P w K mg base 9 (isTl K) "made_as" ["self", "name", "sense"] (spMadeAs K)) : FnOk P w K mg base (L2.CX P w) 10 f fd ["self"] (spTNeg K) := by
  have nd := sc_tneg.nd
  refine F.ok sc_tneg (fun vs H Q E h => ?_) (fun cdv A' outer s H vs Q E hr h => ?_)
  · obtain ⟨a, t, rfl, _⟩ := h
    rfl
  · obtain ⟨a, t, rfl, ha, ok, h⟩ := h
    refine ⟨_, (pss_one (ps_ret (omP M_tool_made_as (hr.mono (by decide)) (passT (takes_of rfl rfl rfl rfl)) (pv 0) (pa_cons (pe_att (pv 0)) (pa_cons (pe_ix ix_kdict (og_ref T.g_OTHER_SENSES) (pe_att (pv 0)) (fun _ _ => rfl)) pa_nil))))), ?_⟩
    obtain ⟨dx, fs, hi, hl⟩ := ha.ins
    repeat walk_at "y"
    refine ⟨a, _, dx, fs, rfl, hi, isTl_cls t, hl _ (by decide), ?_⟩
    repeat walk_at "y"
    refine y_atN TF ha ?_
    repeat walk_at "y"
    refine y_atS TF ha ?_
    have hs := ok.sn
    simp only [SEN, List.mem_cons, List.not_mem_nil, or_false] at hs
    have o1 := T.oth ("rising", "falling") (by decide)
    have o2 := T.oth ("falling", "rising") (by decide)
    have o3 := T.oth ("unsure", "unsure") (by decide)
    have fin : ∀ s', KDct K w (He.ga K "OTHER_SENSES") t.sn (.str s') → s' = oth t.sn → rIxD K w (.ref (He.ga K "OTHER_SENSES")) (.str t.sn) H (fun x H1 => spMadeAs K (clsT K t) [V.ref a, V.str t.nm, x] H1 Q E) := fun s' hk e => ⟨_, _, _, rfl, rfl, hk, a, t, _, _, rfl, ha, rfl, ok, by rw [e]; exact h⟩
    rcases hs with e | e | e
    · exact fin _ (by rw [e]; exact o1) (by rw [e]; rfl)
    · exact fin _ (by rw [e]; exact o2) (by rw [e]; decide)
    · exact fin _ (by rw [e]; exact o3) (by rw [e]; decide)
theorem ok_teq {f : Addr} {fd : FuncData} (F : FunD K "__eq__" "Tool.__eq__" (defArgs s_teq) (defBody s_teq) (defScope s_teq) [] [] f fd) (T : TopT K mg) (TF : TlF K) (M_tool_told_words : MtdP P w K mg base 6 (isTl K) "told_words" ["self"] (spTold K)) : FnOk P w K mg base (L2.CX P w) 7 f fd ["self", "other"] (spTEq K) := by
  have nd := sc_teq.nd
  refine F.ok sc_teq (fun vs H Q E h => ?_) (fun cdv A' outer s H vs Q E hr h => ?_)
  · obtain ⟨a, t, v, rfl, _⟩ := h
    rfl
  · obtain ⟨a, t, v, rfl, ha, ok, h⟩ := h
    have hu64 := hr.units
    refine ⟨_, PSs.nox (pss_one (ps_ret (pe_and (pe_callB c_isA (by rfl) T.n_isinstance (by decide +kernel) (pa_cons (pv 1) (pa_cons (og_ref T.g_Tool) pa_nil))) (pe_one (pe_cmpR (op_eqD hu64) (omP0 M_tool_told_words (hr.mono (by decide)) passL (pv 0)) (omP0 M_tool_told_words (hr.mono (by decide)) passL (pv 1)) (nomark _)))))), ?_⟩
    repeat walk_at "y"
    rcases h with ⟨b, u, rfl, hb, uk, k⟩ | ⟨ty, hty, kt, k⟩
    · obtain ⟨dy, gs, hi2, hl2⟩ := hb.ins
      have kT : PySem.W.kitOne K (.ref (clsT K u)) (.ref (CTl K)) = some true := by
        obtain ⟨un, us, ud⟩ := u
        cases ud
        · exact TF.k6
        · exact TF.k3
      have tyB : TyX K H (.ref b) (.ref (clsT K u)) := by
        obtain ⟨un, us, ud⟩ := u
        cases ud
        · exact TF.or.ty hi2
        · exact TF.os.ty hi2
      refine y_isX tyB kT ?_
      obtain ⟨dx, fs, hi, hl⟩ := ha.ins
      repeat walk_at "y"
      refine ⟨a, _, dx, fs, rfl, hi, isTl_cls t, hl _ (by decide), ?_⟩
      repeat walk_at "y"
      refine ⟨a, t, rfl, ha, rfl, ok, fun l1 H1 n1 s1 o1 => ?_⟩
      repeat walk_at "y"
      refine ⟨b, _, dy, gs, rfl, s1 _ _ hi2, isTl_cls u, hl2 _ (by decide), ?_⟩
      repeat walk_at "y"
      refine ⟨b, u, rfl, hb.ik (.same s1), rfl, uk, fun l2 H2 n2 s2 o2 => ?_⟩
      refine y_eqDs _ _ (words_ok ok) (words_ok uk) (s2 _ _ o1) o2 ?_
      repeat walk_at "y"
      exact k _ (s1.trans s2)
    · refine y_isX hty kt ?_
      repeat walk_at "y"
      exact k
theorem ok_tstr {f : Addr} {fd : FuncData} (F : FunD K "__str__" "Tool.__str__" (defArgs s_tstr) (defBody s_tstr) (defScope s_tstr) [] [] f fd) (T : TopT K mg) (TF : TlF K) (M_tool_told_words : MtdP P w K mg base 6 (isTl K) "told_words" ["self"] (spTold K)) : FnOk P w K mg base (L2.CX P w) 7 f fd ["self"] (spTStr K) := by
  have nd := sc_tstr.nd
  refine F.ok sc_tstr (fun vs H Q E h => ?_) (fun cdv A' outer s H vs Q E hr h => ?_)
  · obtain ⟨a, t, rfl, _⟩ := h
    rfl
  · obtain ⟨a, t, rfl, ha, ok, k⟩ := h
    refine ⟨_, PSs.nox (pss_one (ps_ret (pe_join pe_str (omP0 M_tool_told_words (hr.mono (by decide)) passL (pv 0))))), ?_⟩
    obtain ⟨dx, fs, hi, hl⟩ := ha.ins
    repeat walk_at "y"
    refine ⟨⟨_, rfl⟩, ?_⟩
    repeat walk_at "y"
    refine ⟨a, _, dx, fs, rfl, hi, isTl_cls t, hl _ (by decide), ?_⟩
    repeat walk_at "y"
    refine ⟨a, t, rfl, ha, rfl, ok, fun l1 H1 n1 s1 o1 => ?_⟩
    refine ⟨_, _, _, rfl, rfl, .inl (SqL.of o1), ?_, k _ s1⟩
    exact words_sum ok
end
structure TlOps (P : Program) (w : World) (K : PySem.W.Frag) (mg : Str → Option Value) (base : Heap) : Prop where
  K_Scale_3 : MkC P w K mg base 7 "Scale" (CSc K) ["self", "name", "sense", "doubt"] [] (spSc K)
  K_Ranker_2 : MkC P w K mg base 5 "Ranker" (CRk K) ["self", "name", "sense"] [] (spRk K)
  M_tool_neg : MthP P w K mg base 10 (isTl K) "__neg__" ["self"] (fun _ => spTNeg K)
  M_tool_eq : MthP P w K mg base 7 (isTl K) "__eq__" ["self", "other"] (fun _ => spTEq K)
  M_tool_str : MthP P w K mg base 7 (isTl K) "__str__" ["self"] (fun _ => spTStr K)
  N_tool : ∀ C, isTl K C → OC K C ∧ PySem.W.findIn K (.ref C) "__ne__" = some (some (.builtin "object.__ne__"))
  M_tool_renamed : MtdP P w K mg base 10 (isTl K) "renamed" ["self", "name"] (fun _ => spRenamed K)
  MK_tool_renamed : MtdKP P w K mg base 10 (isTl K) "renamed" ["self", "name"] ["name"] (fun us ws => us ++ ws) (fun _ => spRenamed K)
  M_tool_with_sense : MtdP P w K mg base 10 (isTl K) "with_sense" ["self", "sense"] (fun _ => spSense K)
  MK_tool_with_sense : MtdKP P w K mg base 10 (isTl K) "with_sense" ["self", "sense"] ["sense"] (fun us ws => us ++ ws) (fun _ => spSense K)
  M_tool_with_doubt : MtdP P w K mg base 9 (fun C => C = CSc K) "with_doubt" ["self", "doubt"] (fun _ => spDoubt K)
  MK_tool_with_doubt : MtdKP P w K mg base 9 (fun C => C = CSc K) "with_doubt" ["self", "doubt"] ["doubt"] (fun us ws => us ++ ws) (fun _ => spDoubt K)
end LW
set_option maxRecDepth 100000
namespace LW
open PySem PySem.Spec PyProof.Rows L2 OZ
local macro_rules | `(tactic| walk_at "szx1") => `(tactic| first
  | with_reducible assumption
  | exact sz_i64 (n := 64) (by decide)
  | (refine' Sz.add ?sx ?sy; (case sx => walk_at "szx1"); (case sy => walk_at "szx1"))
  | (refine' Sz.sub ?sx ?sy; (case sx => walk_at "szx1"); (case sy => walk_at "szx1"))
  | (refine' Sz.mul ?sx ?sy; (case sx => walk_at "szx1"); (case sy => walk_at "szx1"))
  | (refine' Sz.neg ?sx; (case sx => walk_at "szx1"))
  | (refine' Sz.iabs ?sx; (case sx => walk_at "szx1"))
  | (refine' sz_fdiv ?sx ?sy; (case sy => walk_at "nz"); (case sx => walk_at "szx1")))
local macro_rules | `(tactic| walk_at "szx") => `(tactic| (refine' Sz.mono ?szk ?szl; (case szk => walk_at "szx1"); (case szl => exact Nat.le_of_ble_eq_true rfl)))
local macro_rules | `(tactic| walk_at "aq") => `(tactic| first
  | assumption
  | (refine' AmQ.same ?aqs ?aqk; (case aqs => assumption); (case aqk => walk_at "aq"))
  | (refine' AmQ.extN ?aqs ?aqk; (case aqs => assumption); (case aqk => walk_at "aq"))
  | (refine' AmQ.kpl ?aqs ?aql ?aqk; (case aqs => assumption); (case aql => walk_at "hp"); (case aqk => walk_at "aq"))
  | (refine' AmQ.kp ?aql ?aqs ?aqk; (case aqs => assumption); (case aql => walk_at "pen"); (case aqk => walk_at "aq")))
local macro_rules | `(tactic| walk_at "nq") => `(tactic| first
  | assumption
  | exact NumQ.int
  | (refine' NumQ.am ?nqk; (case nqk => walk_at "aq"))
  | (refine' NumQ.same ?nqs ?nqk; (case nqs => assumption); (case nqk => walk_at "nq"))
  | (refine' NumQ.extN ?nqs ?nqk; (case nqs => assumption); (case nqk => walk_at "nq"))
  | (refine' NumQ.kpl ?nqs ?nql ?nqk; (case nqs => assumption); (case nql => walk_at "hp"); (case nqk => walk_at "nq")))
local macro_rules | `(tactic| walk_at "sz1") => `(tactic| first
  | with_reducible assumption
  | (refine' SzQ.add ?sx ?sy; (case sx => walk_at "sz1"); (case sy => walk_at "sz1"))
  | (refine' SzQ.sub ?sx ?sy; (case sx => walk_at "sz1"); (case sy => walk_at "sz1"))
  | (refine' SzQ.mul ?sx ?sy; (case sx => walk_at "sz1"); (case sy => walk_at "sz1"))
  | (refine' SzQ.div ?sx ?sy ?sz; (case sz => assumption); (case sx => walk_at "sz1"); (case sy => walk_at "sz1"))
  | (refine' SzQ.rmod ?sx ?sy ?sz; (case sz => assumption); (case sx => walk_at "sz1"); (case sy => walk_at "sz1"))
  | (refine' SzQ.neg ?sx; (case sx => walk_at "sz1"))
  | (refine' SzQ.qabs ?sx; (case sx => walk_at "sz1"))
  | (refine' SzQ.int ?sx ?sy; (case sx => with_reducible assumption); (case sy => exact Nat.le_of_ble_eq_true rfl))
  | exact sz_lit (by decide))
local macro_rules | `(tactic| walk_at "sz") => `(tactic| (refine' SzQ.mono ?szk ?szl; (case szk => walk_at "sz1"); (case szl => exact Nat.le_of_ble_eq_true rfl)))
local macro_rules | `(tactic| walk_at "nz") => `(tactic| first
  | assumption
  | decide
  | omega
  | exact intq0 (by decide))
local macro_rules | `(tactic| walk_at "szi") => `(tactic| first
  | assumption
  | exact Sz.mono (by with_reducible assumption) (Nat.le_of_ble_eq_true rfl)
  | exact sz_i64 (by decide))
local macro_rules | `(tactic| walk_at "ex") => `(tactic| first
  | assumption
  | (refine ExAt.same (by assumption) ?_; walk_at "ex"))
local macro_rules | `(tactic| walk_at "same") => `(tactic| first
  | assumption
  | exact same0
  | (refine Same.trans ?_ (by assumption); walk_at "same"))
local macro_rules | `(tactic| walk_at "tabs") => `(tactic| first
  | assumption
  | (refine' OZ.Tabs.same ?tbs ?tbk; (case tbs => assumption); (case tbk => walk_at "tabs"))
  | (refine' OZ.Tabs.kpl ?tbs ?tbl ?tbk; (case tbs => assumption); (case tbl => walk_at "hp"); (case tbk => walk_at "tabs"))
  | (refine' OZ.Tabs.kp ?tbl ?tbs ?tbk; (case tbs => assumption); (case tbl => walk_at "pen"); (case tbk => walk_at "tabs")))
local macro_rules | `(tactic| walk_at "ext") => `(tactic| first
  | assumption
  | exact LamX.ExtN.refl _
  | exact LamX.ExtN.of (by assumption)
  | (refine LamX.ExtN.trans ?_ (by assumption); walk_at "ext")
  | (refine LamX.ExtN.trans ?_ (LamX.ExtN.of (by assumption)); walk_at "ext"))
local macro_rules | `(tactic| walk_at "pen") => `(tactic| first
  | assumption
  | (refine' PenAt.same ?pek ?pes; (case pes => assumption); (case pek => walk_at "pen"))
  | (refine' PenAt.extN ?pek ?pes; (case pes => assumption); (case pek => walk_at "pen")))
local macro_rules | `(tactic| walk_at "kn") => `(tactic| first
  | assumption
  | exact KN.refl
  | (refine KN.trans ?_ (KN.same (by assumption)); walk_at "kn")
  | (refine KN.trans ?_ (KN.kp (by assumption)); walk_at "kn")
  | (refine KN.trans ?_ (KN.ext (by assumption)); walk_at "kn")
  | (refine KN.trans ?_ (by assumption); walk_at "kn"))
local macro_rules | `(tactic| walk_at "free") => `(tactic| first
  | assumption
  | (refine sfree (by assumption) ?_; walk_at "free"))
local macro_rules | `(tactic| walk_at "hp") => `(tactic| first
  | assumption
  | exact upd_same
  | (refine sat (by assumption) ?_; walk_at "hp")
  | (refine' esat ?ess ?esk ?esn; (case ess => assumption); (case esk => walk_at "hp"); (case esn => (intro _ zz; cases zz)))
  | (refine' kpne ?ess ?esn ?esk; (case ess => assumption); (case esn => (first | assumption | exact Ne.symm (by assumption))); (case esk => walk_at "hp"))
  | (refine' kpsat ?ess ?esl ?esk ?esn; (case ess => assumption); (case esl => walk_at "hp"); (case esk => walk_at "hp"); (case esn => (intro _ zz; cases zz)))
  | (refine upd_old ?_ ?_; (first | assumption | exact free_upd (by assumption)); walk_at "hp")
  | (refine upd_oth ?_ ?_; (first | assumption | exact Ne.symm (by assumption)); walk_at "hp"))
local macro_rules | `(tactic| walk_at "side") => `(tactic| first
  | assumption
  | decide
  | omega
  | exact ⟨by omega, by omega, by omega⟩
  | exact Or.inl ⟨by omega, by omega⟩
  | exact Or.inr ⟨by omega, by omega⟩
  | (show (_ : Int) ≠ 0; omega)
  | (refine' Sz.mulW ?ma ?mb ?mc; (case ma => walk_at "szx1"); (case mb => walk_at "szx1"); (case mc => exact Nat.le_of_ble_eq_true rfl))
  | (refine' Sz.divN ?ma ?mb ?mc; (case ma => walk_at "szx1"); (case mb => walk_at "nz"); (case mc => exact Nat.le_of_ble_eq_true rfl))
  | exact wide_div (b := 64) (by omega) (by omega) (by decide) (by decide)
  | exact wide_div (b := 4000) (by assumption) (by assumption) (by decide) (by decide))
local macro_rules | `(tactic| walk_at "y") => `(tactic| first
  | ((with_reducible refine y_var ?_); refine ⟨_, rfl, ?_⟩)
  | with_reducible refine y_c ?_
  | with_reducible refine y_op ?_
  | with_reducible refine y_cb ?_
  | with_reducible refine y_cons ?_
  | with_reducible refine y_nil ?_
  | with_reducible refine y_seq ?_
  | with_reducible refine y_asg ?_
  | with_reducible refine x_gn ?_
  | ((with_reducible refine' y_nx ?k1 ?k2); (case k1 => (simp only [L2.start, List.length_cons, List.length_nil, List.map_cons, List.map_nil, List.set_cons_succ, List.set_cons_zero, List.cons_append, List.nil_append, List.replicate]; rfl)))
  | with_reducible refine y_gsub ?_
  | with_reducible refine y_ret ?_
  | with_reducible refine y_drop ?_
  | with_reducible refine y_next ?_
  | with_reducible refine y_ifS ?_
  | with_reducible refine y_test ?_
  | with_reducible refine y_B ?_
  | with_reducible refine y_ex ?_
  | with_reducible refine y_not ?_
  | with_reducible refine y_and ?_
  | with_reducible refine y_or ?_
  | with_reducible refine y_notV ?_
  | with_reducible refine y_andV ?_
  | with_reducible refine y_orV ?_
  | with_reducible refine y_ifE ?_
  | with_reducible refine y_un ?_
  | with_reducible refine x_par ?_
  | with_reducible refine y_ex2 ?_
  | with_reducible refine y_call ?_
  | with_reducible refine y_callS ?_
  | with_reducible refine y_I0 ?_
  | ((with_reducible refine y_I ?_ ?_); (walk_at "side"))
  | with_reducible refine y_U ?_
  | ((with_reducible refine y_eq ?_ ?_); (exact rfl))
  | ((with_reducible refine y_ne ?_ ?_); (exact rfl))
  | ((with_reducible refine' y_ixL ?k1 ?k2 ?k3); (case k1 => walk_at "hp"); (case k2 => (first | assumption | exact rfl)))
  | ((with_reducible refine' y_ixT ?k1 ?k2 ?k3); (case k1 => walk_at "hp"); (case k2 => (first | assumption | exact rfl)))
  | ((with_reducible refine' y_setL ?k1 ?k2 ?k3); (case k1 => walk_at "hp"); (case k2 => (first | assumption | exact rfl)))
  | with_reducible refine y_int ?_
  | with_reducible refine y_intB ?_
  | with_reducible refine y_abs ?_
  | ((with_reducible refine' y_lenL ?k1 ?k3); (case k1 => walk_at "hp"))
  | ((with_reducible refine' y_lenT ?k1 ?k3); (case k1 => walk_at "hp"))
  | ((with_reducible refine y_lenS ?_ ?_); (walk_at "side"))
  | with_reducible refine y_isN ?_
  | with_reducible refine y_notN ?_
  | ((with_reducible refine y_addS ?_ ?_); (walk_at "side"))
  | with_reducible refine y_inC ?_
  | with_reducible refine y_notInC ?_
  | with_reducible refine y_sl ?_
  | with_reducible refine y_part ?_
  | with_reducible refine y_nopart ?_
  | with_reducible refine y_exI ?_
  | ((with_reducible refine y_slS ?_ ?_); (walk_at "side"))
  | with_reducible refine z_lst ?_
  | with_reducible refine z_tup ?_
  | ((with_reducible refine z_newL ?_ ?_); (exact Nat.le_of_ble_eq_true rfl); (intro pp HH npp spp opp))
  | ((with_reducible refine z_newT ?_ ?_); (exact Nat.le_of_ble_eq_true rfl); (intro pp HH npp spp opp))
  | ((with_reducible refine' y_chI ?k1 ?k2); (case k1 => exact rfl))
  | with_reducible refine y_chain ?_
  | with_reducible refine y_yes ?_
  | with_reducible refine y_att ?_
  | ((with_reducible refine y_disp ?_ ?_); (exact Nat.le_of_ble_eq_true rfl); (intro pp hpp))
  | ((with_reducible refine' y_gtup ?k1 ?k2 ?k3); (case k1 => walk_at "hp"); (case k2 => exact rfl))
  | with_reducible refine y_gcons ?_
  | with_reducible refine y_gnil ?_
  | with_reducible refine y_mkO ?_
  | with_reducible refine y_callKw ?_
  | with_reducible refine y_mkA ?_
  | with_reducible refine y_sm ?_
  | with_reducible refine y_smK ?_
  | with_reducible refine y_cut0 ?_
  | with_reducible refine y_methK ?_
  | ((with_reducible refine' y_lm ?k1 ?k2); (case k1 => walk_at "tabs"); (intro HH ee tt))
  | ((with_reducible refine' z_rep ?k1 ?k2 ?k3 ?k4 ?k5); (case k1 => walk_at "hp"); (case k2 => decide); (case k3 => decide); (case k4 => exact Nat.le_of_ble_eq_true rfl); (intro pp HH npp spp opp))
  | ((with_reducible refine z_rev (by decide) (by walk_at "hp") ?_); (intro pp HH npp spp opp))
  | with_reducible refine y_rfl ?_
  | with_reducible refine y_mkA1 ?_
  | ((with_reducible refine' y_aqT ?k0 ?k1 ?k2); (case k0 => assumption); (case k1 => walk_at "aq"))
  | ((with_reducible refine' y_aqB ?k0 ?k1 ?k2); (case k0 => assumption); (case k1 => walk_at "aq"))
  | ((with_reducible refine' y_bin ?k1 ?k2 ?k3 ?k4 ?k5); (case k1 => walk_at "aq"); (case k2 => walk_at "nq"); (case k3 => walk_at "sz"); (case k4 => walk_at "sz"); (intro pp HH npp spp opp))
  | ((with_reducible refine' y_rbin ?k1 ?k3 ?k4 ?k5); (case k1 => walk_at "aq"); (case k3 => walk_at "sz"); (case k4 => walk_at "sz"); (intro pp HH npp spp opp))
  | ((with_reducible refine' y_binM ?k1 ?k2 ?k3 ?k4 ?k5); (case k1 => walk_at "aq"); (case k2 => walk_at "nq"); (case k3 => walk_at "sz"); (case k4 => walk_at "sz"); (intro pp HH npp spp opp))
  | ((with_reducible refine' y_rbinM ?k1 ?k3 ?k4 ?k5); (case k1 => walk_at "aq"); (case k3 => walk_at "sz"); (case k4 => walk_at "sz"); (intro pp HH npp spp opp))
  | ((with_reducible refine' y_binD ?k1 ?k2 ?k3 ?k4 ?k5 ?k6); (case k1 => walk_at "aq"); (case k2 => walk_at "nq"); (case k3 => walk_at "sz"); (case k4 => walk_at "sz"); (case k5 => walk_at "nz"); (intro pp HH npp spp opp))
  | ((with_reducible refine' y_rbinD ?k1 ?k3 ?k4 ?k5 ?k6); (case k1 => walk_at "aq"); (case k3 => walk_at "sz"); (case k4 => walk_at "sz"); (case k5 => walk_at "nz"); (intro pp HH npp spp opp))
  | ((with_reducible refine' y_binF ?k1 ?k2 ?k3 ?k4 ?k5 ?k6); (case k1 => walk_at "aq"); (case k2 => walk_at "nq"); (case k3 => walk_at "sz"); (case k4 => walk_at "sz"); (case k5 => walk_at "nz"); (intro HH spp))
  | ((with_reducible refine' y_rbinF ?k1 ?k3 ?k4 ?k5 ?k6); (case k1 => walk_at "aq"); (case k3 => walk_at "sz"); (case k4 => walk_at "sz"); (case k5 => walk_at "nz"); (intro HH spp))
  | ((with_reducible refine' y_cmp ?kK ?k0 ?k1 ?k2 ?k3 ?k4 ?k5); (case kK => exact rfl); (case k0 => assumption); (case k1 => walk_at "aq"); (case k2 => walk_at "nq"); (case k3 => walk_at "sz"); (case k4 => walk_at "sz"); (intro HH spp))
  | ((with_reducible refine' y_rcmp ?k1 ?k3 ?k4 ?k5); (case k1 => walk_at "aq"); (case k3 => walk_at "sz"); (case k4 => walk_at "sz"); (intro HH spp))
  | ((with_reducible refine' y_ceq ?kK ?k0 ?k1 ?k2 ?k5); (case kK => exact rfl); (case k0 => assumption); (case k1 => walk_at "aq"); (case k2 => walk_at "nq"); (intro HH spp))
  | ((with_reducible refine' y_req ?k1 ?k5); (case k1 => walk_at "aq"); (intro HH spp))
  | ((with_reducible refine' y_cne ?kK ?k0 ?k1 ?k2 ?k5); (case kK => exact rfl); (case k0 => assumption); (case k1 => walk_at "aq"); (case k2 => walk_at "nq"); (intro HH spp))
  | ((with_reducible refine' y_un1 ?k1 ?k3 ?k5); (case k1 => walk_at "aq"); (case k3 => walk_at "sz"); (intro pp HH npp spp opp))
  | ((with_reducible refine' y_absO ?k1 ?k3 ?k5); (case k1 => walk_at "aq"); (case k3 => walk_at "sz"); (intro pp HH npp spp opp))
  | ((with_reducible refine' y_truA ?k1 ?k5); (case k1 => walk_at "aq"))
  | ((with_reducible refine' y_boolA ?k1 ?k5); (case k1 => walk_at "aq"))
  | with_reducible refine y_meth ?_
  | ((with_reducible refine' y_methX ?k1 ?k2); (case k1 => walk_at "aq"))
  | ((with_reducible refine' y_over ?k1 ?k2 ?k3 ?k4 ?k5 ?k6); (case k1 => walk_at "aq"); (case k2 => walk_at "nq"); (case k3 => walk_at "sz"); (case k4 => walk_at "sz"); (case k5 => walk_at "nz"); (intro pp HH npp spp opp))
  | ((with_reducible refine x_aug ?_); refine ⟨_, rfl, ?_⟩)
  | ((with_reducible refine' y_nwI ?k1 ?k2 ?k3 ?k4); (case k1 => walk_at "nz"); (case k2 => walk_at "szi"); (case k3 => walk_at "szi"); (intro pp HH npp spp opp))
  | ((with_reducible refine' y_nwI1 ?k2 ?k4); (case k2 => walk_at "szi"); (intro pp HH npp spp opp))
  | with_reducible refine y_fld ?_
  | with_reducible refine y_for ?_
  | with_reducible refine y_iRng1 ?_
  | with_reducible refine y_iRng2 ?_
  | ((with_reducible refine y_rgF1 ?_ ?_); (first | decide | omega))
  | ((with_reducible refine y_rgL1 ?_ ?_); (first | decide | omega))
  | ((with_reducible refine y_rgF2 ?_ ?_); (first | decide | omega))
  | ((with_reducible refine y_rgL2 ?_ ?_); (first | decide | omega))
  | with_reducible refine y_lc ?_
  | with_reducible refine y_rev ?_
  | ((with_reducible refine' y_glst ?k1 ?k2 ?k3); (case k1 => walk_at "hp"); (case k2 => exact rfl))
  | with_reducible refine y_iList ?_
  | with_reducible refine y_iTup ?_
  | with_reducible refine y_iEnum ?_
  | ((with_reducible refine' y_itL ?k1 ?k2); (case k1 => walk_at "hp"))
  | ((with_reducible refine' y_itT ?k1 ?k2); (case k1 => walk_at "hp"))
  | ((with_reducible refine' y_itE ?k1 ?k2); (case k1 => walk_at "hp"))
  | with_reducible refine y_m0 ?_
  | ((with_reducible refine' z_slT ?k1 ?k2 ?k3); (case k1 => walk_at "hp"); (case k2 => decide); (intro pp HH npp spp opp))
  | with_reducible refine y_pp ?_
  | with_reducible refine y_pp0 ?_
  | with_reducible refine y_xv ?_
  | with_reducible refine y_xv0 ?_
  | with_reducible refine y_bm ?_
  | ((with_reducible refine' y_tyL ?k1 ?k2); (case k1 => walk_at "hp"))
  | ((with_reducible refine' z_app ?k1 ?k2 ?k3); (case k1 => walk_at "hp"); (case k2 => (first | exact Nat.le_of_ble_eq_true rfl | walk_at "side")); (intro HH kpp opp))
  | ((with_reducible refine' z_cat ?k1 ?k2 ?k3 ?k4); (case k1 => walk_at "hp"); (case k2 => walk_at "hp"); (case k3 => (first | exact Nat.le_of_ble_eq_true rfl | walk_at "side")); (intro pp HH npp spp opp))
  | ((with_reducible refine' z_slL ?k1 ?k2); (case k1 => walk_at "hp"); (intro pp HH npp spp opp))
  | ((with_reducible refine' y_in ?k1 ?k2 ?k3 ?k4); (case k1 => walk_at "hp"); (case k2 => exact rfl); (case k3 => exact rfl))
  | with_reducible refine y_iteT ?_
  | with_reducible refine y_iteF ?_
  | with_reducible refine y_iteNT ?_
  | with_reducible refine y_iteNF ?_
  | ((with_reducible refine y_iteY ?_ ?_); (first | exact rfl | assumption | omega))
  | ((with_reducible refine y_iteX ?_ ?_); (first | focus (intro zz; cases zz; done) | assumption | omega))
  | ((with_reducible refine y_iteNY ?_ ?_); (first | exact rfl | assumption | omega))
  | ((with_reducible refine y_iteNX ?_ ?_); (first | focus (intro zz; cases zz; done) | assumption | omega))
  | ((with_reducible refine y_ite ?_ ?_) <;> intro hh)
  | ((with_reducible refine y_iteN ?_ ?_) <;> intro hh)
  | dsimp only)
local macro_rules | `(tactic| walk_at "kpc") => `(tactic| first
  | assumption
  | exact Kp.refl _ _
  | (refine Kp.trans ?_ (by assumption); walk_at "kpc")
  | (refine Kp.trans ?_ (Kp.of (by assumption)); walk_at "kpc")
  | fail)
local macro_rules | `(tactic| walk_at "ik") => `(tactic| first
  | assumption
  | exact InsK.refl
  | (refine' InsK.trans ?ika ?ikb; (case ikb => exact InsK.same (by assumption)); (case ika => walk_at "ik"))
  | (refine' InsK.trans ?ika ?ikb; (case ikb => exact InsK.ext (by assumption)); (case ika => walk_at "ik"))
  | (refine' InsK.trans ?ika ?ikb; (case ikb => (refine' InsK.pen ?ikp ?ikk; (case ikk => assumption); (case ikp => walk_at "pen"))); (case ika => walk_at "ik"))
  | (refine' InsK.trans ?ika ?ikb; (case ikb => (refine' InsK.kpl ?ikl ?ikk; (case ikk => assumption); (case ikl => walk_at "hp"))); (case ika => walk_at "ik"))
  | fail)
local macro_rules | `(tactic| walk_at "tl") => `(tactic| first
  | assumption
  | (refine' TlAt.ik ?tlk ?tla; (case tla => assumption); (case tlk => walk_at "ik"))
  | fail)
local macro_rules | `(tactic| walk_at "drw") => `(tactic| first
  | ((with_reducible refine' y_drawC ?k1 ?k2 ?k3 ?k4 ?k5); (case k1 => walk_at "pen"); (case k2 => omega); (case k3 => (first | decide | omega)); (case k4 => (first | exact nat4000 (by decide) | exact nat4000 (Nat.le_trans (by omega) (show 1000000 ≤ 10 ^ 60 by decide)))); (intro rr HH rr0 rr1 PP kk))
  | fail)
local macro_rules | `(tactic| walk_at "np") => `(tactic| first
  | assumption
  | (refine' PenAt.p_ne ?npP ?nph; (case nph => assumption); (case npP => walk_at "pen"))
  | fail)
local macro_rules | `(tactic| walk_at "y") => `(tactic| first
  | with_reducible refine y_make ?_
  | with_reducible refine y_makeKG ?_
  | with_reducible refine y_smD ?_
  | with_reducible refine y_dget ?_
  | with_reducible refine y_dput ?_
  | ((with_reducible refine' z_dgetR ?k1 ?k2 ?k3); (case k1 => walk_at "hp"); (case k2 => exact rfl))
  | ((with_reducible refine z_disp ?_); (intro pp HH npp spp opp))
  | ((with_reducible refine z_dnew ?_); (intro pp HH npp spp opp))
  | fail)
local macro_rules | `(tactic| walk_at "hp") => `(tactic| first
  | (refine' kpne ?ess ?esn ?esk; (case ess => assumption); (case esn => walk_at "np"); (case esk => walk_at "hp"))
  | fail)
local macro_rules | `(tactic| walk_at "hp") => `(tactic| first
  | (refine' kpdat ?ess ?esl ?esk ?esn; (case ess => assumption); (case esl => walk_at "hp"); (case esk => walk_at "hp"); (case esn => (intro _ zz; cases zz)))
  | fail)
local macro_rules | `(tactic| walk_at "pen") => `(tactic| first
  | (refine' PenAt.kpd ?pek ?ped ?pes; (case pes => assumption); (case ped => walk_at "hp"); (case pek => walk_at "pen"))
  | fail)
local macro_rules | `(tactic| walk_at "ik") => `(tactic| first
  | (refine' InsK.trans ?ika ?ikb; (case ikb => (refine' InsK.kpd ?ikl ?ikk; (case ikk => assumption); (case ikl => walk_at "hp"))); (case ika => walk_at "ik"))
  | fail)
local macro_rules | `(tactic| walk_at "tabs") => `(tactic| first
  | (refine' OZ.Tabs.kpd ?tbs ?tbl ?tbk; (case tbs => assumption); (case tbl => walk_at "hp"); (case tbk => walk_at "tabs"))
  | fail)
local macro_rules | `(tactic| walk_at "y") => `(tactic| first
  | with_reducible refine y_js ?_
  | with_reducible refine y_js0 ?_
  | with_reducible refine y_fmt ?_
  | with_reducible refine y_fmtP ?_
  | with_reducible refine y_methP ?_
  | with_reducible refine y_methKP ?_
  | fail)
section
variable {P : Program} {w : World} {K : PySem.W.Frag} {mg : Str → Option Value} {base : Heap}
def spNumber : Sp := fun vs H Q _ => ∃ (p c : Addr) (n : Nat), vs = [.ref p] ∧ PenAt H p c n ∧ n ≤ 90000 ∧ ∀ (a : Addr) (t b : Int) H', H' a = some (.tup [.int t, .int b]) → Nf t b → Sz 110 t → Sz 110 b → PenAt H' p c (n + 2) → Kp p H H' → Q (.ref a) H'
abbrev s_number : Stmt := topS 44
theorem sc_number : FnScope ["_law_pen_here", "_law_some"] ["_law_pen_here"] (defScope s_number) := ⟨rfl, rfl, rfl, by decide +kernel, rfl, by decide +kernel, by decide +kernel⟩
theorem nf_int (t : Int) : Nf t 1 := ⟨by decide, by simp⟩
theorem ok_number {f : Addr} {fd : FuncData} (F : FnP K "_law_number" s_number f fd) (F_law_draw : Fnc P w K mg base 1 "_law_draw" ["_law_pen_here", "_law_many"] spDraw) (F_law_pick : Fnc P w K mg base 2 "_law_pick" ["_law_pen_here", "_law_some"] spPick) :
    FnOk P w K mg base (L2.CX P w) 3 f fd ["_law_pen_here"] spNumber := by
  have nd := sc_number.nd
  refine F.ok sc_number (fun vs H Q E h => ?_) (fun cdv A outer s H vs Q E hr h => ?_)
  · obtain ⟨p, c, n, rfl, _⟩ := h
    rfl
  · obtain ⟨p, c, n, rfl, hP, hn, k⟩ := h
    refine ⟨_, PSs.nox (pss_cons (ps_set (i := 1) nd rfl (Or.inl rfl) (pe_lst (pa_cons (pe_tup (pa_cons pe_int (pa_cons pe_int pa_nil))) (pa_cons (pe_tup (pa_cons pe_int (pa_cons pe_int pa_nil))) (pa_cons (pe_tup (pa_cons (pe_un un_neg pe_int) (pa_cons pe_int pa_nil))) (pa_cons (pe_tup (pa_cons pe_int (pa_cons pe_int pa_nil))) (pa_cons (pe_tup (pa_cons (pe_un un_neg pe_int) (pa_cons pe_int pa_nil))) (pa_cons (pe_tup (pa_cons pe_int (pa_cons pe_int pa_nil))) (pa_cons (pe_tup (pa_cons (pe_op op_sub (pe_op op_pow pe_int pe_int) pe_int) (pa_cons pe_int pa_nil))) (pa_cons (pe_tup (pa_cons (pe_un un_neg (pe_op op_pow pe_int pe_int)) (pa_cons pe_int pa_nil))) (pa_cons (pe_tup (pa_cons pe_int (pa_cons (pe_op op_pow pe_int pe_int) pa_nil))) pa_nil)))))))))))
      (pss_one (ps_ret (oc F_law_pick (hr.mono (by decide)) (pa_cons (pv 0) (pa_cons (pe_op op_cat (pv 1) (pe_op op_rep (pe_lst (pa_cons (pe_tup (pa_cons (pe_op op_sub (oc F_law_draw (hr.mono (by decide)) (pa_cons (pv 0) (pa_cons pe_int pa_nil))) pe_int) (pa_cons pe_int pa_nil))) pa_nil)) pe_int)) pa_nil)))))), ?_⟩
    repeat (first | walk_at "y" | walk_at "drw")
    refine y_pickH (fun G x => ∃ a t b, x = .ref a ∧ G a = some (.tup [.int t, .int b]) ∧ Nf t b ∧ Sz 110 t ∧ Sz 110 b) (by walk_at "pen") (by omega) (by walk_at "np") (by walk_at "hp") (by simp) (by simp) ?_ ?_
    · refine allv_app ?_ (allv_rep (allv_cons ⟨_, _, _, rfl, by walk_at "hp", nf_int _, Nat.lt_of_le_of_lt (show _ ≤ 20 by omega) (by decide), by unfold Sz; decide⟩ allv_nil))
      repeat' (first | exact allv_nil | refine allv_cons ⟨_, _, _, rfl, by walk_at "hp", ⟨by decide +kernel, by decide +kernel⟩, by unfold Sz; decide +kernel, by unfold Sz; decide +kernel⟩ ?_)
    · rintro x H' ⟨a, t, b, rfl, ha, b0, st, sb⟩ P2 P3 k3
      exact k a t b H' (k3 _ _ (P2.ne_tup ha) ha) b0 st sb P3 (by walk_at "kpc")
theorem divq_nn {t b : Int} (h : 0 ≤ t) (hb : 0 < b) : 0 ≤ divq t b := by
  have h1 : (0 : Rat) ≤ ((t : Int) : Rat) := by
    have := Rat.intCast_le_intCast.mpr h
    simpa using this
  have h2 : (0 : Rat) < ((b : Int) : Rat) := Rat.intCast_pos.mpr hb
  refine Rat.not_lt.mp fun z => ?_
  unfold divq at z
  rw [Rat.div_lt_iff h2, Rat.zero_mul] at z
  exact absurd z (Rat.not_lt.mpr h1)
theorem nf_divq {t b : Int} (h : Nf t b) : (divq t b).num = t ∧ ((divq t b).den : Int) = b := by
  have hb : b ≠ 0 := by have := h.pos; omega
  have l := low_rat (t := t) (b := b) hb
  have s := low_self h
  exact ⟨l.1.symm.trans s.1, l.2.symm.trans s.2⟩
theorem divq_self (q : Rat) : divq q.num (q.den : Int) = q := (OZ.nd q).symm
def spPassed (K : PySem.W.Frag) : Sp := fun vs H Q _ => ∃ (p c : Addr) (n : Nat) (a : Addr) (q : Rat), vs = [.ref p, .ref a] ∧ PenAt H p c n ∧ n ≤ 90000 ∧ H a = some (.tup [.int q.num, .int (q.den : Int)]) ∧ SzQ 110 q ∧ ∀ v H', v ≠ .ref p → NumQ (CA K) H' v q → PenAt H' p c (n + 1) → Kp p H H' → Q v H'
abbrev s_passed : Stmt := topS 45
theorem sc_passed : FnScope ["_law_pen_here", "_law_number_here"] ["_law_pen_here", "_law_number_here"] (defScope s_passed) := ⟨rfl, rfl, rfl, by decide +kernel, rfl, by decide +kernel, by decide +kernel⟩
theorem ok_passed {f : Addr} {fd : FuncData} (F : FnP K "_law_passed" s_passed f fd) (T : TopA K mg) (O : AOps P w K mg base) (F_law_draw : Fnc P w K mg base 1 "_law_draw" ["_law_pen_here", "_law_many"] spDraw) :
    FnOk P w K mg base (L2.CX P w) 5 f fd ["_law_pen_here", "_law_number_here"] (spPassed K) := by
  have nd := sc_passed.nd
  have AF := O.AF
  refine F.ok sc_passed (fun vs H Q E h => ?_) (fun cdv A outer s H vs Q E hr h => ?_)
  · obtain ⟨p, c, n, a, q, rfl, _⟩ := h
    rfl
  · obtain ⟨p, c, n, a, q, rfl, hP, hn, ha, sq, k⟩ := h
    have bn : (q.den : Int) ≠ 0 := by have := q.den_pos; omega
    have st2 : Sz 8000 q.num := sq.1.mono (by decide)
    have sb2 : Sz 8000 (q.den : Int) := sq.2.mono (by decide)
    refine ⟨_, PSs.nox (pss_cons (ps_if (PW.pt (pw_and (pt_cmpR op_eq (pe_ix ix_tup (pv 1) pe_int (fun _ _ => rfl)) pe_int (nomark _)) (pw_and1 (pt_cmpR op_eq (oc F_law_draw (hr.mono (by decide)) (pa_cons (pv 0) (pa_cons pe_int pa_nil))) pe_int (nomark _)))))
        (pss_one (ps_ret (pe_ix ix_tup (pv 1) pe_int (fun _ _ => rfl))))
        pss_nil)
      (pss_one (ps_ret (mkAE O.MA (hr.mono (by decide)) passL (pa_cons (pe_ix ix_tup (pv 1) pe_int (fun _ _ => rfl)) (pa_cons (pe_ix ix_tup (pv 1) pe_int (fun _ _ => rfl)) pa_nil)))))), ?_⟩
    have ref_ne : ∀ z : Addr, z ≠ p → V.ref z ≠ V.ref p := fun z h e => h (by injection e)
    repeat walk_at "y"
    · have b1 : q.den = 1 := by rename_i h; injection h with h; omega
      walk_at "drw"
      rename_i H1 _ _ P1 k1
      have ha1 := k1 _ _ (hP.ne_tup ha) ha
      have e1 : q = (q.num : Rat) := Rat.ext (by simp) (by rw [b1]; simp)
      repeat walk_at "y"
      · exact k _ _ (fun z => by cases z) (.inl ⟨_, rfl, e1⟩) P1 (by walk_at "kpc")
      · repeat walk_at "y"
        rename_i aq
        rw [divq_self] at aq
        exact k _ _ (ref_ne _ (by walk_at "np")) (.am aq) (by walk_at "pen") (by walk_at "kpc")
    · repeat walk_at "y"
      rename_i aq
      rw [divq_self] at aq
      exact k _ _ (ref_ne _ (by walk_at "np")) (.am aq) (PenAt.mono (n := n) (by walk_at "pen") (by omega)) (by walk_at "kpc")
def kwT (t : Tl) : Str := match t.db with
  | some _ => "scale"
  | none => "ranker"
def RghQ (H : Hp) (db : Option Rat) (r : V) : Prop := (db = none ∧ r = .non) ∨ ∃ ra q, db = some q ∧ r = .ref ra ∧ H ra = some (.tup [.int q.num, .int (q.den : Int)])
def PlAt (H : Hp) (a : Addr) (t : Tl) : Prop := ∃ r, H a = some (.tup [.str (kwT t), .str t.nm, .str t.sn, r]) ∧ RghQ H t.db r
structure TlL (t : Tl) : Prop where
  nm : isNm t.nm = true
  sn : t.sn ∈ SEN
  db : ∀ q, t.db = some q → 0 ≤ q ∧ SzQ 110 q
theorem TlL.ok {t : Tl} (h : TlL t) : TlOk t := ⟨h.nm, h.sn, fun q e => ⟨(h.db q e).1, (h.db q e).2.mono (by decide)⟩⟩
theorem RghQ.tk {H H' : Hp} {db : Option Rat} {r : V} (k : ∀ a xs, H a = some (.tup xs) → H' a = some (.tup xs)) (h : RghQ H db r) : RghQ H' db r := by
  rcases h with h | ⟨ra, q, e, er, h⟩
  · exact .inl h
  · exact .inr ⟨ra, q, e, er, k _ _ h⟩
theorem PlAt.tk {H H' : Hp} {a : Addr} {t : Tl} (k : ∀ a xs, H a = some (.tup xs) → H' a = some (.tup xs)) (h : PlAt H a t) : PlAt H' a t := by
  obtain ⟨r, h1, h2⟩ := h
  exact ⟨r, k _ _ h1, h2.tk k⟩
def spPlain : Sp := fun vs H Q _ => ∃ (p c : Addr) (n : Nat), vs = [.ref p] ∧ PenAt H p c n ∧ n ≤ 80000 ∧ ∀ (a : Addr) (t : Tl) H', TlL t → PlAt H' a t → PenAt H' p c (n + 5) → Kp p H H' → Q (.ref a) H'
abbrev s_plain : Stmt := topS 46
theorem sc_plain : FnScope ["_law_pen_here", "_law_title", "_law_course", "_law_rough"] ["_law_pen_here"] (defScope s_plain) := ⟨rfl, rfl, rfl, by decide +kernel, rfl, by decide +kernel, by decide +kernel⟩
theorem ok_plain {f : Addr} {fd : FuncData} (F : FnP K "_law_plain" s_plain f fd) (T : TopA K mg) (F_law_draw : Fnc P w K mg base 1 "_law_draw" ["_law_pen_here", "_law_many"] spDraw) (F_law_pick : Fnc P w K mg base 2 "_law_pick" ["_law_pen_here", "_law_some"] spPick) (F_law_number : Fnc P w K mg base 3 "_law_number" ["_law_pen_here"] spNumber) :
    FnOk P w K mg base (L2.CX P w) 4 f fd ["_law_pen_here"] spPlain := by
  have nd := sc_plain.nd
  refine F.ok sc_plain (fun vs H Q E h => ?_) (fun cdv A outer s H vs Q E hr h => ?_)
  · obtain ⟨p, c, n, rfl, _⟩ := h
    rfl
  · obtain ⟨p, c, n, rfl, hP, hn, k⟩ := h
    refine ⟨_, PSs.nox (pss_cons (ps_set (i := 1) nd rfl (Or.inl rfl) (oc F_law_pick (hr.mono (by decide)) (pa_cons (pv 0) (pa_cons (pe_lst (pa_cons pe_str (pa_cons pe_str (pa_cons pe_str (pa_cons pe_str (pa_cons pe_str pa_nil)))))) pa_nil))))
      (pss_cons (ps_set (i := 2) nd rfl (Or.inl rfl) (oc F_law_pick (hr.mono (by decide)) (pa_cons (pv 0) (pa_cons (pe_lst (pa_cons pe_str (pa_cons pe_str (pa_cons pe_str pa_nil)))) pa_nil))))
      (pss_cons (ps_set (i := 3) nd rfl (Or.inl rfl) (oc F_law_number (hr.mono (by decide)) (pa_cons (pv 0) pa_nil)))
      (pss_cons (ps_if (pt_cmpR op_eq (oc F_law_draw (hr.mono (by decide)) (pa_cons (pv 0) (pa_cons pe_int pa_nil))) pe_int (nomark _))
        (pss_one (ps_ret (pe_tup (pa_cons pe_str (pa_cons (pv 1) (pa_cons (pv 2) (pa_cons pe_non pa_nil)))))))
        pss_nil)
      (pss_one (ps_ret (pe_tup (pa_cons pe_str (pa_cons (pv 1) (pa_cons (pv 2) (pa_cons (pe_tup (pa_cons (pe_callB c_abs (by rfl) T.n_abs (by decide +kernel) (pa_cons (pe_ix ix_tup (pv 3) pe_int (fun _ _ => rfl)) pa_nil)) (pa_cons (pe_ix ix_tup (pv 3) pe_int (fun _ _ => rfl)) pa_nil))) pa_nil))))))))))), ?_⟩
    repeat walk_at "y"
    refine y_pickH (fun G x => ∃ z, x = .str z ∧ isNm z = true) (by walk_at "pen") (by omega) (by walk_at "np") (by walk_at "hp") (by simp) (by simp) ?_ ?_
    · repeat' (first | exact allv_nil | refine allv_cons ⟨_, rfl, by decide +kernel⟩ ?_)
    rintro x H1 ⟨zn, rfl, hzn⟩ P0 P1 k1
    repeat walk_at "y"
    refine y_pickH (fun G x => ∃ z, x = .str z ∧ z ∈ SEN) (by walk_at "pen") (by omega) (by walk_at "np") (by walk_at "hp") (by simp) (by simp) ?_ ?_
    · repeat' (first | exact allv_nil | refine allv_cons ⟨_, rfl, by decide +kernel⟩ ?_)
    rintro x H2 ⟨zs, rfl, hzs⟩ P2 P3 k3
    repeat walk_at "y"
    refine ⟨p, c, _, rfl, by walk_at "pen", by omega, fun ra t b H4 h4 nf st sb P4 k4 => ?_⟩
    repeat walk_at "y"
    walk_at "drw"
    rename_i P5 k5
    repeat walk_at "y"
    · rename_i a5 H6 n6 s6 o6
      exact k a5 ⟨zn, zs, none⟩ H6 ⟨hzn, hzs, fun q e => by cases e⟩ ⟨_, o6, .inl ⟨rfl, rfl⟩⟩ ((by walk_at "pen" : PenAt H6 p c _).mono (by omega)) (by walk_at "kpc")
    · have h5 := k5 _ _ (P4.ne_tup h4) h4
      repeat walk_at "y"
      rename_i a6 H6 n6 s6 o6 a7 H7 n7 s7 o7
      have nf2 : Nf (if t < 0 then -t else t) b := by
        split
        · exact ⟨nf.pos, by rw [Int.neg_gcd]; exact nf.gcd⟩
        · exact nf
      have st2 : Sz 110 (if t < 0 then -t else t) := by
        split
        · exact st.neg
        · exact st
      have t0 : 0 ≤ (if t < 0 then -t else t) := by split <;> omega
      have e := nf_divq nf2
      refine k a7 ⟨zn, zs, some (divq (if t < 0 then -t else t) b)⟩ H7 ⟨hzn, hzs, fun q e2 => ?_⟩ ⟨_, o7, .inr ⟨a6, _, rfl, rfl, ?_⟩⟩ ((by walk_at "pen" : PenAt H7 p c _).mono (by omega)) (by walk_at "kpc")
      · cases e2
        exact ⟨divq_nn t0 nf.pos, by rw [SzQ, e.1, e.2]; exact ⟨st2, sb⟩⟩
      · rw [e.1, e.2]
        exact s7 _ _ o6
abbrev s_made : Stmt := topS 47
theorem sc_made : FnScope ["_law_plain_here"] ["_law_plain_here"] (defScope s_made) := ⟨rfl, rfl, rfl, by decide +kernel, rfl, by decide +kernel, by decide +kernel⟩
def spMade (K : PySem.W.Frag) : Sp := fun vs H Q _ => ∃ (a : Addr) (t : Tl), vs = [.ref a] ∧ PlAt H a t ∧ TlL t ∧ ∀ b H', H b = none → Same H H' → TlAt K H' b t → Q (.ref b) H'
theorem ok_made {f : Addr} {fd : FuncData} (F : FnP K "_law_made" s_made f fd) (T : TopT K mg) (O : AOps P w K mg base) (TO : TlOps P w K mg base) : FnOk P w K mg base (L2.CX P w) 9 f fd ["_law_plain_here"] (spMade K) := by
  have nd := sc_made.nd
  have AF := O.AF
  refine F.ok sc_made (fun vs H Q E h => ?_) (fun cdv A outer s H vs Q E hr h => ?_)
  · obtain ⟨a, t, rfl, _⟩ := h
    rfl
  · obtain ⟨a, t, rfl, ha, ok, k⟩ := h
    refine ⟨_, PSs.nox (pss_cons (ps_if (pt_cmpR o_isN (pe_ix ix_tup (pv 0) pe_int (fun _ _ => rfl)) pe_non (nomark _))
        (pss_one (ps_ret (mkC TO.K_Ranker_2 (hr.mono (by decide)) passL (pa_cons (pe_ix ix_tup (pv 0) pe_int (fun _ _ => rfl)) (pa_cons (pe_ix ix_tup (pv 0) pe_int (fun _ _ => rfl)) pa_nil)))))
        pss_nil)
      (pss_one (ps_ret (mkC TO.K_Scale_3 (hr.mono (by decide)) passL (pa_cons (pe_ix ix_tup (pv 0) pe_int (fun _ _ => rfl)) (pa_cons (pe_ix ix_tup (pv 0) pe_int (fun _ _ => rfl)) (pa_cons (mkAE O.MA (hr.mono (by decide)) passL (pa_cons (pe_ix ix_tup (pe_ix ix_tup (pv 0) pe_int (fun _ _ => rfl)) pe_int (fun _ _ => rfl)) (pa_cons (pe_ix ix_tup (pe_ix ix_tup (pv 0) pe_int (fun _ _ => rfl)) pe_int (fun _ _ => rfl)) pa_nil))) pa_nil))))))), ?_⟩
    obtain ⟨tn, ts, td⟩ := t
    obtain ⟨r, ha, hr2⟩ := ha
    rcases hr2 with ⟨e, rfl⟩ | ⟨ra, q, e, rfl, hra⟩
    · dsimp only at e
      subst e
      repeat walk_at "y"
      exact newR_init (newR_ok ok.nm ok.sn k)
    · dsimp only at e
      subst e
      have bn : (q.den : Int) ≠ 0 := by have := q.den_pos; omega
      have sq := (ok.db q rfl).2
      have st2 : Sz 8000 q.num := sq.1.mono (by decide)
      have sb2 : Sz 8000 (q.den : Int) := sq.2.mono (by decide)
      repeat walk_at "y"
      rename_i d1 H1 n1 s1 a1
      rw [divq_self] at a1
      exact newS_init (newS_ok ok.nm ok.sn (.inr ⟨d1, rfl, a1⟩) (sq.mono (by decide)) (ok.db q rfl).1 fun b H' n2 s2 t2 => k b H' (s1.free n2) (s1.trans s2) t2)
abbrev s_is_ : Stmt := topS 48
theorem sc_is_ : FnScope ["_law_device", "_law_plain_here"] ["_law_device", "_law_plain_here"] (defScope s_is_) := ⟨rfl, rfl, rfl, by decide +kernel, rfl, by decide +kernel, by decide +kernel⟩
def spIs (K : PySem.W.Frag) : Sp := fun vs H Q _ => ∃ (a b : Addr) (t : Tl), vs = [.ref a, .ref b] ∧ TlAt K H a t ∧ PlAt H b t ∧ TlL t ∧ ∀ H', Same H H' → Q (.bl true) H'
theorem ok_is {f : Addr} {fd : FuncData} (F : FnP K "_law_is" s_is_ f fd) (T : TopT K mg) (TF : TlF K) (O : AOps P w K mg base) : FnOk P w K mg base (L2.CX P w) 6 f fd ["_law_device", "_law_plain_here"] (spIs K) := by
  have nd := sc_is_.nd
  have AF := O.AF
  have A := AmF.c AF
  refine F.ok sc_is_ (fun vs H Q E h => ?_) (fun cdv A' outer s H vs Q E hr h => ?_)
  · obtain ⟨a, b, t, rfl, _⟩ := h
    rfl
  · obtain ⟨a, b, t, rfl, ha, hb, ok, k⟩ := h
    have hu64 := hr.units
    refine ⟨_, PSs.nox (pss_cons (ps_if (PW.pt (pw_or (pt_cmpR op_ne (pe_callB c_isA (by rfl) T.n_isinstance (by decide +kernel) (pa_cons (pv 0) (pa_cons (og_ref T.g_Scale) pa_nil))) (pe_cmpR op_eq (pe_ix ix_tup (pv 1) pe_int (fun _ _ => rfl)) pe_str (nomark _)) (nomark _)) (pw_or1 (pt_cmpR op_ne (pe_callB c_isA (by rfl) T.n_isinstance (by decide +kernel) (pa_cons (pv 0) (pa_cons (og_ref T.g_Ranker) pa_nil))) (pe_cmpR op_eq (pe_ix ix_tup (pv 1) pe_int (fun _ _ => rfl)) pe_str (nomark _)) (nomark _)))))
        (pss_one (ps_ret pe_bl))
        pss_nil)
      (pss_cons (ps_if (pt_cmpR (op_neD hu64) (pe_lst (pa_cons (pe_att (pv 0)) (pa_cons (pe_att (pv 0)) pa_nil))) (pe_lst (pa_cons (pe_ix ix_tup (pv 1) pe_int (fun _ _ => rfl)) (pa_cons (pe_ix ix_tup (pv 1) pe_int (fun _ _ => rfl)) pa_nil))) (nomark _))
        (pss_one (ps_ret pe_bl))
        pss_nil)
      (pss_one (ps_ret (pe_or (pe_cmpR o_isN (pe_ix ix_tup (pv 1) pe_int (fun _ _ => rfl)) pe_non (nomark _)) (pe_one (pe_cmpR (aC_eq O.AF O.M_eq (hr.mono (by decide)) passL) (pe_att (pv 0)) (mkAE O.MA (hr.mono (by decide)) passL (pa_cons (pe_ix ix_tup (pe_ix ix_tup (pv 1) pe_int (fun _ _ => rfl)) pe_int (fun _ _ => rfl)) (pa_cons (pe_ix ix_tup (pe_ix ix_tup (pv 1) pe_int (fun _ _ => rfl)) pe_int (fun _ _ => rfl)) pa_nil))) (nomark _)))))))), ?_⟩
    obtain ⟨tn, ts, td⟩ := t
    obtain ⟨r, hb, hr2⟩ := hb
    have o2 : ∀ z ∈ ([tn, ts] : List Str), PyData.strOk z = true := by
      intro z hz
      simp only [List.mem_cons, List.not_mem_nil, or_false] at hz
      rcases hz with rfl | rfl
      · exact nm_ok ok.nm
      · exact sn_ok ok.sn
    rcases hr2 with ⟨e, rfl⟩ | ⟨ra, q, e, rfl, hra⟩
    · dsimp only at e
      subst e
      have ha' := ha
      obtain ⟨dx, hi⟩ := ha'
      repeat walk_at "y"
      refine y_isX (TF.or.ty hi) TF.k4 ?_
      repeat walk_at "y"
      refine y_isX (TF.or.ty hi) TF.k5 ?_
      repeat walk_at "y"
      refine y_atN TF ha ?_
      repeat walk_at "y"
      refine y_atS TF ha ?_
      repeat walk_at "y"
      refine y_neDs _ _ o2 o2 (by walk_at "hp") (by walk_at "hp") ?_
      repeat walk_at "y"
      exact k _ (by walk_at "same")
    · dsimp only at e
      subst e
      have ha' := ha
      obtain ⟨dx, d, hi, hd⟩ := ha'
      have bn : (q.den : Int) ≠ 0 := by have := q.den_pos; omega
      have sq := (ok.db q rfl).2
      have st2 : Sz 8000 q.num := sq.1.mono (by decide)
      have sb2 : Sz 8000 (q.den : Int) := sq.2.mono (by decide)
      repeat walk_at "y"
      refine y_isX (TF.os.ty hi) TF.k1 ?_
      repeat walk_at "y"
      refine y_isX (TF.os.ty hi) TF.k2 ?_
      repeat walk_at "y"
      refine y_atN TF ha ?_
      repeat walk_at "y"
      refine y_atS TF ha ?_
      repeat walk_at "y"
      refine y_neDs _ _ o2 o2 (by walk_at "hp") (by walk_at "hp") ?_
      repeat walk_at "y"
      have hi2 : ∀ G, Same H G → G a = some (.ins (CSc K) dx [("name", .str tn), ("sense", .str ts), ("doubt", .ref d)]) := fun G s => s _ _ hi
      refine y_attI (hi2 _ (by walk_at "same")) TF.os.cls (TF.ns "doubt" (by decide)) rfl ?_
      repeat walk_at "y"
      rw [divq_self, decide_eq_true rfl]
      exact k _ (by walk_at "same")
end
end LW
set_option maxRecDepth 100000
namespace LW
open PySem PySem.Spec PyProof.Rows L2 OZ LamX
def Trk (H : Hp) (v : V) : Prop := ∀ a, v = .ref a → ∃ o, H a = some o ∧ ∀ ps, o ≠ .tbl ps
theorem Trk.vk {H H' : Hp} {v : V} (k : VK1 v H H') (h : Trk H v) : Trk H' v := fun a e => by
  obtain ⟨o, h1, h2⟩ := h a e
  exact ⟨o, k a o e h1 h2, h2⟩
theorem Trk.ne {H : Hp} {v : V} {l : Addr} (h : Trk H v) (n : H l = none) : v ≠ .ref l := fun e => by
  obtain ⟨o, h1, _⟩ := h l e
  rw [n] at h1; cases h1
structure OV (K : PySem.W.Frag) (G : Hp) (p : Addr) (v : V) : Prop where
  trk : Trk G v
  np : v ≠ .ref p
  kd : KdV K G v
  ty : ∃ T ∈ bTypes, TyX K G v (.type T) ∧ (T = "str" → ∃ z, v = .str z)
section
variable {K : PySem.W.Frag} {G G' : Hp} {p a : Addr} {v : V} {xs : List V}
theorem OV.vk (k : VK1 v G G') (h : OV K G p v) : OV K G' p v := by
  obtain ⟨T, h1, h2, h3⟩ := h.ty
  exact ⟨h.trk.vk k, h.np, h.kd.vk k, T, h1, tyX_vk k h2, h3⟩
theorem OV.non : OV K G p .non := ⟨fun a z => by (cases z), fun z => by (cases z), .none, "NoneType", by decide, .base .non, fun z => absurd z (by decide)⟩
theorem OV.bl {b : Bool} : OV K G p (.bl b) := ⟨fun a z => by (cases z), fun z => by (cases z), .bl, "bool", by decide, .base (.bl b), fun z => absurd z (by decide)⟩
theorem OV.int {i : Int} : OV K G p (.int i) := ⟨fun a z => by (cases z), fun z => by (cases z), .int i, "int", by decide, .base (.int i), fun z => absurd z (by decide)⟩
theorem OV.str {z : Str} : OV K G p (.str z) := ⟨fun a z => by (cases z), fun z => by (cases z), .str, "str", by decide, .base (.str z), fun _ => ⟨z, rfl⟩⟩
theorem trk_of {o : HO} (h : G a = some o) (n : ∀ ps, o ≠ .tbl ps) : Trk G (.ref a) := fun b e => by injection e with e; rw [← e]; exact ⟨_, h, n⟩
theorem OV.tup (h : G a = some (.tup xs)) (n : a ≠ p) : OV K G p (.ref a) := ⟨trk_of h (by intro ps z; cases z), fun z => n (by injection z), .tup h, "tuple", by decide, .base (.tup h), fun z => absurd z (by decide)⟩
theorem OV.lst (h : G a = some (.lst xs)) (n : a ≠ p) : OV K G p (.ref a) := ⟨trk_of h (by intro ps z; cases z), fun z => n (by injection z), .lst h, "list", by decide, .base (.lst h), fun z => absurd z (by decide)⟩
theorem OV.dK {kvs : List (Key × V)} (h : G a = some (.dK kvs)) (n : a ≠ p) : OV K G p (.ref a) := ⟨trk_of h (by intro ps z; cases z), fun z => n (by injection z), .dK h, "dict", by decide, .base (.dK h), fun z => absurd z (by decide)⟩
theorem kit_str {T : String} (h : T ∈ bTypes) (n : T ≠ "str") : PySem.W.kitOne K (.type T) (.type "str") = some false := by
  simp only [List.mem_cons, List.not_mem_nil, or_false] at h
  rcases h with rfl | rfl | rfl | rfl | rfl | rfl | rfl
  · exact kit_ty (by decide +kernel)
  · exact kit_ty (by decide +kernel)
  · exact kit_ty (by decide +kernel)
  · exact absurd rfl n
  · exact kit_ty (by decide +kernel)
  · exact kit_ty (by decide +kernel)
  · exact kit_ty (by decide +kernel)
theorem OV.strV (h : OV K G p v) (hz : ∀ z, v = .str z → z.length ≤ 10000) : StrV K G v := by
  obtain ⟨T, h1, h2, h3⟩ := h.ty
  by_cases e : T = "str"
  · obtain ⟨z, rfl⟩ := h3 e
    exact .str (hz z rfl)
  · refine ⟨_, false, h2, kit_str h1 e, .inr ⟨rfl, fun z ez => ?_⟩⟩
    subst ez
    have tz : T = "str" := by
      have := h2
      cases this with
      | base b => cases b; rfl
    exact e tz
theorem OV.noNum (AF : AmF K (CA K)) (h : OV K G p v) (hi : isIV v = false) : NoNum K G v := by
  obtain ⟨T, h1, h2, _⟩ := h.ty
  exact ⟨h.kd, hi, _, h2, AF.kt T h1⟩
end
def OddD (K : PySem.W.Frag) (H : Hp) (v : V) : Prop := (∃ q, NumQ (CA K) H v q ∧ SzQ 1800 q ∧ q < 0) ∨ NoNum K H v
theorem OddD.vk {K : PySem.W.Frag} {H H' : Hp} {v : V} (k : VK1 v H H') (h : OddD K H v) : OddD K H' v := by
  rcases h with ⟨q, h1, h2⟩ | ⟨h1, h2, t, ty, kt⟩
  · exact .inl ⟨q, h1.vk k, h2⟩
  · exact .inr ⟨h1.vk k, h2, t, tyX_vk k ty, kt⟩
theorem divq_neg {t b : Int} (h : t < 0) (hb : 0 < b) : divq t b < 0 := by
  have h1 : ((t : Int) : Rat) < 0 := by
    have := Rat.intCast_lt_intCast.mpr h
    simpa using this
  have h2 : (0 : Rat) < ((b : Int) : Rat) := Rat.intCast_pos.mpr hb
  unfold divq
  rw [Rat.div_lt_iff h2]
  simpa using h1
end LW
set_option maxRecDepth 100000
namespace LW
open PySem PySem.Spec PyProof.Rows L2 OZ LamX
local macro_rules | `(tactic| walk_at "szx1") => `(tactic| first
  | with_reducible assumption
  | exact sz_i64 (n := 64) (by decide)
  | (refine' Sz.add ?sx ?sy; (case sx => walk_at "szx1"); (case sy => walk_at "szx1"))
  | (refine' Sz.sub ?sx ?sy; (case sx => walk_at "szx1"); (case sy => walk_at "szx1"))
  | (refine' Sz.mul ?sx ?sy; (case sx => walk_at "szx1"); (case sy => walk_at "szx1"))
  | (refine' Sz.neg ?sx; (case sx => walk_at "szx1"))
  | (refine' Sz.iabs ?sx; (case sx => walk_at "szx1"))
  | (refine' sz_fdiv ?sx ?sy; (case sy => walk_at "nz"); (case sx => walk_at "szx1")))
local macro_rules | `(tactic| walk_at "szx") => `(tactic| (refine' Sz.mono ?szk ?szl; (case szk => walk_at "szx1"); (case szl => exact Nat.le_of_ble_eq_true rfl)))
local macro_rules | `(tactic| walk_at "aq") => `(tactic| first
  | assumption
  | (refine' AmQ.same ?aqs ?aqk; (case aqs => assumption); (case aqk => walk_at "aq"))
  | (refine' AmQ.extN ?aqs ?aqk; (case aqs => assumption); (case aqk => walk_at "aq"))
  | (refine' AmQ.kpl ?aqs ?aql ?aqk; (case aqs => assumption); (case aql => walk_at "hp"); (case aqk => walk_at "aq"))
  | (refine' AmQ.kp ?aql ?aqs ?aqk; (case aqs => assumption); (case aql => walk_at "pen"); (case aqk => walk_at "aq")))
local macro_rules | `(tactic| walk_at "nq") => `(tactic| first
  | assumption
  | exact NumQ.int
  | (refine' NumQ.am ?nqk; (case nqk => walk_at "aq"))
  | (refine' NumQ.same ?nqs ?nqk; (case nqs => assumption); (case nqk => walk_at "nq"))
  | (refine' NumQ.extN ?nqs ?nqk; (case nqs => assumption); (case nqk => walk_at "nq"))
  | (refine' NumQ.kpl ?nqs ?nql ?nqk; (case nqs => assumption); (case nql => walk_at "hp"); (case nqk => walk_at "nq")))
local macro_rules | `(tactic| walk_at "sz1") => `(tactic| first
  | with_reducible assumption
  | (refine' SzQ.add ?sx ?sy; (case sx => walk_at "sz1"); (case sy => walk_at "sz1"))
  | (refine' SzQ.sub ?sx ?sy; (case sx => walk_at "sz1"); (case sy => walk_at "sz1"))
  | (refine' SzQ.mul ?sx ?sy; (case sx => walk_at "sz1"); (case sy => walk_at "sz1"))
  | (refine' SzQ.div ?sx ?sy ?sz; (case sz => assumption); (case sx => walk_at "sz1"); (case sy => walk_at "sz1"))
  | (refine' SzQ.rmod ?sx ?sy ?sz; (case sz => assumption); (case sx => walk_at "sz1"); (case sy => walk_at "sz1"))
  | (refine' SzQ.neg ?sx; (case sx => walk_at "sz1"))
  | (refine' SzQ.qabs ?sx; (case sx => walk_at "sz1"))
  | (refine' SzQ.int ?sx ?sy; (case sx => with_reducible assumption); (case sy => exact Nat.le_of_ble_eq_true rfl))
  | exact sz_lit (by decide))
local macro_rules | `(tactic| walk_at "sz") => `(tactic| (refine' SzQ.mono ?szk ?szl; (case szk => walk_at "sz1"); (case szl => exact Nat.le_of_ble_eq_true rfl)))
local macro_rules | `(tactic| walk_at "nz") => `(tactic| first
  | assumption
  | decide
  | omega
  | exact intq0 (by decide))
local macro_rules | `(tactic| walk_at "szi") => `(tactic| first
  | assumption
  | exact Sz.mono (by with_reducible assumption) (Nat.le_of_ble_eq_true rfl)
  | exact sz_i64 (by decide))
local macro_rules | `(tactic| walk_at "ex") => `(tactic| first
  | assumption
  | (refine ExAt.same (by assumption) ?_; walk_at "ex"))
local macro_rules | `(tactic| walk_at "same") => `(tactic| first
  | assumption
  | exact same0
  | (refine Same.trans ?_ (by assumption); walk_at "same"))
local macro_rules | `(tactic| walk_at "tabs") => `(tactic| first
  | assumption
  | (refine' OZ.Tabs.same ?tbs ?tbk; (case tbs => assumption); (case tbk => walk_at "tabs"))
  | (refine' OZ.Tabs.kpl ?tbs ?tbl ?tbk; (case tbs => assumption); (case tbl => walk_at "hp"); (case tbk => walk_at "tabs"))
  | (refine' OZ.Tabs.kp ?tbl ?tbs ?tbk; (case tbs => assumption); (case tbl => walk_at "pen"); (case tbk => walk_at "tabs")))
local macro_rules | `(tactic| walk_at "ext") => `(tactic| first
  | assumption
  | exact LamX.ExtN.refl _
  | exact LamX.ExtN.of (by assumption)
  | (refine LamX.ExtN.trans ?_ (by assumption); walk_at "ext")
  | (refine LamX.ExtN.trans ?_ (LamX.ExtN.of (by assumption)); walk_at "ext"))
local macro_rules | `(tactic| walk_at "pen") => `(tactic| first
  | assumption
  | (refine' PenAt.same ?pek ?pes; (case pes => assumption); (case pek => walk_at "pen"))
  | (refine' PenAt.extN ?pek ?pes; (case pes => assumption); (case pek => walk_at "pen")))
local macro_rules | `(tactic| walk_at "kn") => `(tactic| first
  | assumption
  | exact KN.refl
  | (refine KN.trans ?_ (KN.same (by assumption)); walk_at "kn")
  | (refine KN.trans ?_ (KN.kp (by assumption)); walk_at "kn")
  | (refine KN.trans ?_ (KN.ext (by assumption)); walk_at "kn")
  | (refine KN.trans ?_ (by assumption); walk_at "kn"))
local macro_rules | `(tactic| walk_at "free") => `(tactic| first
  | assumption
  | (refine sfree (by assumption) ?_; walk_at "free"))
local macro_rules | `(tactic| walk_at "hp") => `(tactic| first
  | assumption
  | exact upd_same
  | (refine sat (by assumption) ?_; walk_at "hp")
  | (refine' esat ?ess ?esk ?esn; (case ess => assumption); (case esk => walk_at "hp"); (case esn => (intro _ zz; cases zz)))
  | (refine' kpne ?ess ?esn ?esk; (case ess => assumption); (case esn => (first | assumption | exact Ne.symm (by assumption))); (case esk => walk_at "hp"))
  | (refine' kpsat ?ess ?esl ?esk ?esn; (case ess => assumption); (case esl => walk_at "hp"); (case esk => walk_at "hp"); (case esn => (intro _ zz; cases zz)))
  | (refine upd_old ?_ ?_; (first | assumption | exact free_upd (by assumption)); walk_at "hp")
  | (refine upd_oth ?_ ?_; (first | assumption | exact Ne.symm (by assumption)); walk_at "hp"))
local macro_rules | `(tactic| walk_at "side") => `(tactic| first
  | assumption
  | decide
  | omega
  | exact ⟨by omega, by omega, by omega⟩
  | exact Or.inl ⟨by omega, by omega⟩
  | exact Or.inr ⟨by omega, by omega⟩
  | (show (_ : Int) ≠ 0; omega)
  | (refine' Sz.mulW ?ma ?mb ?mc; (case ma => walk_at "szx1"); (case mb => walk_at "szx1"); (case mc => exact Nat.le_of_ble_eq_true rfl))
  | (refine' Sz.divN ?ma ?mb ?mc; (case ma => walk_at "szx1"); (case mb => walk_at "nz"); (case mc => exact Nat.le_of_ble_eq_true rfl))
  | exact wide_div (b := 64) (by omega) (by omega) (by decide) (by decide)
  | exact wide_div (b := 4000) (by assumption) (by assumption) (by decide) (by decide))
local macro_rules | `(tactic| walk_at "y") => `(tactic| first
  | ((with_reducible refine y_var ?_); refine ⟨_, rfl, ?_⟩)
  | with_reducible refine y_c ?_
  | with_reducible refine y_op ?_
  | with_reducible refine y_cb ?_
  | with_reducible refine y_cons ?_
  | with_reducible refine y_nil ?_
  | with_reducible refine y_seq ?_
  | with_reducible refine y_asg ?_
  | with_reducible refine x_gn ?_
  | ((with_reducible refine' y_nx ?k1 ?k2); (case k1 => (simp only [L2.start, List.length_cons, List.length_nil, List.map_cons, List.map_nil, List.set_cons_succ, List.set_cons_zero, List.cons_append, List.nil_append, List.replicate]; rfl)))
  | with_reducible refine y_gsub ?_
  | with_reducible refine y_ret ?_
  | with_reducible refine y_drop ?_
  | with_reducible refine y_next ?_
  | with_reducible refine y_ifS ?_
  | with_reducible refine y_test ?_
  | with_reducible refine y_B ?_
  | with_reducible refine y_ex ?_
  | with_reducible refine y_not ?_
  | with_reducible refine y_and ?_
  | with_reducible refine y_or ?_
  | with_reducible refine y_notV ?_
  | with_reducible refine y_andV ?_
  | with_reducible refine y_orV ?_
  | with_reducible refine y_ifE ?_
  | with_reducible refine y_un ?_
  | with_reducible refine x_par ?_
  | with_reducible refine y_ex2 ?_
  | with_reducible refine y_call ?_
  | with_reducible refine y_callS ?_
  | with_reducible refine y_I0 ?_
  | ((with_reducible refine y_I ?_ ?_); (walk_at "side"))
  | with_reducible refine y_U ?_
  | ((with_reducible refine y_eq ?_ ?_); (exact rfl))
  | ((with_reducible refine y_ne ?_ ?_); (exact rfl))
  | ((with_reducible refine' y_ixL ?k1 ?k2 ?k3); (case k1 => walk_at "hp"); (case k2 => (first | assumption | exact rfl)))
  | ((with_reducible refine' y_ixT ?k1 ?k2 ?k3); (case k1 => walk_at "hp"); (case k2 => (first | assumption | exact rfl)))
  | ((with_reducible refine' y_setL ?k1 ?k2 ?k3); (case k1 => walk_at "hp"); (case k2 => (first | assumption | exact rfl)))
  | with_reducible refine y_int ?_
  | with_reducible refine y_intB ?_
  | with_reducible refine y_abs ?_
  | ((with_reducible refine' y_lenL ?k1 ?k3); (case k1 => walk_at "hp"))
  | ((with_reducible refine' y_lenT ?k1 ?k3); (case k1 => walk_at "hp"))
  | ((with_reducible refine y_lenS ?_ ?_); (walk_at "side"))
  | with_reducible refine y_isN ?_
  | with_reducible refine y_notN ?_
  | ((with_reducible refine y_addS ?_ ?_); (walk_at "side"))
  | with_reducible refine y_inC ?_
  | with_reducible refine y_notInC ?_
  | with_reducible refine y_sl ?_
  | with_reducible refine y_part ?_
  | with_reducible refine y_nopart ?_
  | with_reducible refine y_exI ?_
  | ((with_reducible refine y_slS ?_ ?_); (walk_at "side"))
  | with_reducible refine z_lst ?_
  | with_reducible refine z_tup ?_
  | ((with_reducible refine z_newL ?_ ?_); (exact Nat.le_of_ble_eq_true rfl); (intro pp HH npp spp opp))
  | ((with_reducible refine z_newT ?_ ?_); (exact Nat.le_of_ble_eq_true rfl); (intro pp HH npp spp opp))
  | ((with_reducible refine' y_chI ?k1 ?k2); (case k1 => exact rfl))
  | with_reducible refine y_chain ?_
  | with_reducible refine y_yes ?_
  | with_reducible refine y_att ?_
  | ((with_reducible refine y_disp ?_ ?_); (exact Nat.le_of_ble_eq_true rfl); (intro pp hpp))
  | ((with_reducible refine' y_gtup ?k1 ?k2 ?k3); (case k1 => walk_at "hp"); (case k2 => exact rfl))
  | with_reducible refine y_gcons ?_
  | with_reducible refine y_gnil ?_
  | with_reducible refine y_mkO ?_
  | with_reducible refine y_callKw ?_
  | with_reducible refine y_mkA ?_
  | with_reducible refine y_sm ?_
  | with_reducible refine y_smK ?_
  | with_reducible refine y_cut0 ?_
  | with_reducible refine y_methK ?_
  | ((with_reducible refine' y_lm ?k1 ?k2); (case k1 => walk_at "tabs"); (intro HH ee tt))
  | ((with_reducible refine' z_rep ?k1 ?k2 ?k3 ?k4 ?k5); (case k1 => walk_at "hp"); (case k2 => decide); (case k3 => decide); (case k4 => exact Nat.le_of_ble_eq_true rfl); (intro pp HH npp spp opp))
  | ((with_reducible refine z_rev (by decide) (by walk_at "hp") ?_); (intro pp HH npp spp opp))
  | with_reducible refine y_rfl ?_
  | with_reducible refine y_mkA1 ?_
  | ((with_reducible refine' y_aqT ?k0 ?k1 ?k2); (case k0 => assumption); (case k1 => walk_at "aq"))
  | ((with_reducible refine' y_aqB ?k0 ?k1 ?k2); (case k0 => assumption); (case k1 => walk_at "aq"))
  | ((with_reducible refine' y_bin ?k1 ?k2 ?k3 ?k4 ?k5); (case k1 => walk_at "aq"); (case k2 => walk_at "nq"); (case k3 => walk_at "sz"); (case k4 => walk_at "sz"); (intro pp HH npp spp opp))
  | ((with_reducible refine' y_rbin ?k1 ?k3 ?k4 ?k5); (case k1 => walk_at "aq"); (case k3 => walk_at "sz"); (case k4 => walk_at "sz"); (intro pp HH npp spp opp))
  | ((with_reducible refine' y_binM ?k1 ?k2 ?k3 ?k4 ?k5); (case k1 => walk_at "aq"); (case k2 => walk_at "nq"); (case k3 => walk_at "sz"); (case k4 => walk_at "sz"); (intro pp HH npp spp opp))
  | ((with_reducible refine' y_rbinM ?k1 ?k3 ?k4 ?k5); (case k1 => walk_at "aq"); (case k3 => walk_at "sz"); (case k4 => walk_at "sz"); (intro pp HH npp spp opp))
  | ((with_reducible refine' y_binD ?k1 ?k2 ?k3 ?k4 ?k5 ?k6); (case k1 => walk_at "aq"); (case k2 => walk_at "nq"); (case k3 => walk_at "sz"); (case k4 => walk_at "sz"); (case k5 => walk_at "nz"); (intro pp HH npp spp opp))
  | ((with_reducible refine' y_rbinD ?k1 ?k3 ?k4 ?k5 ?k6); (case k1 => walk_at "aq"); (case k3 => walk_at "sz"); (case k4 => walk_at "sz"); (case k5 => walk_at "nz"); (intro pp HH npp spp opp))
  | ((with_reducible refine' y_binF ?k1 ?k2 ?k3 ?k4 ?k5 ?k6); (case k1 => walk_at "aq"); (case k2 => walk_at "nq"); (case k3 => walk_at "sz"); (case k4 => walk_at "sz"); (case k5 => walk_at "nz"); (intro HH spp))
  | ((with_reducible refine' y_rbinF ?k1 ?k3 ?k4 ?k5 ?k6); (case k1 => walk_at "aq"); (case k3 => walk_at "sz"); (case k4 => walk_at "sz"); (case k5 => walk_at "nz"); (intro HH spp))
  | ((with_reducible refine' y_cmp ?kK ?k0 ?k1 ?k2 ?k3 ?k4 ?k5); (case kK => exact rfl); (case k0 => assumption); (case k1 => walk_at "aq"); (case k2 => walk_at "nq"); (case k3 => walk_at "sz"); (case k4 => walk_at "sz"); (intro HH spp))
  | ((with_reducible refine' y_rcmp ?k1 ?k3 ?k4 ?k5); (case k1 => walk_at "aq"); (case k3 => walk_at "sz"); (case k4 => walk_at "sz"); (intro HH spp))
  | ((with_reducible refine' y_ceq ?kK ?k0 ?k1 ?k2 ?k5); (case kK => exact rfl); (case k0 => assumption); (case k1 => walk_at "aq"); (case k2 => walk_at "nq"); (intro HH spp))
  | ((with_reducible refine' y_req ?k1 ?k5); (case k1 => walk_at "aq"); (intro HH spp))
  | ((with_reducible refine' y_cne ?kK ?k0 ?k1 ?k2 ?k5); (case kK => exact rfl); (case k0 => assumption); (case k1 => walk_at "aq"); (case k2 => walk_at "nq"); (intro HH spp))
  | ((with_reducible refine' y_un1 ?k1 ?k3 ?k5); (case k1 => walk_at "aq"); (case k3 => walk_at "sz"); (intro pp HH npp spp opp))
  | ((with_reducible refine' y_absO ?k1 ?k3 ?k5); (case k1 => walk_at "aq"); (case k3 => walk_at "sz"); (intro pp HH npp spp opp))
  | ((with_reducible refine' y_truA ?k1 ?k5); (case k1 => walk_at "aq"))
  | ((with_reducible refine' y_boolA ?k1 ?k5); (case k1 => walk_at "aq"))
  | with_reducible refine y_meth ?_
  | ((with_reducible refine' y_methX ?k1 ?k2); (case k1 => walk_at "aq"))
  | ((with_reducible refine' y_over ?k1 ?k2 ?k3 ?k4 ?k5 ?k6); (case k1 => walk_at "aq"); (case k2 => walk_at "nq"); (case k3 => walk_at "sz"); (case k4 => walk_at "sz"); (case k5 => walk_at "nz"); (intro pp HH npp spp opp))
  | ((with_reducible refine x_aug ?_); refine ⟨_, rfl, ?_⟩)
  | ((with_reducible refine' y_nwI ?k1 ?k2 ?k3 ?k4); (case k1 => walk_at "nz"); (case k2 => walk_at "szi"); (case k3 => walk_at "szi"); (intro pp HH npp spp opp))
  | ((with_reducible refine' y_nwI1 ?k2 ?k4); (case k2 => walk_at "szi"); (intro pp HH npp spp opp))
  | with_reducible refine y_fld ?_
  | with_reducible refine y_for ?_
  | with_reducible refine y_iRng1 ?_
  | with_reducible refine y_iRng2 ?_
  | ((with_reducible refine y_rgF1 ?_ ?_); (first | decide | omega))
  | ((with_reducible refine y_rgL1 ?_ ?_); (first | decide | omega))
  | ((with_reducible refine y_rgF2 ?_ ?_); (first | decide | omega))
  | ((with_reducible refine y_rgL2 ?_ ?_); (first | decide | omega))
  | with_reducible refine y_lc ?_
  | with_reducible refine y_rev ?_
  | ((with_reducible refine' y_glst ?k1 ?k2 ?k3); (case k1 => walk_at "hp"); (case k2 => exact rfl))
  | with_reducible refine y_iList ?_
  | with_reducible refine y_iTup ?_
  | with_reducible refine y_iEnum ?_
  | ((with_reducible refine' y_itL ?k1 ?k2); (case k1 => walk_at "hp"))
  | ((with_reducible refine' y_itT ?k1 ?k2); (case k1 => walk_at "hp"))
  | ((with_reducible refine' y_itE ?k1 ?k2); (case k1 => walk_at "hp"))
  | with_reducible refine y_m0 ?_
  | ((with_reducible refine' z_slT ?k1 ?k2 ?k3); (case k1 => walk_at "hp"); (case k2 => decide); (intro pp HH npp spp opp))
  | with_reducible refine y_pp ?_
  | with_reducible refine y_pp0 ?_
  | with_reducible refine y_xv ?_
  | with_reducible refine y_xv0 ?_
  | with_reducible refine y_bm ?_
  | ((with_reducible refine' y_tyL ?k1 ?k2); (case k1 => walk_at "hp"))
  | ((with_reducible refine' z_app ?k1 ?k2 ?k3); (case k1 => walk_at "hp"); (case k2 => (first | exact Nat.le_of_ble_eq_true rfl | walk_at "side")); (intro HH kpp opp))
  | ((with_reducible refine' z_cat ?k1 ?k2 ?k3 ?k4); (case k1 => walk_at "hp"); (case k2 => walk_at "hp"); (case k3 => (first | exact Nat.le_of_ble_eq_true rfl | walk_at "side")); (intro pp HH npp spp opp))
  | ((with_reducible refine' z_slL ?k1 ?k2); (case k1 => walk_at "hp"); (intro pp HH npp spp opp))
  | ((with_reducible refine' y_in ?k1 ?k2 ?k3 ?k4); (case k1 => walk_at "hp"); (case k2 => exact rfl); (case k3 => exact rfl))
  | with_reducible refine y_iteT ?_
  | with_reducible refine y_iteF ?_
  | with_reducible refine y_iteNT ?_
  | with_reducible refine y_iteNF ?_
  | ((with_reducible refine y_iteY ?_ ?_); (first | exact rfl | assumption | omega))
  | ((with_reducible refine y_iteX ?_ ?_); (first | focus (intro zz; cases zz; done) | assumption | omega))
  | ((with_reducible refine y_iteNY ?_ ?_); (first | exact rfl | assumption | omega))
  | ((with_reducible refine y_iteNX ?_ ?_); (first | focus (intro zz; cases zz; done) | assumption | omega))
  | ((with_reducible refine y_ite ?_ ?_) <;> intro hh)
  | ((with_reducible refine y_iteN ?_ ?_) <;> intro hh)
  | dsimp only)
local macro_rules | `(tactic| walk_at "kpc") => `(tactic| first
  | assumption
  | exact Kp.refl _ _
  | (refine Kp.trans ?_ (by assumption); walk_at "kpc")
  | (refine Kp.trans ?_ (Kp.of (by assumption)); walk_at "kpc")
  | fail)
local macro_rules | `(tactic| walk_at "ik") => `(tactic| first
  | assumption
  | exact InsK.refl
  | (refine' InsK.trans ?ika ?ikb; (case ikb => exact InsK.same (by assumption)); (case ika => walk_at "ik"))
  | (refine' InsK.trans ?ika ?ikb; (case ikb => exact InsK.ext (by assumption)); (case ika => walk_at "ik"))
  | (refine' InsK.trans ?ika ?ikb; (case ikb => (refine' InsK.pen ?ikp ?ikk; (case ikk => assumption); (case ikp => walk_at "pen"))); (case ika => walk_at "ik"))
  | (refine' InsK.trans ?ika ?ikb; (case ikb => (refine' InsK.kpl ?ikl ?ikk; (case ikk => assumption); (case ikl => walk_at "hp"))); (case ika => walk_at "ik"))
  | fail)
local macro_rules | `(tactic| walk_at "tl") => `(tactic| first
  | assumption
  | (refine' TlAt.ik ?tlk ?tla; (case tla => assumption); (case tlk => walk_at "ik"))
  | fail)
local macro_rules | `(tactic| walk_at "drw") => `(tactic| first
  | ((with_reducible refine' y_drawC ?k1 ?k2 ?k3 ?k4 ?k5); (case k1 => walk_at "pen"); (case k2 => omega); (case k3 => (first | decide | omega)); (case k4 => (first | exact nat4000 (by decide) | exact nat4000 (Nat.le_trans (by omega) (show 1000000 ≤ 10 ^ 60 by decide)))); (intro rr HH rr0 rr1 PP kk))
  | fail)
local macro_rules | `(tactic| walk_at "np") => `(tactic| first
  | assumption
  | (refine' PenAt.p_ne ?npP ?nph; (case nph => assumption); (case npP => walk_at "pen"))
  | fail)
local macro_rules | `(tactic| walk_at "y") => `(tactic| first
  | with_reducible refine y_make ?_
  | with_reducible refine y_makeKG ?_
  | with_reducible refine y_smD ?_
  | with_reducible refine y_dget ?_
  | with_reducible refine y_dput ?_
  | ((with_reducible refine' z_dgetR ?k1 ?k2 ?k3); (case k1 => walk_at "hp"); (case k2 => exact rfl))
  | ((with_reducible refine z_disp ?_); (intro pp HH npp spp opp))
  | ((with_reducible refine z_dnew ?_); (intro pp HH npp spp opp))
  | fail)
local macro_rules | `(tactic| walk_at "hp") => `(tactic| first
  | (refine' kpne ?ess ?esn ?esk; (case ess => assumption); (case esn => walk_at "np"); (case esk => walk_at "hp"))
  | fail)
local macro_rules | `(tactic| walk_at "hp") => `(tactic| first
  | (refine' kpdat ?ess ?esl ?esk ?esn; (case ess => assumption); (case esl => walk_at "hp"); (case esk => walk_at "hp"); (case esn => (intro _ zz; cases zz)))
  | fail)
local macro_rules | `(tactic| walk_at "pen") => `(tactic| first
  | (refine' PenAt.kpd ?pek ?ped ?pes; (case pes => assumption); (case ped => walk_at "hp"); (case pek => walk_at "pen"))
  | fail)
local macro_rules | `(tactic| walk_at "ik") => `(tactic| first
  | (refine' InsK.trans ?ika ?ikb; (case ikb => (refine' InsK.kpd ?ikl ?ikk; (case ikk => assumption); (case ikl => walk_at "hp"))); (case ika => walk_at "ik"))
  | fail)
local macro_rules | `(tactic| walk_at "tabs") => `(tactic| first
  | (refine' OZ.Tabs.kpd ?tbs ?tbl ?tbk; (case tbs => assumption); (case tbl => walk_at "hp"); (case tbk => walk_at "tabs"))
  | fail)
local macro_rules | `(tactic| walk_at "y") => `(tactic| first
  | with_reducible refine y_js ?_
  | with_reducible refine y_js0 ?_
  | with_reducible refine y_fmt ?_
  | with_reducible refine y_fmtP ?_
  | with_reducible refine y_methP ?_
  | with_reducible refine y_methKP ?_
  | fail)
structure TopH (K : PySem.W.Frag) (w : World) (mg : Str → Option Value) : Prop extends TopT2 K w mg where
  g_OwnError : mg "OwnError" = some (.ref (He.ga K "OwnError"))
  g_BadTool : mg "BadTool" = some (.ref (CBT K))
  ex : PySem.W.exmOne K (.ref (CBT K)) (.ref (He.ga K "OwnError")) = some true
  kT : PySem.W.kitOne K (.ref (CBT K)) (.ref (CBT K)) = some true
  xcT : XC K (CBT K)
  naT : NoAttr K (CBT K) "part"
structure TlE (K : PySem.W.Frag) : Prop where
  nf : ∀ C, isTl K C → (∀ T ∈ bTypes, PySem.W.notFirst K C (.type T) = true) ∧ PySem.W.notFirst K C (.ref (CSc K)) = true ∧ PySem.W.notFirst K C (.ref (CRk K)) = true ∧ PySem.W.notFirst K C (.ref (CA K)) = true
def teq (t u : Tl) : Bool := decide (twords t = twords u)
theorem teq_self (t : Tl) : teq t t = true := decide_eq_true rfl
theorem teq_ne {t u : Tl} (h : t ≠ u) : teq t u = false := decide_eq_false fun z => h (twords_inj z)
theorem teq_iff {t u : Tl} : teq t u = true ↔ t = u := ⟨fun h => twords_inj (of_decide_eq_true h), fun h => by rw [h]; exact teq_self u⟩
theorem oth_sen {s : Str} (h : s ∈ SEN) : oth s ∈ SEN ∧ oth (oth s) = s ∧ (oth s = s ↔ s = "unsure") := by
  simp only [SEN, List.mem_cons, List.not_mem_nil, or_false] at h
  rcases h with rfl | rfl | rfl <;> decide +kernel
def TupK (H H' : Hp) : Prop := ∀ a xs, H a = some (.tup xs) → H' a = some (.tup xs)
theorem TupK.refl {H : Hp} : TupK H H := fun _ _ h => h
theorem TupK.trans {H H1 H2 : Hp} (a : TupK H H1) (b : TupK H1 H2) : TupK H H2 := fun c xs h => b _ _ (a _ _ h)
theorem TupK.same {H H' : Hp} (s : Same H H') : TupK H H' := fun a xs h => s _ _ h
theorem TupK.ext {H H' : Hp} (s : ExtN H H') : TupK H H' := fun a xs h => s _ _ h fun ps z => by cases z
theorem TupK.pen {H H' : Hp} {p c : Addr} {n : Nat} (hp : PenAt H p c n) (k : Kp p H H') : TupK H H' := fun a xs h => k _ _ (hp.ne_tup h) h
local macro_rules | `(tactic| walk_at "tpk") => `(tactic| first
  | assumption
  | exact TupK.refl
  | (refine' TupK.trans ?ika ?ikb; (case ikb => exact TupK.same (by assumption)); (case ika => walk_at "tpk"))
  | (refine' TupK.trans ?ika ?ikb; (case ikb => exact TupK.ext (by assumption)); (case ika => walk_at "tpk"))
  | (refine' TupK.trans ?ika ?ikb; (case ikb => (refine' TupK.pen ?ikp ?ikk; (case ikk => assumption); (case ikp => walk_at "pen"))); (case ika => walk_at "tpk"))
  | fail)
section
variable {P : Program} {w : World} {K : PySem.W.Frag} {mg : Str → Option Value} {base : Heap} {H : Hp} {Q : VK} {E : XK} {a b : Addr} {t u : Tl} {v : V}
theorem TlAt.ty (TF : TlF K) (h : TlAt K H a t) : TyX K H (.ref a) (.ref (clsT K t)) := by
  obtain ⟨n, s, d⟩ := t
  cases d
  · obtain ⟨dx, h⟩ := h; exact TF.or.ty h
  · obtain ⟨dx, d, h, _⟩ := h; exact TF.os.ty h
theorem TlE.tl (TE : TlE K) {C : Addr} (h : isTl K C) (u : Tl) : PySem.W.notFirst K C (.ref (clsT K u)) = true := by
  obtain ⟨n, s, d⟩ := u
  cases d
  · exact (TE.nf C h).2.2.1
  · exact (TE.nf C h).2.1
theorem y_tneg (ha : TlAt K H a t) (ok : TlOk t) (k : ∀ b H', H b = none → Same H H' → TlAt K H' b ⟨t.nm, oth t.sn, t.db⟩ → Q (.ref b) H') : rUnP (isTl K) (fun _ => spTNeg K) E (.ref a) H Q := by
  obtain ⟨dx, fs, hi, _⟩ := ha.ins
  exact ⟨_, isTl_cls t, a, dx, fs, rfl, hi, a, t, rfl, ha, ok, newD_ok ok.nm (oth_sen ok.sn).1 k⟩
theorem y_teq (TF : TlF K) (TE : TlE K) (ha : TlAt K H a t) (hb : TlAt K H b u) (oa : TlOk t) (ob : TlOk u) (k : ∀ H', Same H H' → Q (.bl (teq t u)) H') : rCmpP K (isTl K) (fun _ => spTEq K) E (.ref a) (.ref b) H Q := by
  obtain ⟨dx, fs, hi, _⟩ := ha.ins
  exact ⟨_, isTl_cls t, a, dx, fs, _, rfl, hi, hb.ty TF, TE.tl (isTl_cls t) u, a, t, _, rfl, ha, oa, .inl ⟨b, u, rfl, hb, ob, k⟩⟩
theorem y_tne (TF : TlF K) (TE : TlE K) (ha : TlAt K H a t) (hb : TlAt K H b u) (oa : TlOk t) (ob : TlOk u) (k : ∀ H', Same H H' → Q (.bl (!teq t u)) H') : rNeP K (isTl K) (fun _ => spTEq K) E (.ref a) (.ref b) H Q := by
  obtain ⟨dx, fs, hi, _⟩ := ha.ins
  exact ⟨_, isTl_cls t, a, dx, fs, _, rfl, hi, hb.ty TF, TE.tl (isTl_cls t) u, a, t, _, rfl, ha, oa, .inl ⟨b, u, rfl, hb, ob, fun H' s => ⟨_, rfl, k H' s⟩⟩⟩
def NoTl (K : PySem.W.Frag) (H : Hp) (v : V) : Prop := ∃ ty, TyX K H v ty ∧ PySem.W.kitOne K ty (.ref (CTl K)) = some false ∧ ∀ C, isTl K C → PySem.W.notFirst K C ty = true
theorem y_teqO (ha : TlAt K H a t) (oa : TlOk t) (hv : NoTl K H v) (k : Q (.bl false) H) : rCmpP K (isTl K) (fun _ => spTEq K) E (.ref a) v H Q := by
  obtain ⟨dx, fs, hi, _⟩ := ha.ins
  obtain ⟨ty, hty, kt, nf⟩ := hv
  exact ⟨_, isTl_cls t, a, dx, fs, _, rfl, hi, hty, nf _ (isTl_cls t), a, t, _, rfl, ha, oa, .inr ⟨ty, hty, kt, k⟩⟩
theorem y_tneO (ha : TlAt K H a t) (oa : TlOk t) (hv : NoTl K H v) (k : Q (.bl true) H) : rNeP K (isTl K) (fun _ => spTEq K) E (.ref a) v H Q := by
  obtain ⟨dx, fs, hi, _⟩ := ha.ins
  obtain ⟨ty, hty, kt, nf⟩ := hv
  exact ⟨_, isTl_cls t, a, dx, fs, _, rfl, hi, hty, nf _ (isTl_cls t), a, t, _, rfl, ha, oa, .inr ⟨ty, hty, kt, _, rfl, k⟩⟩
def TTr (K : PySem.W.Frag) (z : Str) : (XK → Hp → VK → Prop) → Hp → VK → Prop := fun tl H Q => ∀ (H1 : Hp) (E1 : XK) (Q1 : VK), Same H H1 → (∀ H' dd, Same H1 H' → H1 dd = none → H' dd = some (.xd [("part", .str z)]) → (∀ H2, Same H' H2 → Q (.bl true) H2) → E1 (.ref (CBT K)) (some dd) H') → tl E1 H1 Q1
abbrev s_refd : Stmt := topS 50
theorem sc_refd : FnScope ["_law_deed", "_law_part", "_law_caught", "error"] ["_law_deed", "_law_part"] (defScope s_refd) := ⟨rfl, rfl, rfl, by decide +kernel, rfl, by decide +kernel, by decide +kernel⟩
theorem refused_gives {X : Cx} {k : Nat} {g : Addr} (T : TopH X.K X.w X.mg) (cdg : Value) (q : Str) : GivesS2 X k ["_law_deed", "_law_part", "_law_caught", "error"] "_law_refused" (defScope s_refd) g cdg (defBody s_refd) "_law_deed" q (TTr X.K) := by
  intro z f c2 s H Q tl hr gd deed hc h
  have nd := sc_refd.nd
  refine ⟨_, (pss_cons (ps_set (i := 2) nd rfl (Or.inl rfl) pe_non)
      (pss_cons (ps_try_keep (i := 3) rfl rfl rfl nd rfl rfl ⟨rfl, by decide, Or.inl T.g_OwnError⟩ L2.takes0
        (fun W pn xe tk _ => (pss_one (ps_expr (deed W pn xe _ _ tk))))
        (fun a oe cls d pn hz hf => (pss_one (ps_set (i := 2) nd rfl (Or.inl rfl) (pv 3)))))
      (pss_one (ps_ret (pe_and (pe_callB c_isA (by rfl) T.n_isinstance (by decide +kernel) (pa_cons (pv 2) (pa_cons (og_ref T.g_BadTool) pa_nil))) (pe_one (pe_cmpR op_eq (pe_att (pv 2)) (pv 1) (nomark _)))))))), ?_⟩
  repeat walk_at "y"
  refine ⟨rfl, by walk_at "hp", h _ _ _ (by walk_at "same") (fun H1 dd s1 n1 o1 kq => ?_)⟩
  refine ⟨true, T.ex, fun _ a ha => ?_, fun z => by cases z⟩
  repeat walk_at "y"
  have hx : ExAt (upd H1 a (exk a (.ref (CBT X.K)) (some dd))) a (CBT X.K) [("part", .str z)] := .inl ⟨dd, upd_same, upd_old ha o1⟩
  refine .inr ⟨a, CBT X.K, _, _, _, true, rfl, hx, T.xcT, .own _, T.kT, ?_⟩
  repeat walk_at "y"
  refine y_attX hx T.xcT T.naT rfl ?_
  repeat walk_at "y"
  rw [decide_eq_true rfl]
  exact kq _ fun b o e => upd_old ha e
def spTurned : Sp := fun vs H Q _ => ∃ s : Str, vs = [.str s] ∧ s ∈ SEN ∧ ∀ H', Same H H' → Q (.str (oth s)) H'
abbrev s_turned : Stmt := topS 49
theorem sc_turned : FnScope ["_law_course"] ["_law_course"] (defScope s_turned) := ⟨rfl, rfl, rfl, by decide +kernel, rfl, by decide +kernel, by decide +kernel⟩
theorem ok_turned {f : Addr} {fd : FuncData} (F : FnP K "_law_turned" s_turned f fd) : FnOk P w K mg base (L2.CX P w) 1 f fd ["_law_course"] spTurned := by
  have nd := sc_turned.nd
  refine F.ok sc_turned (fun vs H Q E h => ?_) (fun cdv A outer s H vs Q E hr h => ?_)
  · obtain ⟨s, rfl, _⟩ := h
    rfl
  · obtain ⟨sn, rfl, hs, k⟩ := h
    have hu := hu_of hr
    refine ⟨_, PSs.nox (pss_one (ps_ret (pe_dget hu (pe_disp (pps_cons pe_str pe_str (pps_cons pe_str pe_str (pps_cons pe_str pe_str pps_nil))) (by rfl) (by rfl) (fun z => by cases z) (by decide)) (pv 0) (fun _ _ => rfl)))), ?_⟩
    simp only [SEN, List.mem_cons, List.not_mem_nil, or_false] at hs
    rcases hs with rfl | rfl | rfl
    all_goals
      repeat walk_at "y"
      rename_i d H1 n1 s1 o1
      refine ⟨o1, [(.inr "rising", .str "falling"), (.inr "falling", .str "rising"), (.inr "unsure", .str "unsure")], rfl, Nat.le_of_ble_eq_true rfl, ?_⟩
      repeat walk_at "y"
      exact k _ fun b o e => upd_oth (ne_of_none e n1) (s1 _ _ e)
end
end LW
set_option maxRecDepth 100000
namespace LW
open PySem PySem.Spec PyProof.Rows L2 OZ
local macro_rules | `(tactic| walk_at "szx1") => `(tactic| first
  | with_reducible assumption
  | exact sz_i64 (n := 64) (by decide)
  | (refine' Sz.add ?sx ?sy; (case sx => walk_at "szx1"); (case sy => walk_at "szx1"))
  | (refine' Sz.sub ?sx ?sy; (case sx => walk_at "szx1"); (case sy => walk_at "szx1"))
  | (refine' Sz.mul ?sx ?sy; (case sx => walk_at "szx1"); (case sy => walk_at "szx1"))
  | (refine' Sz.neg ?sx; (case sx => walk_at "szx1"))
  | (refine' Sz.iabs ?sx; (case sx => walk_at "szx1"))
  | (refine' sz_fdiv ?sx ?sy; (case sy => walk_at "nz"); (case sx => walk_at "szx1")))
local macro_rules | `(tactic| walk_at "szx") => `(tactic| (refine' Sz.mono ?szk ?szl; (case szk => walk_at "szx1"); (case szl => exact Nat.le_of_ble_eq_true rfl)))
local macro_rules | `(tactic| walk_at "aq") => `(tactic| first
  | assumption
  | (refine' AmQ.same ?aqs ?aqk; (case aqs => assumption); (case aqk => walk_at "aq"))
  | (refine' AmQ.extN ?aqs ?aqk; (case aqs => assumption); (case aqk => walk_at "aq"))
  | (refine' AmQ.kpl ?aqs ?aql ?aqk; (case aqs => assumption); (case aql => walk_at "hp"); (case aqk => walk_at "aq"))
  | (refine' AmQ.kp ?aql ?aqs ?aqk; (case aqs => assumption); (case aql => walk_at "pen"); (case aqk => walk_at "aq")))
local macro_rules | `(tactic| walk_at "nq") => `(tactic| first
  | assumption
  | exact NumQ.int
  | (refine' NumQ.am ?nqk; (case nqk => walk_at "aq"))
  | (refine' NumQ.same ?nqs ?nqk; (case nqs => assumption); (case nqk => walk_at "nq"))
  | (refine' NumQ.extN ?nqs ?nqk; (case nqs => assumption); (case nqk => walk_at "nq"))
  | (refine' NumQ.kpl ?nqs ?nql ?nqk; (case nqs => assumption); (case nql => walk_at "hp"); (case nqk => walk_at "nq")))
local macro_rules | `(tactic| walk_at "sz1") => `(tactic| first
  | with_reducible assumption
  | (refine' SzQ.add ?sx ?sy; (case sx => walk_at "sz1"); (case sy => walk_at "sz1"))
  | (refine' SzQ.sub ?sx ?sy; (case sx => walk_at "sz1"); (case sy => walk_at "sz1"))
  | (refine' SzQ.mul ?sx ?sy; (case sx => walk_at "sz1"); (case sy => walk_at "sz1"))
  | (refine' SzQ.div ?sx ?sy ?sz; (case sz => assumption); (case sx => walk_at "sz1"); (case sy => walk_at "sz1"))
  | (refine' SzQ.rmod ?sx ?sy ?sz; (case sz => assumption); (case sx => walk_at "sz1"); (case sy => walk_at "sz1"))
  | (refine' SzQ.neg ?sx; (case sx => walk_at "sz1"))
  | (refine' SzQ.qabs ?sx; (case sx => walk_at "sz1"))
  | (refine' SzQ.int ?sx ?sy; (case sx => with_reducible assumption); (case sy => exact Nat.le_of_ble_eq_true rfl))
  | exact sz_lit (by decide))
local macro_rules | `(tactic| walk_at "sz") => `(tactic| (refine' SzQ.mono ?szk ?szl; (case szk => walk_at "sz1"); (case szl => exact Nat.le_of_ble_eq_true rfl)))
local macro_rules | `(tactic| walk_at "nz") => `(tactic| first
  | assumption
  | decide
  | omega
  | exact intq0 (by decide))
local macro_rules | `(tactic| walk_at "szi") => `(tactic| first
  | assumption
  | exact Sz.mono (by with_reducible assumption) (Nat.le_of_ble_eq_true rfl)
  | exact sz_i64 (by decide))
local macro_rules | `(tactic| walk_at "ex") => `(tactic| first
  | assumption
  | (refine ExAt.same (by assumption) ?_; walk_at "ex"))
local macro_rules | `(tactic| walk_at "same") => `(tactic| first
  | assumption
  | exact same0
  | (refine Same.trans ?_ (by assumption); walk_at "same"))
local macro_rules | `(tactic| walk_at "tabs") => `(tactic| first
  | assumption
  | (refine' OZ.Tabs.same ?tbs ?tbk; (case tbs => assumption); (case tbk => walk_at "tabs"))
  | (refine' OZ.Tabs.kpl ?tbs ?tbl ?tbk; (case tbs => assumption); (case tbl => walk_at "hp"); (case tbk => walk_at "tabs"))
  | (refine' OZ.Tabs.kp ?tbl ?tbs ?tbk; (case tbs => assumption); (case tbl => walk_at "pen"); (case tbk => walk_at "tabs")))
local macro_rules | `(tactic| walk_at "ext") => `(tactic| first
  | assumption
  | exact LamX.ExtN.refl _
  | exact LamX.ExtN.of (by assumption)
  | (refine LamX.ExtN.trans ?_ (by assumption); walk_at "ext")
  | (refine LamX.ExtN.trans ?_ (LamX.ExtN.of (by assumption)); walk_at "ext"))
local macro_rules | `(tactic| walk_at "pen") => `(tactic| first
  | assumption
  | (refine' PenAt.same ?pek ?pes; (case pes => assumption); (case pek => walk_at "pen"))
  | (refine' PenAt.extN ?pek ?pes; (case pes => assumption); (case pek => walk_at "pen")))
local macro_rules | `(tactic| walk_at "kn") => `(tactic| first
  | assumption
  | exact KN.refl
  | (refine KN.trans ?_ (KN.same (by assumption)); walk_at "kn")
  | (refine KN.trans ?_ (KN.kp (by assumption)); walk_at "kn")
  | (refine KN.trans ?_ (KN.ext (by assumption)); walk_at "kn")
  | (refine KN.trans ?_ (by assumption); walk_at "kn"))
local macro_rules | `(tactic| walk_at "free") => `(tactic| first
  | assumption
  | (refine sfree (by assumption) ?_; walk_at "free"))
local macro_rules | `(tactic| walk_at "hp") => `(tactic| first
  | assumption
  | exact upd_same
  | (refine sat (by assumption) ?_; walk_at "hp")
  | (refine' esat ?ess ?esk ?esn; (case ess => assumption); (case esk => walk_at "hp"); (case esn => (intro _ zz; cases zz)))
  | (refine' kpne ?ess ?esn ?esk; (case ess => assumption); (case esn => (first | assumption | exact Ne.symm (by assumption))); (case esk => walk_at "hp"))
  | (refine' kpsat ?ess ?esl ?esk ?esn; (case ess => assumption); (case esl => walk_at "hp"); (case esk => walk_at "hp"); (case esn => (intro _ zz; cases zz)))
  | (refine upd_old ?_ ?_; (first | assumption | exact free_upd (by assumption)); walk_at "hp")
  | (refine upd_oth ?_ ?_; (first | assumption | exact Ne.symm (by assumption)); walk_at "hp"))
local macro_rules | `(tactic| walk_at "side") => `(tactic| first
  | assumption
  | decide
  | omega
  | exact ⟨by omega, by omega, by omega⟩
  | exact Or.inl ⟨by omega, by omega⟩
  | exact Or.inr ⟨by omega, by omega⟩
  | (show (_ : Int) ≠ 0; omega)
  | (refine' Sz.mulW ?ma ?mb ?mc; (case ma => walk_at "szx1"); (case mb => walk_at "szx1"); (case mc => exact Nat.le_of_ble_eq_true rfl))
  | (refine' Sz.divN ?ma ?mb ?mc; (case ma => walk_at "szx1"); (case mb => walk_at "nz"); (case mc => exact Nat.le_of_ble_eq_true rfl))
  | exact wide_div (b := 64) (by omega) (by omega) (by decide) (by decide)
  | exact wide_div (b := 4000) (by assumption) (by assumption) (by decide) (by decide))
local macro_rules | `(tactic| walk_at "y") => `(tactic| first
  | ((with_reducible refine y_var ?_); refine ⟨_, rfl, ?_⟩)
  | with_reducible refine y_c ?_
  | with_reducible refine y_op ?_
  | with_reducible refine y_cb ?_
  | with_reducible refine y_cons ?_
  | with_reducible refine y_nil ?_
  | with_reducible refine y_seq ?_
  | with_reducible refine y_asg ?_
  | with_reducible refine x_gn ?_
  | ((with_reducible refine' y_nx ?k1 ?k2); (case k1 => (simp only [L2.start, List.length_cons, List.length_nil, List.map_cons, List.map_nil, List.set_cons_succ, List.set_cons_zero, List.cons_append, List.nil_append, List.replicate]; rfl)))
  | with_reducible refine y_gsub ?_
  | with_reducible refine y_ret ?_
  | with_reducible refine y_drop ?_
  | with_reducible refine y_next ?_
  | with_reducible refine y_ifS ?_
  | with_reducible refine y_test ?_
  | with_reducible refine y_B ?_
  | with_reducible refine y_ex ?_
  | with_reducible refine y_not ?_
  | with_reducible refine y_and ?_
  | with_reducible refine y_or ?_
  | with_reducible refine y_notV ?_
  | with_reducible refine y_andV ?_
  | with_reducible refine y_orV ?_
  | with_reducible refine y_ifE ?_
  | with_reducible refine y_un ?_
  | with_reducible refine x_par ?_
  | with_reducible refine y_ex2 ?_
  | with_reducible refine y_call ?_
  | with_reducible refine y_callS ?_
  | with_reducible refine y_I0 ?_
  | ((with_reducible refine y_I ?_ ?_); (walk_at "side"))
  | with_reducible refine y_U ?_
  | ((with_reducible refine y_eq ?_ ?_); (exact rfl))
  | ((with_reducible refine y_ne ?_ ?_); (exact rfl))
  | ((with_reducible refine' y_ixL ?k1 ?k2 ?k3); (case k1 => walk_at "hp"); (case k2 => (first | assumption | exact rfl)))
  | ((with_reducible refine' y_ixT ?k1 ?k2 ?k3); (case k1 => walk_at "hp"); (case k2 => (first | assumption | exact rfl)))
  | ((with_reducible refine' y_setL ?k1 ?k2 ?k3); (case k1 => walk_at "hp"); (case k2 => (first | assumption | exact rfl)))
  | with_reducible refine y_int ?_
  | with_reducible refine y_intB ?_
  | with_reducible refine y_abs ?_
  | ((with_reducible refine' y_lenL ?k1 ?k3); (case k1 => walk_at "hp"))
  | ((with_reducible refine' y_lenT ?k1 ?k3); (case k1 => walk_at "hp"))
  | ((with_reducible refine y_lenS ?_ ?_); (walk_at "side"))
  | with_reducible refine y_isN ?_
  | with_reducible refine y_notN ?_
  | ((with_reducible refine y_addS ?_ ?_); (walk_at "side"))
  | with_reducible refine y_inC ?_
  | with_reducible refine y_notInC ?_
  | with_reducible refine y_sl ?_
  | with_reducible refine y_part ?_
  | with_reducible refine y_nopart ?_
  | with_reducible refine y_exI ?_
  | ((with_reducible refine y_slS ?_ ?_); (walk_at "side"))
  | with_reducible refine z_lst ?_
  | with_reducible refine z_tup ?_
  | ((with_reducible refine z_newL ?_ ?_); (exact Nat.le_of_ble_eq_true rfl); (intro pp HH npp spp opp))
  | ((with_reducible refine z_newT ?_ ?_); (exact Nat.le_of_ble_eq_true rfl); (intro pp HH npp spp opp))
  | ((with_reducible refine' y_chI ?k1 ?k2); (case k1 => exact rfl))
  | with_reducible refine y_chain ?_
  | with_reducible refine y_yes ?_
  | with_reducible refine y_att ?_
  | ((with_reducible refine y_disp ?_ ?_); (exact Nat.le_of_ble_eq_true rfl); (intro pp hpp))
  | ((with_reducible refine' y_gtup ?k1 ?k2 ?k3); (case k1 => walk_at "hp"); (case k2 => exact rfl))
  | with_reducible refine y_gcons ?_
  | with_reducible refine y_gnil ?_
  | with_reducible refine y_mkO ?_
  | with_reducible refine y_callKw ?_
  | with_reducible refine y_mkA ?_
  | with_reducible refine y_sm ?_
  | with_reducible refine y_smK ?_
  | with_reducible refine y_cut0 ?_
  | with_reducible refine y_methK ?_
  | ((with_reducible refine' y_lm ?k1 ?k2); (case k1 => walk_at "tabs"); (intro HH ee tt))
  | ((with_reducible refine' z_rep ?k1 ?k2 ?k3 ?k4 ?k5); (case k1 => walk_at "hp"); (case k2 => decide); (case k3 => decide); (case k4 => exact Nat.le_of_ble_eq_true rfl); (intro pp HH npp spp opp))
  | ((with_reducible refine z_rev (by decide) (by walk_at "hp") ?_); (intro pp HH npp spp opp))
  | with_reducible refine y_rfl ?_
  | with_reducible refine y_mkA1 ?_
  | ((with_reducible refine' y_aqT ?k0 ?k1 ?k2); (case k0 => assumption); (case k1 => walk_at "aq"))
  | ((with_reducible refine' y_aqB ?k0 ?k1 ?k2); (case k0 => assumption); (case k1 => walk_at "aq"))
  | ((with_reducible refine' y_bin ?k1 ?k2 ?k3 ?k4 ?k5); (case k1 => walk_at "aq"); (case k2 => walk_at "nq"); (case k3 => walk_at "sz"); (case k4 => walk_at "sz"); (intro pp HH npp spp opp))
  | ((with_reducible refine' y_rbin ?k1 ?k3 ?k4 ?k5); (case k1 => walk_at "aq"); (case k3 => walk_at "sz"); (case k4 => walk_at "sz"); (intro pp HH npp spp opp))
  | ((with_reducible refine' y_binM ?k1 ?k2 ?k3 ?k4 ?k5); (case k1 => walk_at "aq"); (case k2 => walk_at "nq"); (case k3 => walk_at "sz"); (case k4 => walk_at "sz"); (intro pp HH npp spp opp))
  | ((with_reducible refine' y_rbinM ?k1 ?k3 ?k4 ?k5); (case k1 => walk_at "aq"); (case k3 => walk_at "sz"); (case k4 => walk_at "sz"); (intro pp HH npp spp opp))
  | ((with_reducible refine' y_binD ?k1 ?k2 ?k3 ?k4 ?k5 ?k6); (case k1 => walk_at "aq"); (case k2 => walk_at "nq"); (case k3 => walk_at "sz"); (case k4 => walk_at "sz"); (case k5 => walk_at "nz"); (intro pp HH npp spp opp))
  | ((with_reducible refine' y_rbinD ?k1 ?k3 ?k4 ?k5 ?k6); (case k1 => walk_at "aq"); (case k3 => walk_at "sz"); (case k4 => walk_at "sz"); (case k5 => walk_at "nz"); (intro pp HH npp spp opp))
  | ((with_reducible refine' y_binF ?k1 ?k2 ?k3 ?k4 ?k5 ?k6); (case k1 => walk_at "aq"); (case k2 => walk_at "nq"); (case k3 => walk_at "sz"); (case k4 => walk_at "sz"); (case k5 => walk_at "nz"); (intro HH spp))
  | ((with_reducible refine' y_rbinF ?k1 ?k3 ?k4 ?k5 ?k6); (case k1 => walk_at "aq"); (case k3 => walk_at "sz"); (case k4 => walk_at "sz"); (case k5 => walk_at "nz"); (intro HH spp))
  | ((with_reducible refine' y_cmp ?kK ?k0 ?k1 ?k2 ?k3 ?k4 ?k5); (case kK => exact rfl); (case k0 => assumption); (case k1 => walk_at "aq"); (case k2 => walk_at "nq"); (case k3 => walk_at "sz"); (case k4 => walk_at "sz"); (intro HH spp))
  | ((with_reducible refine' y_rcmp ?k1 ?k3 ?k4 ?k5); (case k1 => walk_at "aq"); (case k3 => walk_at "sz"); (case k4 => walk_at "sz"); (intro HH spp))
  | ((with_reducible refine' y_ceq ?kK ?k0 ?k1 ?k2 ?k5); (case kK => exact rfl); (case k0 => assumption); (case k1 => walk_at "aq"); (case k2 => walk_at "nq"); (intro HH spp))
  | ((with_reducible refine' y_req ?k1 ?k5); (case k1 => walk_at "aq"); (intro HH spp))
  | ((with_reducible refine' y_cne ?kK ?k0 ?k1 ?k2 ?k5); (case kK => exact rfl); (case k0 => assumption); (case k1 => walk_at "aq"); (case k2 => walk_at "nq"); (intro HH spp))
  | ((with_reducible refine' y_un1 ?k1 ?k3 ?k5); (case k1 => walk_at "aq"); (case k3 => walk_at "sz"); (intro pp HH npp spp opp))
  | ((with_reducible refine' y_absO ?k1 ?k3 ?k5); (case k1 => walk_at "aq"); (case k3 => walk_at "sz"); (intro pp HH npp spp opp))
  | ((with_reducible refine' y_truA ?k1 ?k5); (case k1 => walk_at "aq"))
  | ((with_reducible refine' y_boolA ?k1 ?k5); (case k1 => walk_at "aq"))
  | with_reducible refine y_meth ?_
  | ((with_reducible refine' y_methX ?k1 ?k2); (case k1 => walk_at "aq"))
  | ((with_reducible refine' y_over ?k1 ?k2 ?k3 ?k4 ?k5 ?k6); (case k1 => walk_at "aq"); (case k2 => walk_at "nq"); (case k3 => walk_at "sz"); (case k4 => walk_at "sz"); (case k5 => walk_at "nz"); (intro pp HH npp spp opp))
  | ((with_reducible refine x_aug ?_); refine ⟨_, rfl, ?_⟩)
  | ((with_reducible refine' y_nwI ?k1 ?k2 ?k3 ?k4); (case k1 => walk_at "nz"); (case k2 => walk_at "szi"); (case k3 => walk_at "szi"); (intro pp HH npp spp opp))
  | ((with_reducible refine' y_nwI1 ?k2 ?k4); (case k2 => walk_at "szi"); (intro pp HH npp spp opp))
  | with_reducible refine y_fld ?_
  | with_reducible refine y_for ?_
  | with_reducible refine y_iRng1 ?_
  | with_reducible refine y_iRng2 ?_
  | ((with_reducible refine y_rgF1 ?_ ?_); (first | decide | omega))
  | ((with_reducible refine y_rgL1 ?_ ?_); (first | decide | omega))
  | ((with_reducible refine y_rgF2 ?_ ?_); (first | decide | omega))
  | ((with_reducible refine y_rgL2 ?_ ?_); (first | decide | omega))
  | with_reducible refine y_lc ?_
  | with_reducible refine y_rev ?_
  | ((with_reducible refine' y_glst ?k1 ?k2 ?k3); (case k1 => walk_at "hp"); (case k2 => exact rfl))
  | with_reducible refine y_iList ?_
  | with_reducible refine y_iTup ?_
  | with_reducible refine y_iEnum ?_
  | ((with_reducible refine' y_itL ?k1 ?k2); (case k1 => walk_at "hp"))
  | ((with_reducible refine' y_itT ?k1 ?k2); (case k1 => walk_at "hp"))
  | ((with_reducible refine' y_itE ?k1 ?k2); (case k1 => walk_at "hp"))
  | with_reducible refine y_m0 ?_
  | ((with_reducible refine' z_slT ?k1 ?k2 ?k3); (case k1 => walk_at "hp"); (case k2 => decide); (intro pp HH npp spp opp))
  | with_reducible refine y_pp ?_
  | with_reducible refine y_pp0 ?_
  | with_reducible refine y_xv ?_
  | with_reducible refine y_xv0 ?_
  | with_reducible refine y_bm ?_
  | ((with_reducible refine' y_tyL ?k1 ?k2); (case k1 => walk_at "hp"))
  | ((with_reducible refine' z_app ?k1 ?k2 ?k3); (case k1 => walk_at "hp"); (case k2 => (first | exact Nat.le_of_ble_eq_true rfl | walk_at "side")); (intro HH kpp opp))
  | ((with_reducible refine' z_cat ?k1 ?k2 ?k3 ?k4); (case k1 => walk_at "hp"); (case k2 => walk_at "hp"); (case k3 => (first | exact Nat.le_of_ble_eq_true rfl | walk_at "side")); (intro pp HH npp spp opp))
  | ((with_reducible refine' z_slL ?k1 ?k2); (case k1 => walk_at "hp"); (intro pp HH npp spp opp))
  | ((with_reducible refine' y_in ?k1 ?k2 ?k3 ?k4); (case k1 => walk_at "hp"); (case k2 => exact rfl); (case k3 => exact rfl))
  | with_reducible refine y_iteT ?_
  | with_reducible refine y_iteF ?_
  | with_reducible refine y_iteNT ?_
  | with_reducible refine y_iteNF ?_
  | ((with_reducible refine y_iteY ?_ ?_); (first | exact rfl | assumption | omega))
  | ((with_reducible refine y_iteX ?_ ?_); (first | focus (intro zz; cases zz; done) | assumption | omega))
  | ((with_reducible refine y_iteNY ?_ ?_); (first | exact rfl | assumption | omega))
  | ((with_reducible refine y_iteNX ?_ ?_); (first | focus (intro zz; cases zz; done) | assumption | omega))
  | ((with_reducible refine y_ite ?_ ?_) <;> intro hh)
  | ((with_reducible refine y_iteN ?_ ?_) <;> intro hh)
  | dsimp only)
local macro_rules | `(tactic| walk_at "kpc") => `(tactic| first
  | assumption
  | exact Kp.refl _ _
  | (refine Kp.trans ?_ (by assumption); walk_at "kpc")
  | (refine Kp.trans ?_ (Kp.of (by assumption)); walk_at "kpc")
  | fail)
local macro_rules | `(tactic| walk_at "ik") => `(tactic| first
  | assumption
  | exact InsK.refl
  | (refine' InsK.trans ?ika ?ikb; (case ikb => exact InsK.same (by assumption)); (case ika => walk_at "ik"))
  | (refine' InsK.trans ?ika ?ikb; (case ikb => exact InsK.ext (by assumption)); (case ika => walk_at "ik"))
  | (refine' InsK.trans ?ika ?ikb; (case ikb => (refine' InsK.pen ?ikp ?ikk; (case ikk => assumption); (case ikp => walk_at "pen"))); (case ika => walk_at "ik"))
  | (refine' InsK.trans ?ika ?ikb; (case ikb => (refine' InsK.kpl ?ikl ?ikk; (case ikk => assumption); (case ikl => walk_at "hp"))); (case ika => walk_at "ik"))
  | fail)
local macro_rules | `(tactic| walk_at "tl") => `(tactic| first
  | assumption
  | (refine' TlAt.ik ?tlk ?tla; (case tla => assumption); (case tlk => walk_at "ik"))
  | fail)
local macro_rules | `(tactic| walk_at "drw") => `(tactic| first
  | ((with_reducible refine' y_drawC ?k1 ?k2 ?k3 ?k4 ?k5); (case k1 => walk_at "pen"); (case k2 => omega); (case k3 => (first | decide | omega)); (case k4 => (first | exact nat4000 (by decide) | exact nat4000 (Nat.le_trans (by omega) (show 1000000 ≤ 10 ^ 60 by decide)))); (intro rr HH rr0 rr1 PP kk))
  | fail)
local macro_rules | `(tactic| walk_at "np") => `(tactic| first
  | assumption
  | (refine' PenAt.p_ne ?npP ?nph; (case nph => assumption); (case npP => walk_at "pen"))
  | fail)
local macro_rules | `(tactic| walk_at "y") => `(tactic| first
  | with_reducible refine y_make ?_
  | with_reducible refine y_makeKG ?_
  | with_reducible refine y_smD ?_
  | with_reducible refine y_dget ?_
  | with_reducible refine y_dput ?_
  | ((with_reducible refine' z_dgetR ?k1 ?k2 ?k3); (case k1 => walk_at "hp"); (case k2 => exact rfl))
  | ((with_reducible refine z_disp ?_); (intro pp HH npp spp opp))
  | ((with_reducible refine z_dnew ?_); (intro pp HH npp spp opp))
  | fail)
local macro_rules | `(tactic| walk_at "hp") => `(tactic| first
  | (refine' kpne ?ess ?esn ?esk; (case ess => assumption); (case esn => walk_at "np"); (case esk => walk_at "hp"))
  | fail)
local macro_rules | `(tactic| walk_at "hp") => `(tactic| first
  | (refine' kpdat ?ess ?esl ?esk ?esn; (case ess => assumption); (case esl => walk_at "hp"); (case esk => walk_at "hp"); (case esn => (intro _ zz; cases zz)))
  | fail)
local macro_rules | `(tactic| walk_at "pen") => `(tactic| first
  | (refine' PenAt.kpd ?pek ?ped ?pes; (case pes => assumption); (case ped => walk_at "hp"); (case pek => walk_at "pen"))
  | fail)
local macro_rules | `(tactic| walk_at "ik") => `(tactic| first
  | (refine' InsK.trans ?ika ?ikb; (case ikb => (refine' InsK.kpd ?ikl ?ikk; (case ikk => assumption); (case ikl => walk_at "hp"))); (case ika => walk_at "ik"))
  | fail)
local macro_rules | `(tactic| walk_at "tabs") => `(tactic| first
  | (refine' OZ.Tabs.kpd ?tbs ?tbl ?tbk; (case tbs => assumption); (case tbl => walk_at "hp"); (case tbk => walk_at "tabs"))
  | fail)
local macro_rules | `(tactic| walk_at "y") => `(tactic| first
  | with_reducible refine y_js ?_
  | with_reducible refine y_js0 ?_
  | with_reducible refine y_fmt ?_
  | with_reducible refine y_fmtP ?_
  | with_reducible refine y_methP ?_
  | with_reducible refine y_methKP ?_
  | fail)
local macro_rules | `(tactic| walk_at "tpk") => `(tactic| first
  | assumption
  | exact TupK.refl
  | (refine' TupK.trans ?ika ?ikb; (case ikb => exact TupK.same (by assumption)); (case ika => walk_at "tpk"))
  | (refine' TupK.trans ?ika ?ikb; (case ikb => exact TupK.ext (by assumption)); (case ika => walk_at "tpk"))
  | (refine' TupK.trans ?ika ?ikb; (case ikb => (refine' TupK.pen ?ikp ?ikk; (case ikk => assumption); (case ikp => walk_at "pen"))); (case ika => walk_at "tpk"))
  | fail)
section
variable {P : Program} {w : World} {K : PySem.W.Frag} {mg : Str → Option Value} {base : Heap}
theorem kwT_db {n s n' s' : Str} {d : Option Rat} : kwT ⟨n, s, d⟩ = kwT ⟨n', s', d⟩ := by cases d <;> rfl
theorem pl_mk {H : Hp} {l : Addr} {n s : Str} {d : Option Rat} {r : V} {z : Str} (h : H l = some (.tup [.str z, .str n, .str s, r])) (hz : z = kwT ⟨n, s, d⟩) (hr : RghQ H d r) : PlAt H l ⟨n, s, d⟩ := ⟨r, by rw [← hz]; exact h, hr⟩
def spChg (K : PySem.W.Frag) : Sp := fun vs H Q _ => ∃ (p c : Addr) (n : Nat) (a : Addr) (t : Tl), vs = [.ref p, .ref a] ∧ PenAt H p c n ∧ n ≤ 70000 ∧ PlAt H a t ∧ TlL t ∧ ∀ H', PenAt H' p c (n + 10) → Kp p H H' → Q (.bl true) H'
abbrev s_chg : Stmt := topS 51
theorem sc_chg : FnScope ["_law_pen_here", "_law_plain_here", "_law_made_here", "_law_word", "_law_title", "_law_course", "_law_rough", "_law_other", "_law_way", "_law_fresh"] ["_law_pen_here", "_law_plain_here"] (defScope s_chg) := ⟨rfl, rfl, rfl, by decide +kernel, rfl, by decide +kernel, by decide +kernel⟩
set_option maxHeartbeats 4000000 in
theorem ok_chg {f : Addr} {fd : FuncData} (F : FnP K "_law_changed_right" s_chg f fd) (T : TopT K mg) (TF : TlF K) (TE : TlE K) (O : AOps P w K mg base) (TO : TlOps P w K mg base)
    (F_law_draw : Fnc P w K mg base 1 "_law_draw" ["_law_pen_here", "_law_many"] spDraw) (F_law_pick : Fnc P w K mg base 2 "_law_pick" ["_law_pen_here", "_law_some"] spPick) (F_law_number : Fnc P w K mg base 3 "_law_number" ["_law_pen_here"] spNumber)
    (F_law_passed : Fnc P w K mg base 5 "_law_passed" ["_law_pen_here", "_law_number_here"] (spPassed K)) (F_law_made : Fnc P w K mg base 9 "_law_made" ["_law_plain_here"] (spMade K)) (F_law_is : Fnc P w K mg base 6 "_law_is" ["_law_device", "_law_plain_here"] (spIs K)) (F_law_turned : Fnc P w K mg base 1 "_law_turned" ["_law_course"] spTurned) :
    FnOk P w K mg base (L2.CX P w) 11 f fd ["_law_pen_here", "_law_plain_here"] (spChg K) := by
  have nd := sc_chg.nd
  refine F.ok sc_chg (fun vs H Q E h => ?_) (fun cdv A' outer s H vs Q E hr h => ?_)
  · obtain ⟨p, c, n, a, t, rfl, _⟩ := h
    rfl
  · obtain ⟨p, c, n, a, t, rfl, hP, hn, ha, ok, k⟩ := h
    refine ⟨_, PSs.nox (pss_cons (ps_set (i := 2) nd rfl (Or.inl rfl) (oc F_law_made (hr.mono (by decide)) (pa_cons (pv 1) pa_nil)))
      (pss_cons (ps_asg (pv 1) (pg_tup rfl (pgs_cons (pg_name (i := 3) nd rfl (Or.inl rfl)) (pgs_cons (pg_name (i := 4) nd rfl (Or.inl rfl)) (pgs_cons (pg_name (i := 5) nd rfl (Or.inl rfl)) (pgs_cons (pg_name (i := 6) nd rfl (Or.inl rfl)) pgs_nil))))))
      (pss_cons (ps_if (PW.pt (pw_or (pt_not (pt_val (oc F_law_is (hr.mono (by decide)) (pa_cons (pe_un (o_negP TO.M_tool_neg (hr.mono (by decide)) passL) (pv 2)) (pa_cons (pe_tup (pa_cons (pv 3) (pa_cons (pv 4) (pa_cons (oc F_law_turned (hr.mono (by decide)) (pa_cons (pv 5) pa_nil)) (pa_cons (pv 6) pa_nil))))) pa_nil))))) (pw_or1 (pt_not (pt_cmpR (o_eqP TO.M_tool_eq (hr.mono (by decide)) passL) (pe_un (o_negP TO.M_tool_neg (hr.mono (by decide)) passL) (pe_un (o_negP TO.M_tool_neg (hr.mono (by decide)) passL) (pv 2))) (pv 2) (nomark _))))))
        (pss_one (ps_ret pe_bl))
        pss_nil)
      (pss_cons (ps_if (pt_cmpR op_ne (pe_cmpR (o_eqP TO.M_tool_eq (hr.mono (by decide)) passL) (pe_un (o_negP TO.M_tool_neg (hr.mono (by decide)) passL) (pv 2)) (pv 2) (nomark _)) (pe_cmpR op_eq (pv 5) pe_str (nomark _)) (nomark _))
        (pss_one (ps_ret pe_bl))
        pss_nil)
      (pss_cons (ps_par (i := 7) (j := 8) (by rfl) nd rfl rfl (by decide) rfl rfl (pa_cons (oc F_law_pick (hr.mono (by decide)) (pa_cons (pv 0) (pa_cons (pe_lst (pa_cons pe_str (pa_cons pe_str (pa_cons pe_str pa_nil)))) pa_nil))) (pa_cons (oc F_law_pick (hr.mono (by decide)) (pa_cons (pv 0) (pa_cons (pe_lst (pa_cons pe_str (pa_cons pe_str (pa_cons pe_str pa_nil)))) pa_nil))) pa_nil)) (by rfl))
      (pss_cons (ps_if (PW.pt (pw_or (pt_not (pt_val (oc F_law_is (hr.mono (by decide)) (pa_cons (omP TO.M_tool_renamed (hr.mono (by decide)) passL (pv 2) (pa_cons (pv 7) pa_nil)) (pa_cons (pe_tup (pa_cons (pv 3) (pa_cons (pv 7) (pa_cons (pv 5) (pa_cons (pv 6) pa_nil))))) pa_nil))))) (pw_or1 (pt_cmpR (o_neP TO.N_tool TO.M_tool_eq (hr.mono (by decide)) passL) (omKP TO.MK_tool_renamed (hr.mono (by decide)) passL (pv 2) (pk_cons (pv 4) pk_nil)) (pv 2) (nomark _)))))
        (pss_one (ps_ret pe_bl))
        pss_nil)
      (pss_cons (ps_if (PW.pt (pw_or (pt_not (pt_val (oc F_law_is (hr.mono (by decide)) (pa_cons (omP TO.M_tool_with_sense (hr.mono (by decide)) passL (pv 2) (pa_cons (pv 8) pa_nil)) (pa_cons (pe_tup (pa_cons (pv 3) (pa_cons (pv 4) (pa_cons (pv 8) (pa_cons (pv 6) pa_nil))))) pa_nil))))) (pw_or1 (pt_cmpR (o_neP TO.N_tool TO.M_tool_eq (hr.mono (by decide)) passL) (omKP TO.MK_tool_with_sense (hr.mono (by decide)) passL (pv 2) (pk_cons (pv 5) pk_nil)) (pv 2) (nomark _)))))
        (pss_one (ps_ret pe_bl))
        pss_nil)
      (Evl.pss_cut (ps_if (pt_cmpR o_notN (pv 6) pe_non (nomark _))
        (pss_cons (ps_set (i := 9) nd rfl (Or.inl rfl) (oc F_law_number (hr.mono (by decide)) (pa_cons (pv 0) pa_nil)))
        (pss_cons (ps_set (i := 9) nd rfl (Or.inl rfl) (pe_tup (pa_cons (pe_callB c_abs (by rfl) T.n_abs (by decide +kernel) (pa_cons (pe_ix ix_tup (pv 9) pe_int (fun _ _ => rfl)) pa_nil)) (pa_cons (pe_ix ix_tup (pv 9) pe_int (fun _ _ => rfl)) pa_nil))))
        (pss_cons (ps_if (pt_not (pt_val (oc F_law_is (hr.mono (by decide)) (pa_cons (omP TO.M_tool_with_doubt (hr.mono (by decide)) passL (pv 2) (pa_cons (oc F_law_passed (hr.mono (by decide)) (pa_cons (pv 0) (pa_cons (pv 9) pa_nil))) pa_nil)) (pa_cons (pe_tup (pa_cons (pv 3) (pa_cons (pv 4) (pa_cons (pv 5) (pa_cons (pv 9) pa_nil))))) pa_nil)))))
          (pss_one (ps_ret pe_bl))
          pss_nil)
        (pss_one (ps_if (pt_cmpR (o_neP TO.N_tool TO.M_tool_eq (hr.mono (by decide)) passL) (omKP TO.MK_tool_with_doubt (hr.mono (by decide)) passL (pv 2) (pk_cons (pe_att (pv 2)) pk_nil)) (pv 2) (nomark _))
          (pss_one (ps_ret pe_bl))
          pss_nil)))))
        pss_nil)
      (pss_one (ps_ret (oc F_law_is (hr.mono (by decide)) (pa_cons (pv 2) (pa_cons (pv 1) pa_nil))))))))))))), ?_⟩
    have okk := ok.ok
    obtain ⟨tn, ts, td⟩ := t
    have so := oth_sen ok.sn
    dsimp only at so
    have okt : TlL ⟨tn, oth ts, td⟩ := ⟨ok.nm, so.1, ok.db⟩
    repeat walk_at "y"
    refine ⟨a, _, rfl, ha, ok, fun m H1 n1 s1 t1 => ?_⟩
    obtain ⟨r, hra, hrr⟩ := ha.tk (TupK.same s1)
    repeat walk_at "y"
    refine y_tneg t1 okk fun b1 H2 n2 s2 t2 => ?_
    repeat walk_at "y"
    refine ⟨ts, rfl, ok.sn, fun H3 s3 => ?_⟩
    repeat walk_at "y"
    rename_i l4 H4 n4 s4 o4
    refine ⟨b1, l4, _, rfl, by walk_at "tl", pl_mk (d := td) o4 kwT_db (hrr.tk (by walk_at "tpk")), okt, fun H5 s5 => ?_⟩
    repeat walk_at "y"
    refine y_tneg (show TlAt K H5 m _ by walk_at "tl") okk fun b6 H6 n6 s6 t6 => ?_
    repeat walk_at "y"
    refine y_tneg t6 okt.ok fun b7 H7 n7 s7 t7 => ?_
    repeat walk_at "y"
    have ok7 : TlOk ⟨tn, oth (oth ts), td⟩ := by rw [so.2.1]; exact okk
    refine y_teq TF TE t7 (show TlAt K H7 m _ by walk_at "tl") ok7 okk fun H8 s8 => ?_
    rw [show teq ⟨tn, oth (oth ts), td⟩ ⟨tn, ts, td⟩ = true by rw [so.2.1]; exact teq_self _]
    repeat walk_at "y"
    refine y_tneg (show TlAt K H8 m _ by walk_at "tl") okk fun b9 H9 n9 s9 t9 => ?_
    repeat walk_at "y"
    refine y_teq TF TE t9 (show TlAt K H9 m _ by walk_at "tl") okt.ok okk fun H10 s10 => ?_
    have e10 : teq ⟨tn, oth ts, td⟩ ⟨tn, ts, td⟩ = decide (V.str ts = V.str "unsure") := by
      by_cases e : ts = "unsure"
      · rw [decide_eq_true (congrArg V.str e), teq_iff]
        rw [so.2.2.mpr e]
      · rw [decide_eq_false (fun z => e (by injection z)), teq_ne fun z => e (so.2.2.mp (by injection z))]
    rw [e10]
    repeat walk_at "y"
    refine y_pickH (fun G x => ∃ z, x = .str z ∧ isNm z = true) (by walk_at "pen") (by omega) (by walk_at "np") (by walk_at "hp") (by simp) (by simp) ?_ ?_
    · repeat' (first | exact allv_nil | refine allv_cons ⟨_, rfl, by decide +kernel⟩ ?_)
    rintro x H11 ⟨zn, rfl, hzn⟩ P10 P11 k11
    repeat walk_at "y"
    refine y_pickH (fun G x => ∃ z, x = .str z ∧ z ∈ SEN) (by walk_at "pen") (by omega) (by walk_at "np") (by walk_at "hp") (by simp) (by simp) ?_ ?_
    · repeat' (first | exact allv_nil | refine allv_cons ⟨_, rfl, by decide +kernel⟩ ?_)
    rintro x H12 ⟨zs, rfl, hzs⟩ P11' P12 k12
    repeat walk_at "y"
    have t12 : TlAt K H12 m ⟨tn, ts, td⟩ := by walk_at "tl"
    obtain ⟨dx12, fs12, hi12, hl12⟩ := t12.ins
    refine ⟨m, _, dx12, fs12, rfl, hi12, isTl_cls _, hl12 _ (by decide), ?_⟩
    repeat walk_at "y"
    refine ⟨m, _, _, rfl, t12, okk, newD_ok hzn ok.sn fun b13 H13 n13 s13 t13 => ?_⟩
    repeat walk_at "y"
    rename_i l14 H14 n14 s14 o14
    have ok13 : TlL ⟨zn, ts, td⟩ := ⟨hzn, ok.sn, ok.db⟩
    refine ⟨b13, l14, _, rfl, by walk_at "tl", pl_mk (d := td) o14 kwT_db (hrr.tk (by walk_at "tpk")), ok13, fun H15 s15 => ?_⟩
    repeat walk_at "y"
    have t15 : TlAt K H15 m ⟨tn, ts, td⟩ := by walk_at "tl"
    obtain ⟨dx15, fs15, hi15, hl15⟩ := t15.ins
    refine ⟨m, _, dx15, fs15, rfl, hi15, isTl_cls _, hl15 _ (by decide), ?_⟩
    repeat walk_at "y"
    refine ⟨rfl, m, _, _, rfl, t15, okk, newD_ok ok.nm ok.sn fun b16 H16 n16 s16 t16 => ?_⟩
    repeat walk_at "y"
    refine y_tne TF TE t16 (show TlAt K H16 m _ by walk_at "tl") okk okk fun H17 s17 => ?_
    rw [teq_self]
    repeat walk_at "y"
    have t17 : TlAt K H17 m ⟨tn, ts, td⟩ := by walk_at "tl"
    obtain ⟨dx17, fs17, hi17, hl17⟩ := t17.ins
    refine ⟨m, _, dx17, fs17, rfl, hi17, isTl_cls _, hl17 _ (by decide), ?_⟩
    repeat walk_at "y"
    refine ⟨m, _, _, rfl, t17, okk, newD_ok ok.nm hzs fun b18 H18 n18 s18 t18 => ?_⟩
    repeat walk_at "y"
    rename_i l19 H19 n19 s19 o19
    have ok18 : TlL ⟨tn, zs, td⟩ := ⟨ok.nm, hzs, ok.db⟩
    refine ⟨b18, l19, _, rfl, by walk_at "tl", pl_mk (d := td) o19 kwT_db (hrr.tk (by walk_at "tpk")), ok18, fun H20 s20 => ?_⟩
    repeat walk_at "y"
    have t20 : TlAt K H20 m ⟨tn, ts, td⟩ := by walk_at "tl"
    obtain ⟨dx20, fs20, hi20, hl20⟩ := t20.ins
    refine ⟨m, _, dx20, fs20, rfl, hi20, isTl_cls _, hl20 _ (by decide), ?_⟩
    repeat walk_at "y"
    refine ⟨rfl, m, _, _, rfl, t20, okk, newD_ok ok.nm ok.sn fun b21 H21 n21 s21 t21 => ?_⟩
    repeat walk_at "y"
    refine y_tne TF TE t21 (show TlAt K H21 m _ by walk_at "tl") okk okk fun H22 s22 => ?_
    rw [teq_self]
    have t22 : TlAt K H22 m ⟨tn, ts, td⟩ := by walk_at "tl"
    have P22 : PenAt H22 p c (n + 1 + 1) := by walk_at "pen"
    have k22 : Kp p H H22 := by walk_at "kpc"
    have a22 : PlAt H22 a ⟨tn, ts, td⟩ := ha.tk (by walk_at "tpk")
    have r22 : RghQ H22 td r := hrr.tk (by walk_at "tpk")
    clear t21 t20 t18 t16 t15 t13 t12 t9 t7 t6 t2 t1
    rcases r22 with ⟨e, rfl⟩ | ⟨ra, q, e, rfl, hra22⟩
    · subst e
      repeat walk_at "y"
      exact ⟨m, a, _, rfl, t22, a22, ok, fun H' s => k H' ((P22.same s).mono (by omega)) (k22.trans (Kp.of s))⟩
    · subst e
      repeat walk_at "y"
      refine ⟨p, c, _, rfl, P22, by omega, fun rb t b H23 h23 nf st sb P23 k23 => ?_⟩
      have t23 : TlAt K H23 m ⟨tn, ts, some q⟩ := by walk_at "tl"
      have a23 : PlAt H23 a ⟨tn, ts, some q⟩ := a22.tk (by walk_at "tpk")
      have kk23 : Kp p H H23 := k22.trans k23
      clear t22 a22 k22
      repeat walk_at "y"
      rename_i l24 H24 n24 s24 o24
      have nf2 : Nf (if t < 0 then -t else t) b := by
        split
        · exact ⟨nf.pos, by rw [Int.neg_gcd]; exact nf.gcd⟩
        · exact nf
      have st2 : Sz 110 (if t < 0 then -t else t) := by
        split
        · exact st.neg
        · exact st
      have t0 : 0 ≤ (if t < 0 then -t else t) := by split <;> omega
      have e := nf_divq nf2
      have q0 := divq_nn t0 nf.pos
      have sq : SzQ 110 (divq (if t < 0 then -t else t) b) := by rw [SzQ, e.1, e.2]; exact ⟨st2, sb⟩
      have h24 : H24 l24 = some (.tup [.int (divq (if t < 0 then -t else t) b).num, .int ((divq (if t < 0 then -t else t) b).den : Int)]) := by rw [e.1, e.2]; exact o24
      generalize divq (if t < 0 then -t else t) b = q2 at q0 sq h24
      have t24 : TlAt K H24 m ⟨tn, ts, some q⟩ := by walk_at "tl"
      obtain ⟨dx24, fs24, hi24, hl24⟩ := t24.ins
      refine ⟨m, _, dx24, fs24, rfl, hi24, rfl, hl24 _ (by decide), ?_⟩
      repeat walk_at "y"
      refine ⟨p, c, _, l24, q2, rfl, by walk_at "pen", by omega, h24, sq, fun v H25 nv hv P25 k25 => ?_⟩
      have t25 : TlAt K H25 m ⟨tn, ts, some q⟩ := by walk_at "tl"
      repeat walk_at "y"
      refine ⟨m, _, q, v, rfl, t25, rfl, okk, newS_ok ok.nm ok.sn hv (sq.mono (by decide)) q0 fun b26 H26 n26 s26 t26 => ?_⟩
      have h25 : H25 l24 = some (.tup [.int q2.num, .int (q2.den : Int)]) := k25 _ _ (by walk_at "np") h24
      repeat walk_at "y"
      rename_i l27 H27 n27 s27 o27
      refine ⟨b26, l27, ⟨tn, ts, some q2⟩, rfl, by walk_at "tl", pl_mk (d := some q2) o27 rfl (.inr ⟨l24, q2, rfl, rfl, by walk_at "hp"⟩), ⟨ok.nm, ok.sn, fun q' e => by cases e; exact ⟨q0, sq⟩⟩, fun H28 s28 => ?_⟩
      repeat walk_at "y"
      have t28 : TlAt K H28 m ⟨tn, ts, some q⟩ := by walk_at "tl"
      obtain ⟨dx28, fs28, hi28, hl28⟩ := t28.ins
      refine ⟨m, _, dx28, fs28, rfl, hi28, rfl, hl28 _ (by decide), ?_⟩
      repeat walk_at "y"
      refine y_atD TF t28 fun d hd => ?_
      repeat walk_at "y"
      refine ⟨rfl, m, _, q, _, rfl, t28, rfl, okk, newS_ok ok.nm ok.sn (.inr ⟨d, rfl, hd⟩) (okk.db q rfl).2 (okk.db q rfl).1 fun b29 H29 n29 s29 t29 => ?_⟩
      repeat walk_at "y"
      refine y_tne TF TE t29 (show TlAt K H29 m _ by walk_at "tl") okk okk fun H30 s30 => ?_
      rw [teq_self]
      repeat walk_at "y"
      exact ⟨m, a, _, rfl, by walk_at "tl", a23.tk (by walk_at "tpk"), ok, fun H' s => k H' ((show PenAt H' p c _ by walk_at "pen").mono (by omega)) (by walk_at "kpc")⟩
end
end LW
set_option maxRecDepth 100000
namespace LW
open PySem PySem.Spec PyProof.Rows L2 OZ LamX
local macro_rules | `(tactic| walk_at "szx1") => `(tactic| first
  | with_reducible assumption
  | exact sz_i64 (n := 64) (by decide)
  | (refine' Sz.add ?sx ?sy; (case sx => walk_at "szx1"); (case sy => walk_at "szx1"))
  | (refine' Sz.sub ?sx ?sy; (case sx => walk_at "szx1"); (case sy => walk_at "szx1"))
  | (refine' Sz.mul ?sx ?sy; (case sx => walk_at "szx1"); (case sy => walk_at "szx1"))
  | (refine' Sz.neg ?sx; (case sx => walk_at "szx1"))
  | (refine' Sz.iabs ?sx; (case sx => walk_at "szx1"))
  | (refine' sz_fdiv ?sx ?sy; (case sy => walk_at "nz"); (case sx => walk_at "szx1")))
local macro_rules | `(tactic| walk_at "szx") => `(tactic| (refine' Sz.mono ?szk ?szl; (case szk => walk_at "szx1"); (case szl => exact Nat.le_of_ble_eq_true rfl)))
local macro_rules | `(tactic| walk_at "aq") => `(tactic| first
  | assumption
  | (refine' AmQ.same ?aqs ?aqk; (case aqs => assumption); (case aqk => walk_at "aq"))
  | (refine' AmQ.extN ?aqs ?aqk; (case aqs => assumption); (case aqk => walk_at "aq"))
  | (refine' AmQ.kpl ?aqs ?aql ?aqk; (case aqs => assumption); (case aql => walk_at "hp"); (case aqk => walk_at "aq"))
  | (refine' AmQ.kp ?aql ?aqs ?aqk; (case aqs => assumption); (case aql => walk_at "pen"); (case aqk => walk_at "aq")))
local macro_rules | `(tactic| walk_at "nq") => `(tactic| first
  | assumption
  | exact NumQ.int
  | (refine' NumQ.am ?nqk; (case nqk => walk_at "aq"))
  | (refine' NumQ.same ?nqs ?nqk; (case nqs => assumption); (case nqk => walk_at "nq"))
  | (refine' NumQ.extN ?nqs ?nqk; (case nqs => assumption); (case nqk => walk_at "nq"))
  | (refine' NumQ.kpl ?nqs ?nql ?nqk; (case nqs => assumption); (case nql => walk_at "hp"); (case nqk => walk_at "nq")))
local macro_rules | `(tactic| walk_at "sz1") => `(tactic| first
  | with_reducible assumption
  | (refine' SzQ.add ?sx ?sy; (case sx => walk_at "sz1"); (case sy => walk_at "sz1"))
  | (refine' SzQ.sub ?sx ?sy; (case sx => walk_at "sz1"); (case sy => walk_at "sz1"))
  | (refine' SzQ.mul ?sx ?sy; (case sx => walk_at "sz1"); (case sy => walk_at "sz1"))
  | (refine' SzQ.div ?sx ?sy ?sz; (case sz => assumption); (case sx => walk_at "sz1"); (case sy => walk_at "sz1"))
  | (refine' SzQ.rmod ?sx ?sy ?sz; (case sz => assumption); (case sx => walk_at "sz1"); (case sy => walk_at "sz1"))
  | (refine' SzQ.neg ?sx; (case sx => walk_at "sz1"))
  | (refine' SzQ.qabs ?sx; (case sx => walk_at "sz1"))
  | (refine' SzQ.int ?sx ?sy; (case sx => with_reducible assumption); (case sy => exact Nat.le_of_ble_eq_true rfl))
  | exact sz_lit (by decide))
local macro_rules | `(tactic| walk_at "sz") => `(tactic| (refine' SzQ.mono ?szk ?szl; (case szk => walk_at "sz1"); (case szl => exact Nat.le_of_ble_eq_true rfl)))
local macro_rules | `(tactic| walk_at "nz") => `(tactic| first
  | assumption
  | decide
  | omega
  | exact intq0 (by decide))
local macro_rules | `(tactic| walk_at "szi") => `(tactic| first
  | assumption
  | exact Sz.mono (by with_reducible assumption) (Nat.le_of_ble_eq_true rfl)
  | exact sz_i64 (by decide))
local macro_rules | `(tactic| walk_at "ex") => `(tactic| first
  | assumption
  | (refine ExAt.same (by assumption) ?_; walk_at "ex"))
local macro_rules | `(tactic| walk_at "same") => `(tactic| first
  | assumption
  | exact same0
  | (refine Same.trans ?_ (by assumption); walk_at "same"))
local macro_rules | `(tactic| walk_at "tabs") => `(tactic| first
  | assumption
  | (refine' OZ.Tabs.same ?tbs ?tbk; (case tbs => assumption); (case tbk => walk_at "tabs"))
  | (refine' OZ.Tabs.kpl ?tbs ?tbl ?tbk; (case tbs => assumption); (case tbl => walk_at "hp"); (case tbk => walk_at "tabs"))
  | (refine' OZ.Tabs.kp ?tbl ?tbs ?tbk; (case tbs => assumption); (case tbl => walk_at "pen"); (case tbk => walk_at "tabs")))
local macro_rules | `(tactic| walk_at "ext") => `(tactic| first
  | assumption
  | exact LamX.ExtN.refl _
  | exact LamX.ExtN.of (by assumption)
  | (refine LamX.ExtN.trans ?_ (by assumption); walk_at "ext")
  | (refine LamX.ExtN.trans ?_ (LamX.ExtN.of (by assumption)); walk_at "ext"))
local macro_rules | `(tactic| walk_at "pen") => `(tactic| first
  | assumption
  | (refine' PenAt.same ?pek ?pes; (case pes => assumption); (case pek => walk_at "pen"))
  | (refine' PenAt.extN ?pek ?pes; (case pes => assumption); (case pek => walk_at "pen")))
local macro_rules | `(tactic| walk_at "kn") => `(tactic| first
  | assumption
  | exact KN.refl
  | (refine KN.trans ?_ (KN.same (by assumption)); walk_at "kn")
  | (refine KN.trans ?_ (KN.kp (by assumption)); walk_at "kn")
  | (refine KN.trans ?_ (KN.ext (by assumption)); walk_at "kn")
  | (refine KN.trans ?_ (by assumption); walk_at "kn"))
local macro_rules | `(tactic| walk_at "free") => `(tactic| first
  | assumption
  | (refine sfree (by assumption) ?_; walk_at "free"))
local macro_rules | `(tactic| walk_at "hp") => `(tactic| first
  | assumption
  | exact upd_same
  | (refine sat (by assumption) ?_; walk_at "hp")
  | (refine' esat ?ess ?esk ?esn; (case ess => assumption); (case esk => walk_at "hp"); (case esn => (intro _ zz; cases zz)))
  | (refine' kpne ?ess ?esn ?esk; (case ess => assumption); (case esn => (first | assumption | exact Ne.symm (by assumption))); (case esk => walk_at "hp"))
  | (refine' kpsat ?ess ?esl ?esk ?esn; (case ess => assumption); (case esl => walk_at "hp"); (case esk => walk_at "hp"); (case esn => (intro _ zz; cases zz)))
  | (refine upd_old ?_ ?_; (first | assumption | exact free_upd (by assumption)); walk_at "hp")
  | (refine upd_oth ?_ ?_; (first | assumption | exact Ne.symm (by assumption)); walk_at "hp"))
local macro_rules | `(tactic| walk_at "side") => `(tactic| first
  | assumption
  | decide
  | omega
  | exact ⟨by omega, by omega, by omega⟩
  | exact Or.inl ⟨by omega, by omega⟩
  | exact Or.inr ⟨by omega, by omega⟩
  | (show (_ : Int) ≠ 0; omega)
  | (refine' Sz.mulW ?ma ?mb ?mc; (case ma => walk_at "szx1"); (case mb => walk_at "szx1"); (case mc => exact Nat.le_of_ble_eq_true rfl))
  | (refine' Sz.divN ?ma ?mb ?mc; (case ma => walk_at "szx1"); (case mb => walk_at "nz"); (case mc => exact Nat.le_of_ble_eq_true rfl))
  | exact wide_div (b := 64) (by omega) (by omega) (by decide) (by decide)
  | exact wide_div (b := 4000) (by assumption) (by assumption) (by decide) (by decide))
local macro_rules | `(tactic| walk_at "y") => `(tactic| first
  | ((with_reducible refine y_var ?_); refine ⟨_, rfl, ?_⟩)
  | with_reducible refine y_c ?_
  | with_reducible refine y_op ?_
  | with_reducible refine y_cb ?_
  | with_reducible refine y_cons ?_
  | with_reducible refine y_nil ?_
  | with_reducible refine y_seq ?_
  | with_reducible refine y_asg ?_
  | with_reducible refine x_gn ?_
  | ((with_reducible refine' y_nx ?k1 ?k2); (case k1 => (simp only [L2.start, List.length_cons, List.length_nil, List.map_cons, List.map_nil, List.set_cons_succ, List.set_cons_zero, List.cons_append, List.nil_append, List.replicate]; rfl)))
  | with_reducible refine y_gsub ?_
  | with_reducible refine y_ret ?_
  | with_reducible refine y_drop ?_
  | with_reducible refine y_next ?_
  | with_reducible refine y_ifS ?_
  | with_reducible refine y_test ?_
  | with_reducible refine y_B ?_
  | with_reducible refine y_ex ?_
  | with_reducible refine y_not ?_
  | with_reducible refine y_and ?_
  | with_reducible refine y_or ?_
  | with_reducible refine y_notV ?_
  | with_reducible refine y_andV ?_
  | with_reducible refine y_orV ?_
  | with_reducible refine y_ifE ?_
  | with_reducible refine y_un ?_
  | with_reducible refine x_par ?_
  | with_reducible refine y_ex2 ?_
  | with_reducible refine y_call ?_
  | with_reducible refine y_callS ?_
  | with_reducible refine y_I0 ?_
  | ((with_reducible refine y_I ?_ ?_); (walk_at "side"))
  | with_reducible refine y_U ?_
  | ((with_reducible refine y_eq ?_ ?_); (exact rfl))
  | ((with_reducible refine y_ne ?_ ?_); (exact rfl))
  | ((with_reducible refine' y_ixL ?k1 ?k2 ?k3); (case k1 => walk_at "hp"); (case k2 => (first | assumption | exact rfl)))
  | ((with_reducible refine' y_ixT ?k1 ?k2 ?k3); (case k1 => walk_at "hp"); (case k2 => (first | assumption | exact rfl)))
  | ((with_reducible refine' y_setL ?k1 ?k2 ?k3); (case k1 => walk_at "hp"); (case k2 => (first | assumption | exact rfl)))
  | with_reducible refine y_int ?_
  | with_reducible refine y_intB ?_
  | with_reducible refine y_abs ?_
  | ((with_reducible refine' y_lenL ?k1 ?k3); (case k1 => walk_at "hp"))
  | ((with_reducible refine' y_lenT ?k1 ?k3); (case k1 => walk_at "hp"))
  | ((with_reducible refine y_lenS ?_ ?_); (walk_at "side"))
  | with_reducible refine y_isN ?_
  | with_reducible refine y_notN ?_
  | ((with_reducible refine y_addS ?_ ?_); (walk_at "side"))
  | with_reducible refine y_inC ?_
  | with_reducible refine y_notInC ?_
  | with_reducible refine y_sl ?_
  | with_reducible refine y_part ?_
  | with_reducible refine y_nopart ?_
  | with_reducible refine y_exI ?_
  | ((with_reducible refine y_slS ?_ ?_); (walk_at "side"))
  | with_reducible refine z_lst ?_
  | with_reducible refine z_tup ?_
  | ((with_reducible refine z_newL ?_ ?_); (exact Nat.le_of_ble_eq_true rfl); (intro pp HH npp spp opp))
  | ((with_reducible refine z_newT ?_ ?_); (exact Nat.le_of_ble_eq_true rfl); (intro pp HH npp spp opp))
  | ((with_reducible refine' y_chI ?k1 ?k2); (case k1 => exact rfl))
  | with_reducible refine y_chain ?_
  | with_reducible refine y_yes ?_
  | with_reducible refine y_att ?_
  | ((with_reducible refine y_disp ?_ ?_); (exact Nat.le_of_ble_eq_true rfl); (intro pp hpp))
  | ((with_reducible refine' y_gtup ?k1 ?k2 ?k3); (case k1 => walk_at "hp"); (case k2 => exact rfl))
  | with_reducible refine y_gcons ?_
  | with_reducible refine y_gnil ?_
  | with_reducible refine y_mkO ?_
  | with_reducible refine y_callKw ?_
  | with_reducible refine y_mkA ?_
  | with_reducible refine y_sm ?_
  | with_reducible refine y_smK ?_
  | with_reducible refine y_cut0 ?_
  | with_reducible refine y_methK ?_
  | ((with_reducible refine' y_lm ?k1 ?k2); (case k1 => walk_at "tabs"); (intro HH ee tt))
  | ((with_reducible refine' z_rep ?k1 ?k2 ?k3 ?k4 ?k5); (case k1 => walk_at "hp"); (case k2 => decide); (case k3 => decide); (case k4 => exact Nat.le_of_ble_eq_true rfl); (intro pp HH npp spp opp))
  | ((with_reducible refine z_rev (by decide) (by walk_at "hp") ?_); (intro pp HH npp spp opp))
  | with_reducible refine y_rfl ?_
  | with_reducible refine y_mkA1 ?_
  | ((with_reducible refine' y_aqT ?k0 ?k1 ?k2); (case k0 => assumption); (case k1 => walk_at "aq"))
  | ((with_reducible refine' y_aqB ?k0 ?k1 ?k2); (case k0 => assumption); (case k1 => walk_at "aq"))
  | ((with_reducible refine' y_bin ?k1 ?k2 ?k3 ?k4 ?k5); (case k1 => walk_at "aq"); (case k2 => walk_at "nq"); (case k3 => walk_at "sz"); (case k4 => walk_at "sz"); (intro pp HH npp spp opp))
  | ((with_reducible refine' y_rbin ?k1 ?k3 ?k4 ?k5); (case k1 => walk_at "aq"); (case k3 => walk_at "sz"); (case k4 => walk_at "sz"); (intro pp HH npp spp opp))
  | ((with_reducible refine' y_binM ?k1 ?k2 ?k3 ?k4 ?k5); (case k1 => walk_at "aq"); (case k2 => walk_at "nq"); (case k3 => walk_at "sz"); (case k4 => walk_at "sz"); (intro pp HH npp spp opp))
  | ((with_reducible refine' y_rbinM ?k1 ?k3 ?k4 ?k5); (case k1 => walk_at "aq"); (case k3 => walk_at "sz"); (case k4 => walk_at "sz"); (intro pp HH npp spp opp))
  | ((with_reducible refine' y_binD ?k1 ?k2 ?k3 ?k4 ?k5 ?k6); (case k1 => walk_at "aq"); (case k2 => walk_at "nq"); (case k3 => walk_at "sz"); (case k4 => walk_at "sz"); (case k5 => walk_at "nz"); (intro pp HH npp spp opp))
  | ((with_reducible refine' y_rbinD ?k1 ?k3 ?k4 ?k5 ?k6); (case k1 => walk_at "aq"); (case k3 => walk_at "sz"); (case k4 => walk_at "sz"); (case k5 => walk_at "nz"); (intro pp HH npp spp opp))
  | ((with_reducible refine' y_binF ?k1 ?k2 ?k3 ?k4 ?k5 ?k6); (case k1 => walk_at "aq"); (case k2 => walk_at "nq"); (case k3 => walk_at "sz"); (case k4 => walk_at "sz"); (case k5 => walk_at "nz"); (intro HH spp))
  | ((with_reducible refine' y_rbinF ?k1 ?k3 ?k4 ?k5 ?k6); (case k1 => walk_at "aq"); (case k3 => walk_at "sz"); (case k4 => walk_at "sz"); (case k5 => walk_at "nz"); (intro HH spp))
  | ((with_reducible refine' y_cmp ?kK ?k0 ?k1 ?k2 ?k3 ?k4 ?k5); (case kK => exact rfl); (case k0 => assumption); (case k1 => walk_at "aq"); (case k2 => walk_at "nq"); (case k3 => walk_at "sz"); (case k4 => walk_at "sz"); (intro HH spp))
  | ((with_reducible refine' y_rcmp ?k1 ?k3 ?k4 ?k5); (case k1 => walk_at "aq"); (case k3 => walk_at "sz"); (case k4 => walk_at "sz"); (intro HH spp))
  | ((with_reducible refine' y_ceq ?kK ?k0 ?k1 ?k2 ?k5); (case kK => exact rfl); (case k0 => assumption); (case k1 => walk_at "aq"); (case k2 => walk_at "nq"); (intro HH spp))
  | ((with_reducible refine' y_req ?k1 ?k5); (case k1 => walk_at "aq"); (intro HH spp))
  | ((with_reducible refine' y_cne ?kK ?k0 ?k1 ?k2 ?k5); (case kK => exact rfl); (case k0 => assumption); (case k1 => walk_at "aq"); (case k2 => walk_at "nq"); (intro HH spp))
  | ((with_reducible refine' y_un1 ?k1 ?k3 ?k5); (case k1 => walk_at "aq"); (case k3 => walk_at "sz"); (intro pp HH npp spp opp))
  | ((with_reducible refine' y_absO ?k1 ?k3 ?k5); (case k1 => walk_at "aq"); (case k3 => walk_at "sz"); (intro pp HH npp spp opp))
  | ((with_reducible refine' y_truA ?k1 ?k5); (case k1 => walk_at "aq"))
  | ((with_reducible refine' y_boolA ?k1 ?k5); (case k1 => walk_at "aq"))
  | with_reducible refine y_meth ?_
  | ((with_reducible refine' y_methX ?k1 ?k2); (case k1 => walk_at "aq"))
  | ((with_reducible refine' y_over ?k1 ?k2 ?k3 ?k4 ?k5 ?k6); (case k1 => walk_at "aq"); (case k2 => walk_at "nq"); (case k3 => walk_at "sz"); (case k4 => walk_at "sz"); (case k5 => walk_at "nz"); (intro pp HH npp spp opp))
  | ((with_reducible refine x_aug ?_); refine ⟨_, rfl, ?_⟩)
  | ((with_reducible refine' y_nwI ?k1 ?k2 ?k3 ?k4); (case k1 => walk_at "nz"); (case k2 => walk_at "szi"); (case k3 => walk_at "szi"); (intro pp HH npp spp opp))
  | ((with_reducible refine' y_nwI1 ?k2 ?k4); (case k2 => walk_at "szi"); (intro pp HH npp spp opp))
  | with_reducible refine y_fld ?_
  | with_reducible refine y_for ?_
  | with_reducible refine y_iRng1 ?_
  | with_reducible refine y_iRng2 ?_
  | ((with_reducible refine y_rgF1 ?_ ?_); (first | decide | omega))
  | ((with_reducible refine y_rgL1 ?_ ?_); (first | decide | omega))
  | ((with_reducible refine y_rgF2 ?_ ?_); (first | decide | omega))
  | ((with_reducible refine y_rgL2 ?_ ?_); (first | decide | omega))
  | with_reducible refine y_lc ?_
  | with_reducible refine y_rev ?_
  | ((with_reducible refine' y_glst ?k1 ?k2 ?k3); (case k1 => walk_at "hp"); (case k2 => exact rfl))
  | with_reducible refine y_iList ?_
  | with_reducible refine y_iTup ?_
  | with_reducible refine y_iEnum ?_
  | ((with_reducible refine' y_itL ?k1 ?k2); (case k1 => walk_at "hp"))
  | ((with_reducible refine' y_itT ?k1 ?k2); (case k1 => walk_at "hp"))
  | ((with_reducible refine' y_itE ?k1 ?k2); (case k1 => walk_at "hp"))
  | with_reducible refine y_m0 ?_
  | ((with_reducible refine' z_slT ?k1 ?k2 ?k3); (case k1 => walk_at "hp"); (case k2 => decide); (intro pp HH npp spp opp))
  | with_reducible refine y_pp ?_
  | with_reducible refine y_pp0 ?_
  | with_reducible refine y_xv ?_
  | with_reducible refine y_xv0 ?_
  | with_reducible refine y_bm ?_
  | ((with_reducible refine' y_tyL ?k1 ?k2); (case k1 => walk_at "hp"))
  | ((with_reducible refine' z_app ?k1 ?k2 ?k3); (case k1 => walk_at "hp"); (case k2 => (first | exact Nat.le_of_ble_eq_true rfl | walk_at "side")); (intro HH kpp opp))
  | ((with_reducible refine' z_cat ?k1 ?k2 ?k3 ?k4); (case k1 => walk_at "hp"); (case k2 => walk_at "hp"); (case k3 => (first | exact Nat.le_of_ble_eq_true rfl | walk_at "side")); (intro pp HH npp spp opp))
  | ((with_reducible refine' z_slL ?k1 ?k2); (case k1 => walk_at "hp"); (intro pp HH npp spp opp))
  | ((with_reducible refine' y_in ?k1 ?k2 ?k3 ?k4); (case k1 => walk_at "hp"); (case k2 => exact rfl); (case k3 => exact rfl))
  | with_reducible refine y_iteT ?_
  | with_reducible refine y_iteF ?_
  | with_reducible refine y_iteNT ?_
  | with_reducible refine y_iteNF ?_
  | ((with_reducible refine y_iteY ?_ ?_); (first | exact rfl | assumption | omega))
  | ((with_reducible refine y_iteX ?_ ?_); (first | focus (intro zz; cases zz; done) | assumption | omega))
  | ((with_reducible refine y_iteNY ?_ ?_); (first | exact rfl | assumption | omega))
  | ((with_reducible refine y_iteNX ?_ ?_); (first | focus (intro zz; cases zz; done) | assumption | omega))
  | ((with_reducible refine y_ite ?_ ?_) <;> intro hh)
  | ((with_reducible refine y_iteN ?_ ?_) <;> intro hh)
  | dsimp only)
local macro_rules | `(tactic| walk_at "kpc") => `(tactic| first
  | assumption
  | exact Kp.refl _ _
  | (refine Kp.trans ?_ (by assumption); walk_at "kpc")
  | (refine Kp.trans ?_ (Kp.of (by assumption)); walk_at "kpc")
  | fail)
local macro_rules | `(tactic| walk_at "ik") => `(tactic| first
  | assumption
  | exact InsK.refl
  | (refine' InsK.trans ?ika ?ikb; (case ikb => exact InsK.same (by assumption)); (case ika => walk_at "ik"))
  | (refine' InsK.trans ?ika ?ikb; (case ikb => exact InsK.ext (by assumption)); (case ika => walk_at "ik"))
  | (refine' InsK.trans ?ika ?ikb; (case ikb => (refine' InsK.pen ?ikp ?ikk; (case ikk => assumption); (case ikp => walk_at "pen"))); (case ika => walk_at "ik"))
  | (refine' InsK.trans ?ika ?ikb; (case ikb => (refine' InsK.kpl ?ikl ?ikk; (case ikk => assumption); (case ikl => walk_at "hp"))); (case ika => walk_at "ik"))
  | fail)
local macro_rules | `(tactic| walk_at "tl") => `(tactic| first
  | assumption
  | (refine' TlAt.ik ?tlk ?tla; (case tla => assumption); (case tlk => walk_at "ik"))
  | fail)
local macro_rules | `(tactic| walk_at "drw") => `(tactic| first
  | ((with_reducible refine' y_drawC ?k1 ?k2 ?k3 ?k4 ?k5); (case k1 => walk_at "pen"); (case k2 => omega); (case k3 => (first | decide | omega)); (case k4 => (first | exact nat4000 (by decide) | exact nat4000 (Nat.le_trans (by omega) (show 1000000 ≤ 10 ^ 60 by decide)))); (intro rr HH rr0 rr1 PP kk))
  | fail)
local macro_rules | `(tactic| walk_at "np") => `(tactic| first
  | assumption
  | (refine' PenAt.p_ne ?npP ?nph; (case nph => assumption); (case npP => walk_at "pen"))
  | fail)
local macro_rules | `(tactic| walk_at "y") => `(tactic| first
  | with_reducible refine y_make ?_
  | with_reducible refine y_makeKG ?_
  | with_reducible refine y_smD ?_
  | with_reducible refine y_dget ?_
  | with_reducible refine y_dput ?_
  | ((with_reducible refine' z_dgetR ?k1 ?k2 ?k3); (case k1 => walk_at "hp"); (case k2 => exact rfl))
  | ((with_reducible refine z_disp ?_); (intro pp HH npp spp opp))
  | ((with_reducible refine z_dnew ?_); (intro pp HH npp spp opp))
  | fail)
local macro_rules | `(tactic| walk_at "hp") => `(tactic| first
  | (refine' kpne ?ess ?esn ?esk; (case ess => assumption); (case esn => walk_at "np"); (case esk => walk_at "hp"))
  | fail)
local macro_rules | `(tactic| walk_at "hp") => `(tactic| first
  | (refine' kpdat ?ess ?esl ?esk ?esn; (case ess => assumption); (case esl => walk_at "hp"); (case esk => walk_at "hp"); (case esn => (intro _ zz; cases zz)))
  | fail)
local macro_rules | `(tactic| walk_at "pen") => `(tactic| first
  | (refine' PenAt.kpd ?pek ?ped ?pes; (case pes => assumption); (case ped => walk_at "hp"); (case pek => walk_at "pen"))
  | fail)
local macro_rules | `(tactic| walk_at "ik") => `(tactic| first
  | (refine' InsK.trans ?ika ?ikb; (case ikb => (refine' InsK.kpd ?ikl ?ikk; (case ikk => assumption); (case ikl => walk_at "hp"))); (case ika => walk_at "ik"))
  | fail)
local macro_rules | `(tactic| walk_at "tabs") => `(tactic| first
  | (refine' OZ.Tabs.kpd ?tbs ?tbl ?tbk; (case tbs => assumption); (case tbl => walk_at "hp"); (case tbk => walk_at "tabs"))
  | fail)
local macro_rules | `(tactic| walk_at "y") => `(tactic| first
  | with_reducible refine y_js ?_
  | with_reducible refine y_js0 ?_
  | with_reducible refine y_fmt ?_
  | with_reducible refine y_fmtP ?_
  | with_reducible refine y_methP ?_
  | with_reducible refine y_methKP ?_
  | fail)
local macro_rules | `(tactic| walk_at "tpk") => `(tactic| first
  | assumption
  | exact TupK.refl
  | (refine' TupK.trans ?ika ?ikb; (case ikb => exact TupK.same (by assumption)); (case ika => walk_at "tpk"))
  | (refine' TupK.trans ?ika ?ikb; (case ikb => exact TupK.ext (by assumption)); (case ika => walk_at "tpk"))
  | (refine' TupK.trans ?ika ?ikb; (case ikb => (refine' TupK.pen ?ikp ?ikk; (case ikk => assumption); (case ikp => walk_at "pen"))); (case ika => walk_at "tpk"))
  | fail)
local macro_rules | `(tactic| walk_at "ov") => `(tactic| first
  | exact OV.non
  | exact OV.bl
  | exact OV.int
  | exact OV.str
  | exact OV.tup (by walk_at "hp") (by walk_at "np")
  | exact OV.lst (by walk_at "hp") (by walk_at "np")
  | exact OV.dK (by walk_at "hp") (by walk_at "np")
  | fail)
section
variable {P : Program} {w : World} {K : PySem.W.Frag} {mg : Str → Option Value} {base : Heap}
abbrev dnW : He.Defn := ("_law_wrong_right", none)
abbrev LTs (K : PySem.W.Frag) : List (Addr × Str) := lamsOf K [dnW]
structure Wr (K : PySem.W.Frag) (G : Hp) (p c : Addr) (n : Nat) (a m l : Addr) (t : Tl) (v1 v2 v3 : V) : Prop where
  lo : G l = some (.lst [v1, v2, v3])
  tl : TlAt K G m t
  pl : PlAt G a t
  s1 : StrV K G v1
  s2 : StrV K G v2
  d3 : OddD K G v3
  t1 : Trk G v1
  t2 : Trk G v2
  t3 : Trk G v3
  pen : PenAt G p c n
  tb : Tabs (LTs K) G
theorem Wr.ext {G G' : Hp} {p c a m l : Addr} {n : Nat} {t : Tl} {v1 v2 v3 : V} (h : Wr K G p c n a m l t v1 v2 v3) (e : ExtN G G') (tb : Tabs (LTs K) G') : Wr K G' p c n a m l t v1 v2 v3 :=
  ⟨e _ _ h.lo (fun ps z => by cases z), h.tl.ik (.ext e), h.pl.tk (TupK.ext e), h.s1.vk (.ext e), h.s2.vk (.ext e), h.d3.vk (.ext e), h.t1.vk (.ext e), h.t2.vk (.ext e), h.t3.vk (.ext e), h.pen.extN e, tb⟩
def spWrong (K : PySem.W.Frag) : Sp := fun vs H Q _ => ∃ (p c : Addr) (n : Nat) (a : Addr) (t : Tl), vs = [.ref p, .ref a] ∧ PenAt H p c n ∧ n ≤ 70000 ∧ PlAt H a t ∧ TlL t ∧ Tabs (LTs K) H ∧ ∀ H', PenAt H' p c (n + 3) → KN p H H' → Tabs (LTs K) H' → Q (.bl true) H'
abbrev s_wrong : Stmt := topS 52
theorem sc_wrong : FnScope ["_law_pen_here", "_law_plain_here", "_law_made_here", "_law_names", "_law_senses", "_law_roughs", "_law_odd"] ["_law_pen_here", "_law_plain_here"] (defScope s_wrong) := ⟨rfl, rfl, rfl, by decide +kernel, rfl, by decide +kernel, by decide +kernel⟩
set_option maxHeartbeats 4000000 in
theorem ok_wrong {f g : Addr} {fd fh : FuncData} (F : FnP K "_law_wrong_right" s_wrong f fd) (hf : f = He.fAd K dnW) (T : TopH K w mg) (TF : TlF K) (O : AOps P w K mg base) (TO : TlOps P w K mg base)
    (HD : Hrd2 K mg "_law_refused" "_law_deed" "_law_part" s_refd ["_law_deed", "_law_part", "_law_caught", "error"] g fh) (TB : TabB base mg (He.cT K dnW).1 (He.cT K dnW).2)
    (F_law_pick : Fnc P w K mg base 2 "_law_pick" ["_law_pen_here", "_law_some"] spPick) (F_law_made : Fnc P w K mg base 9 "_law_made" ["_law_plain_here"] (spMade K)) (F_law_is : Fnc P w K mg base 6 "_law_is" ["_law_device", "_law_plain_here"] (spIs K)) :
    FnG P w K mg base 13 f fd ["_law_pen_here", "_law_plain_here"] (spWrong K) := by
  have nd := sc_wrong.nd
  have AF := O.AF
  have LB : ∀ {X : Cx}, X.base = base → X.mg = mg → X.env.qual = "_law_wrong_right" ++ ".<locals>." → LamT X (LTs K) (He.cT K dnW).1 (He.cT K dnW).2 := fun {X} h1 h2 h3 => ⟨by rw [h1, h2]; exact TB, by rw [h3]; exact List.mem_singleton.mpr rfl, fun p hp _ => by rw [h3, List.mem_singleton.mp hp]⟩
  refine fnGC F hf sc_wrong (fun vs H Q E h => ?_) (fun A' outer s H vs Q E hr gd h => ?_)
  · obtain ⟨p, c, n, a, t, rfl, _⟩ := h
    rfl
  · obtain ⟨p, c, n, a, t, rfl, hP, hn, ha, ok, hT, k⟩ := h
    have hu64 := hr.units
    have hu := hu_of hr
    have okk := ok.ok
    refine ⟨_, PSs.nox (pss_cons (ps_set (i := 2) nd rfl (Or.inr rfl) (oc F_law_made (hr.mono (by decide)) (pa_cons (pv 1) pa_nil)))
      (pss_cons (ps_set (i := 3) nd rfl (Or.inl rfl) (pe_lst (pa_cons pe_str (pa_cons pe_str (pa_cons pe_str (pa_cons pe_non (pa_cons pe_int (pa_cons pe_bl (pa_cons (pe_lst (pa_cons pe_str pa_nil)) (pa_cons (pe_tup (pa_cons pe_str pa_nil)) (pa_cons pe_dnewK pa_nil)))))))))))
      (pss_cons (ps_set (i := 4) nd rfl (Or.inl rfl) (pe_lst (pa_cons pe_str (pa_cons pe_str (pa_cons pe_non (pa_cons pe_bl (pa_cons pe_int (pa_cons (pe_lst (pa_cons pe_str pa_nil)) (pa_cons (pe_tup (pa_cons pe_str pa_nil)) (pa_cons pe_dnewK pa_nil))))))))))
      (pss_cons (ps_set (i := 5) nd rfl (Or.inl rfl) (pe_lst (pa_cons (pe_un un_neg pe_int) (pa_cons (mkAE O.MA (hr.mono (by decide)) passL (pa_cons (pe_un un_neg pe_int) (pa_cons pe_int pa_nil))) (pa_cons pe_non (pa_cons pe_bl (pa_cons pe_str (pa_cons (pe_lst (pa_cons pe_int pa_nil)) (pa_cons (pe_tup (pa_cons pe_int pa_nil)) (pa_cons pe_dnewK pa_nil))))))))))
      (pss_cons (ps_set (i := 6) nd rfl (Or.inr rfl) (pe_lst (pa_cons (oc F_law_pick (hr.mono (by decide)) (pa_cons (pv 0) (pa_cons (pv 3) pa_nil))) (pa_cons (oc F_law_pick (hr.mono (by decide)) (pa_cons (pv 0) (pa_cons (pv 4) pa_nil))) (pa_cons (oc F_law_pick (hr.mono (by decide)) (pa_cons (pv 0) (pa_cons (pv 5) pa_nil))) pa_nil)))))
      (pss_cons (ps_if (pt_not (pt_val (lamS2 (k := 10) HD (refused_gives T) (LB (by rfl) (by rfl) (by rfl)) rfl (hr.mono (by decide)) (fun A outer s H E f c2 hr => (omP TO.M_tool_renamed (hr.mono (by decide)) (passT (takes_of rfl rfl rfl rfl)) (pv 2) (pa_cons (pe_ix (ix_listK (K := K)) (pv 6) pe_int (fun _ _ => rfl)) pa_nil))) (hL := show lamSB (defScope (topS 52)) _ = true by decide +kernel))))
        (pss_one (ps_ret pe_bl))
        pss_nil)
      (pss_cons (ps_if (pt_not (pt_val (lamS2 (k := 10) HD (refused_gives T) (LB (by rfl) (by rfl) (by rfl)) rfl (hr.mono (by decide)) (fun A outer s H E f c2 hr => (omP TO.M_tool_with_sense (hr.mono (by decide)) (passT (takes_of rfl rfl rfl rfl)) (pv 2) (pa_cons (pe_ix (ix_listK (K := K)) (pv 6) pe_int (fun _ _ => rfl)) pa_nil))) (hL := show lamSB (defScope (topS 52)) _ = true by decide +kernel))))
        (pss_one (ps_ret pe_bl))
        pss_nil)
      (pss_cons (ps_if (PW.pt (pw_and (pt_cmpR o_notN (pe_ix ix_tup (pv 1) pe_int (fun _ _ => rfl)) pe_non (nomark _)) (pw_and1 (pt_not (pt_val (lamS2 (k := 10) HD (refused_gives T) (LB (by rfl) (by rfl) (by rfl)) rfl (hr.mono (by decide)) (fun A outer s H E f c2 hr => (omP TO.M_tool_with_doubt (hr.mono (by decide)) (passT (takes_of rfl rfl rfl rfl)) (pv 2) (pa_cons (pe_ix (ix_listK (K := K)) (pv 6) pe_int (fun _ _ => rfl)) pa_nil))) (hL := show lamSB (defScope (topS 52)) _ = true by decide +kernel)))))))
        (pss_one (ps_ret pe_bl))
        pss_nil)
      (pss_one (ps_ret (oc F_law_is (hr.mono (by decide)) (pa_cons (pv 2) (pa_cons (pv 1) pa_nil))))))))))))), ?_⟩
    refine seq_by (fun σ' G => ∃ m, σ' = [some (.ref p), some (.ref a), some (.ref m), none, none, none, none] ∧ Same H G ∧ TlAt K G m t) ?_ ?_
    · intro R hR
      repeat walk_at "y"
      exact ⟨a, t, rfl, ha, ok, fun m H1 n1 s1 t1 => by
        repeat walk_at "y"
        exact hR _ _ ⟨m, rfl, s1, t1⟩⟩
    rintro σ1 H1 ⟨m, rfl, s1, t1⟩
    have P1 : PenAt H1 p c n := hP.same s1
    have T1 : Tabs (LTs K) H1 := OZ.Tabs.same s1 hT
    refine seq_by (fun σ' G => ∃ l, σ' = [some (.ref p), some (.ref a), some (.ref m), some (.ref l), none, none, none] ∧ l ≠ p ∧ Same H1 G ∧ ∃ xs, G l = some (.lst xs) ∧ 0 < xs.length ∧ xs.length ≤ 1000 ∧ ∀ x ∈ xs, OV K G p x ∧ StrV K G x ∧ nmV x = false) ?_ ?_
    · intro R hR
      repeat walk_at "y"
      refine hR _ _ ⟨_, rfl, by walk_at "np", by walk_at "same", _, by walk_at "hp", by simp, by simp, ?_⟩
      have mk : ∀ {G : Hp} {x : V}, OV K G p x → nmV x = false → (∀ z, x = .str z → z.length ≤ 10000) → OV K G p x ∧ StrV K G x ∧ nmV x = false := fun h1 h2 h3 => ⟨h1, h1.strV h3, h2⟩
      repeat' (first | exact allv_nil | refine allv_cons (mk (by walk_at "ov") (by first | rfl | decide +kernel) (by intro z e; first | (injection e with e; subst e; decide +kernel) | cases e)) ?_)
    rintro σ2 H2 ⟨l1, rfl, nl1, s2, xs1, o1, b1, c1, v1s⟩
    have sen_ok : ∀ {G : Hp} {x : V}, OV K G p x → snV x = false → (∀ z, x = .str z → z.length ≤ 10000) → OV K G p x ∧ StrV K G x ∧ snV x = false := fun h1 h2 h3 => ⟨h1, h1.strV h3, h2⟩
    refine seq_by (fun σ' G => ∃ l, σ' = [some (.ref p), some (.ref a), some (.ref m), some (.ref l1), some (.ref l), none, none] ∧ l ≠ p ∧ Same H2 G ∧ ∃ xs, G l = some (.lst xs) ∧ 0 < xs.length ∧ xs.length ≤ 1000 ∧ ∀ x ∈ xs, OV K G p x ∧ StrV K G x ∧ snV x = false) ?_ ?_
    · intro R hR
      have P2 : PenAt H2 p c n := P1.same s2
      repeat walk_at "y"
      refine hR _ _ ⟨_, rfl, by walk_at "np", by walk_at "same", _, by walk_at "hp", by simp, by simp, ?_⟩
      repeat' (first | exact allv_nil | refine allv_cons (sen_ok (by walk_at "ov") (by first | rfl | decide +kernel) (by intro z e; first | (injection e with e; subst e; decide +kernel) | cases e)) ?_)
    rintro σ3 H3 ⟨l2, rfl, nl2, s3, xs2, o2, b2, c2, v2s⟩
    refine seq_by (fun σ' G => ∃ l, σ' = [some (.ref p), some (.ref a), some (.ref m), some (.ref l1), some (.ref l2), some (.ref l), none] ∧ l ≠ p ∧ Same H3 G ∧ ∃ xs, G l = some (.lst xs) ∧ 0 < xs.length ∧ xs.length ≤ 1000 ∧ ∀ x ∈ xs, Trk G x ∧ x ≠ .ref p ∧ OddD K G x) ?_ ?_
    · intro R hR
      have P3 : PenAt H3 p c n := (P1.same s2).same s3
      have b0 : (3 : Int) ≠ 0 := by decide
      have st : Sz 8000 (-1) := by unfold Sz; decide
      have sb : Sz 8000 3 := by unfold Sz; decide
      have sq : SzQ 1800 (divq (-1) 3) := (SzQ.of (a := 200) (by unfold Sz; decide) (by unfold Sz; decide) b0).mono (by decide)
      have qn : divq (-1) 3 < 0 := divq_neg (by decide) (by decide)
      have ref_ne : ∀ z : Addr, z ≠ p → V.ref z ≠ V.ref p := fun z h e => h (by injection e)
      have ref_amt : ∀ {G : Hp} {z : Addr} {q : Rat}, AmQ (CA K) G z q → Trk G (.ref z) := fun h => by
        obtain ⟨dx, h⟩ := h
        exact trk_of h (by intro ps z; cases z)
      have nn : ∀ {G : Hp} {v : V}, OV K G p v → isIV v = false → Trk G v ∧ v ≠ .ref p ∧ OddD K G v := fun h h2 => ⟨h.trk, h.np, .inr (h.noNum AF h2)⟩
      have ii : ∀ {G : Hp} {i : Int}, i < 0 → Sz 200 i → Trk G (.int i) ∧ V.int i ≠ .ref p ∧ OddD K G (.int i) := fun h1 h2 => ⟨OV.int.trk (K := K) (p := p), (fun z => by cases z), .inl ⟨_, .int, (SzQ.int h2 (by decide)).mono (by decide), (by
        have := Rat.intCast_lt_intCast.mpr h1
        simpa using this)⟩⟩
      repeat walk_at "y"
      refine hR _ _ ⟨_, rfl, by walk_at "np", by walk_at "same", _, by walk_at "hp", by simp, by simp, ?_⟩
      refine allv_cons (ii (by decide +kernel) (by unfold Sz; decide +kernel)) (allv_cons ⟨ref_amt (by walk_at "aq"), ref_ne _ (by walk_at "np"), .inl ⟨_, .am (by walk_at "aq"), sq, qn⟩⟩ ?_)
      repeat' (first | exact allv_nil | refine allv_cons (nn (by walk_at "ov") rfl) ?_)
    rintro σ4 H4 ⟨l3, rfl, nl3, s4, xs3, o3, b3, c3, v3s⟩
    have P4 : PenAt H4 p c n := ((P1.same s2).same s3).same s4
    have T4 : Tabs (LTs K) H4 := OZ.Tabs.same s4 (OZ.Tabs.same s3 (OZ.Tabs.same s2 T1))
    have t4 : TlAt K H4 m t := t1.ik (.same (s2.trans (s3.trans s4)))
    have a4 : PlAt H4 a t := ha.tk (TupK.same (s1.trans (s2.trans (s3.trans s4))))
    have v1s4 : ∀ x ∈ xs1, OV K H4 p x ∧ StrV K H4 x ∧ nmV x = false := fun x hx => ⟨(v1s x hx).1.vk (.same (s3.trans s4)), (v1s x hx).2.1.vk (.same (s3.trans s4)), (v1s x hx).2.2⟩
    have v2s4 : ∀ x ∈ xs2, OV K H4 p x ∧ StrV K H4 x ∧ snV x = false := fun x hx => ⟨(v2s x hx).1.vk (.same s4), (v2s x hx).2.1.vk (.same s4), (v2s x hx).2.2⟩
    have o14 : H4 l1 = some (.lst xs1) := s4 _ _ (s3 _ _ o1)
    have o24 : H4 l2 = some (.lst xs2) := s4 _ _ o2
    have k4 : KN p H H4 := KN.same (s1.trans (s2.trans (s3.trans s4)))
    refine seq_by (fun σ' G => ∃ l v1 v2 v3, σ' = [some (.ref p), some (.ref a), some (.ref m), some (.ref l1), some (.ref l2), some (.ref l3), some (.ref l)] ∧ Wr K G p c (n + 3) a m l t v1 v2 v3 ∧ nmV v1 = false ∧ snV v2 = false ∧ KN p H G) ?_ ?_
    · intro R hR
      repeat walk_at "y"
      refine y_pickH (fun G x => OV K G p x ∧ StrV K G x ∧ nmV x = false) (by walk_at "pen") (by omega) nl1 o14 b1 c1 v1s4 ?_
      rintro v1 H5 ⟨h1, h2, h3⟩ _ P5 k5
      repeat walk_at "y"
      refine y_pickH (fun G x => OV K G p x ∧ StrV K G x ∧ snV x = false) P5 (by omega) nl2 (k5 _ _ nl2 o24) b2 c2 (fun x hx => ⟨(v2s4 x hx).1.vk (.kp (v2s4 x hx).1.np k5), (v2s4 x hx).2.1.vk (.kp (v2s4 x hx).1.np k5), (v2s4 x hx).2.2⟩) ?_
      rintro v2 H6 ⟨h4, h5, h6⟩ _ P6 k6
      repeat walk_at "y"
      refine y_pickH (fun G x => Trk G x ∧ x ≠ .ref p ∧ OddD K G x) P6 (by omega) nl3 (k6 _ _ nl3 (k5 _ _ nl3 o3)) b3 c3 (fun x hx => ⟨(v3s x hx).1.vk (.kp (v3s x hx).2.1 (k5.trans k6)), (v3s x hx).2.1, (v3s x hx).2.2.vk (.kp (v3s x hx).2.1 (k5.trans k6))⟩) ?_
      rintro v3 H7 ⟨h7, h8, h9⟩ _ P7 k7
      repeat walk_at "y"
      rename_i l8 H8 n8 s8 o8
      have k57 : Kp p H4 H7 := (k5.trans k6).trans k7
      have e1 : VK1 v1 H4 H8 := (VK1.kp h1.np k57).trans (.same s8)
      have e2 : VK1 v2 H5 H8 := (VK1.kp h4.np (k6.trans k7)).trans (.same s8)
      have e3 : VK1 v3 H6 H8 := (VK1.kp h8 k7).trans (.same s8)
      refine hR _ _ ⟨l8, v1, v2, v3, rfl, ⟨o8, t4.ik (InsK.trans (InsK.pen P4 k57) (.same s8)), a4.tk (TupK.trans (TupK.pen P4 k57) (.same s8)), h2.vk e1, h5.vk e2, h9.vk e3, h1.trk.vk e1, h4.trk.vk e2, h7.vk e3, P7.same s8, OZ.Tabs.same s8 (OZ.Tabs.kp P4 k57 T4)⟩, h3, h6, k4.trans ((KN.kp k57).trans (KN.same s8))⟩
    rintro σ5 H5 ⟨l, v1, v2, v3, rfl, W5, hv1, hv2, k5⟩
    refine seq_by (fun σ' G => σ' = [some (.ref p), some (.ref a), some (.ref m), some (.ref l1), some (.ref l2), some (.ref l3), some (.ref l)] ∧ Wr K G p c (n + 3) a m l t v1 v2 v3 ∧ KN p H G) ?_ ?_
    · intro R hR
      have T5 := W5.tb
      repeat walk_at "y"
      rename_i H6 e6 T6
      have W6 := W5.ext e6 T6
      intro H7 E1 Q1 s7 hE
      have W7 := W6.ext (ExtN.of s7) (OZ.Tabs.same s7 T6)
      obtain ⟨dx, fs, hi, hl⟩ := W7.tl.ins
      have lo7 := W7.lo
      repeat walk_at "y"
      refine ⟨m, _, dx, fs, rfl, hi, isTl_cls _, hl _ (by decide), ?_⟩
      repeat walk_at "y"
      refine ⟨m, t, _, rfl, W7.tl, okk, W7.s1, strV_s okk.sn, .inl ⟨hv1, fun H' dd s nn e => hE H' dd s nn e fun H2 s2 => ?_⟩⟩
      repeat walk_at "y"
      exact hR _ _ ⟨rfl, W7.ext (ExtN.of (s.trans s2)) (OZ.Tabs.same (s.trans s2) W7.tb), k5.trans ((KN.ext e6).trans (KN.same (s7.trans (s.trans s2))))⟩
    rintro σ6 H6 ⟨rfl, W6, k6⟩
    refine seq_by (fun σ' G => σ' = [some (.ref p), some (.ref a), some (.ref m), some (.ref l1), some (.ref l2), some (.ref l3), some (.ref l)] ∧ Wr K G p c (n + 3) a m l t v1 v2 v3 ∧ KN p H G) ?_ ?_
    · intro R hR
      have T6 := W6.tb
      repeat walk_at "y"
      rename_i H7 e7 T7
      have W7 := W6.ext e7 T7
      intro H8 E1 Q1 s8 hE
      have W8 := W7.ext (ExtN.of s8) (OZ.Tabs.same s8 T7)
      obtain ⟨dx, fs, hi, hl⟩ := W8.tl.ins
      have lo8 := W8.lo
      repeat walk_at "y"
      refine ⟨m, _, dx, fs, rfl, hi, isTl_cls _, hl _ (by decide), ?_⟩
      repeat walk_at "y"
      refine ⟨m, t, _, rfl, W8.tl, okk, strV_n okk.nm, W8.s2, .inr (.inl ⟨okk.nm, hv2, fun H' dd s nn e => hE H' dd s nn e fun H2 s2 => ?_⟩)⟩
      repeat walk_at "y"
      exact hR _ _ ⟨rfl, W8.ext (ExtN.of (s.trans s2)) (OZ.Tabs.same (s.trans s2) W8.tb), k6.trans ((KN.ext e7).trans (KN.same (s8.trans (s.trans s2))))⟩
    rintro σ7 H7 ⟨rfl, W7, k7⟩
    refine seq_by (fun σ' G => σ' = [some (.ref p), some (.ref a), some (.ref m), some (.ref l1), some (.ref l2), some (.ref l3), some (.ref l)] ∧ Wr K G p c (n + 3) a m l t v1 v2 v3 ∧ KN p H G) ?_ ?_
    · intro R hR
      have T7 := W7.tb
      obtain ⟨r, hra, hrr⟩ := W7.pl
      rcases hrr with ⟨ed, rfl⟩ | ⟨ra, q, ed, rfl, hra2⟩
      · repeat walk_at "y"
        exact hR _ _ ⟨rfl, W7, k7⟩
      · repeat walk_at "y"
        rename_i H8 e8 T8
        have W8 := W7.ext e8 T8
        intro H9 E1 Q1 s9 hE
        have W9 := W8.ext (ExtN.of s9) (OZ.Tabs.same s9 T8)
        obtain ⟨dx, fs, hi, hl⟩ := W9.tl.ins
        have lo9 := W9.lo
        have ec : clsT K t = CSc K := by unfold clsT; rw [ed]
        repeat walk_at "y"
        refine ⟨m, _, dx, fs, rfl, hi, ec, hl _ (by decide), ?_⟩
        repeat walk_at "y"
        have oT : OutT K H9 "doubt" E1 := fun H' dd s nn e => hE H' dd s nn e fun H2 s2 => by
          repeat walk_at "y"
          exact hR _ _ ⟨rfl, W9.ext (ExtN.of (s.trans s2)) (OZ.Tabs.same (s.trans s2) W9.tb), k7.trans ((KN.ext e8).trans (KN.same (s9.trans (s.trans s2))))⟩
        refine ⟨m, t, q, _, rfl, W9.tl, ed, okk, strV_n okk.nm, strV_s okk.sn, .inr (.inr ⟨okk.nm, decide_eq_true okk.sn, ?_⟩)⟩
        rcases W9.d3 with ⟨q3, h1, h2, h3⟩ | h
        · exact .inl ⟨q3, h1, h2, h3, oT⟩
        · exact .inr (.inl ⟨h, oT⟩)
    rintro σ8 H8 ⟨rfl, W8, k8⟩
    repeat walk_at "y"
    exact ⟨m, a, t, rfl, W8.tl, W8.pl, ok, fun H9 s9 => k H9 (W8.pen.same s9) (k8.trans (KN.same s9)) (OZ.Tabs.same s9 W8.tb)⟩
end
end LW
set_option maxRecDepth 100000
namespace LW
open PySem PySem.Spec PyProof.Rows L2 OZ
local macro_rules | `(tactic| walk_at "szx1") => `(tactic| first
  | with_reducible assumption
  | exact sz_i64 (n := 64) (by decide)
  | (refine' Sz.add ?sx ?sy; (case sx => walk_at "szx1"); (case sy => walk_at "szx1"))
  | (refine' Sz.sub ?sx ?sy; (case sx => walk_at "szx1"); (case sy => walk_at "szx1"))
  | (refine' Sz.mul ?sx ?sy; (case sx => walk_at "szx1"); (case sy => walk_at "szx1"))
  | (refine' Sz.neg ?sx; (case sx => walk_at "szx1"))
  | (refine' Sz.iabs ?sx; (case sx => walk_at "szx1"))
  | (refine' sz_fdiv ?sx ?sy; (case sy => walk_at "nz"); (case sx => walk_at "szx1")))
local macro_rules | `(tactic| walk_at "szx") => `(tactic| (refine' Sz.mono ?szk ?szl; (case szk => walk_at "szx1"); (case szl => exact Nat.le_of_ble_eq_true rfl)))
local macro_rules | `(tactic| walk_at "aq") => `(tactic| first
  | assumption
  | (refine' AmQ.same ?aqs ?aqk; (case aqs => assumption); (case aqk => walk_at "aq"))
  | (refine' AmQ.extN ?aqs ?aqk; (case aqs => assumption); (case aqk => walk_at "aq"))
  | (refine' AmQ.kpl ?aqs ?aql ?aqk; (case aqs => assumption); (case aql => walk_at "hp"); (case aqk => walk_at "aq"))
  | (refine' AmQ.kp ?aql ?aqs ?aqk; (case aqs => assumption); (case aql => walk_at "pen"); (case aqk => walk_at "aq")))
local macro_rules | `(tactic| walk_at "nq") => `(tactic| first
  | assumption
  | exact NumQ.int
  | (refine' NumQ.am ?nqk; (case nqk => walk_at "aq"))
  | (refine' NumQ.same ?nqs ?nqk; (case nqs => assumption); (case nqk => walk_at "nq"))
  | (refine' NumQ.extN ?nqs ?nqk; (case nqs => assumption); (case nqk => walk_at "nq"))
  | (refine' NumQ.kpl ?nqs ?nql ?nqk; (case nqs => assumption); (case nql => walk_at "hp"); (case nqk => walk_at "nq")))
local macro_rules | `(tactic| walk_at "sz1") => `(tactic| first
  | with_reducible assumption
  | (refine' SzQ.add ?sx ?sy; (case sx => walk_at "sz1"); (case sy => walk_at "sz1"))
  | (refine' SzQ.sub ?sx ?sy; (case sx => walk_at "sz1"); (case sy => walk_at "sz1"))
  | (refine' SzQ.mul ?sx ?sy; (case sx => walk_at "sz1"); (case sy => walk_at "sz1"))
  | (refine' SzQ.div ?sx ?sy ?sz; (case sz => assumption); (case sx => walk_at "sz1"); (case sy => walk_at "sz1"))
  | (refine' SzQ.rmod ?sx ?sy ?sz; (case sz => assumption); (case sx => walk_at "sz1"); (case sy => walk_at "sz1"))
  | (refine' SzQ.neg ?sx; (case sx => walk_at "sz1"))
  | (refine' SzQ.qabs ?sx; (case sx => walk_at "sz1"))
  | (refine' SzQ.int ?sx ?sy; (case sx => with_reducible assumption); (case sy => exact Nat.le_of_ble_eq_true rfl))
  | exact sz_lit (by decide))
local macro_rules | `(tactic| walk_at "sz") => `(tactic| (refine' SzQ.mono ?szk ?szl; (case szk => walk_at "sz1"); (case szl => exact Nat.le_of_ble_eq_true rfl)))
local macro_rules | `(tactic| walk_at "nz") => `(tactic| first
  | assumption
  | decide
  | omega
  | exact intq0 (by decide))
local macro_rules | `(tactic| walk_at "szi") => `(tactic| first
  | assumption
  | exact Sz.mono (by with_reducible assumption) (Nat.le_of_ble_eq_true rfl)
  | exact sz_i64 (by decide))
local macro_rules | `(tactic| walk_at "ex") => `(tactic| first
  | assumption
  | (refine ExAt.same (by assumption) ?_; walk_at "ex"))
local macro_rules | `(tactic| walk_at "same") => `(tactic| first
  | assumption
  | exact same0
  | (refine Same.trans ?_ (by assumption); walk_at "same"))
local macro_rules | `(tactic| walk_at "tabs") => `(tactic| first
  | assumption
  | (refine' OZ.Tabs.same ?tbs ?tbk; (case tbs => assumption); (case tbk => walk_at "tabs"))
  | (refine' OZ.Tabs.kpl ?tbs ?tbl ?tbk; (case tbs => assumption); (case tbl => walk_at "hp"); (case tbk => walk_at "tabs"))
  | (refine' OZ.Tabs.kp ?tbl ?tbs ?tbk; (case tbs => assumption); (case tbl => walk_at "pen"); (case tbk => walk_at "tabs")))
local macro_rules | `(tactic| walk_at "ext") => `(tactic| first
  | assumption
  | exact LamX.ExtN.refl _
  | exact LamX.ExtN.of (by assumption)
  | (refine LamX.ExtN.trans ?_ (by assumption); walk_at "ext")
  | (refine LamX.ExtN.trans ?_ (LamX.ExtN.of (by assumption)); walk_at "ext"))
local macro_rules | `(tactic| walk_at "pen") => `(tactic| first
  | assumption
  | (refine' PenAt.same ?pek ?pes; (case pes => assumption); (case pek => walk_at "pen"))
  | (refine' PenAt.extN ?pek ?pes; (case pes => assumption); (case pek => walk_at "pen")))
local macro_rules | `(tactic| walk_at "kn") => `(tactic| first
  | assumption
  | exact KN.refl
  | (refine KN.trans ?_ (KN.same (by assumption)); walk_at "kn")
  | (refine KN.trans ?_ (KN.kp (by assumption)); walk_at "kn")
  | (refine KN.trans ?_ (KN.ext (by assumption)); walk_at "kn")
  | (refine KN.trans ?_ (by assumption); walk_at "kn"))
local macro_rules | `(tactic| walk_at "free") => `(tactic| first
  | assumption
  | (refine sfree (by assumption) ?_; walk_at "free"))
local macro_rules | `(tactic| walk_at "hp") => `(tactic| first
  | assumption
  | exact upd_same
  | (refine sat (by assumption) ?_; walk_at "hp")
  | (refine' esat ?ess ?esk ?esn; (case ess => assumption); (case esk => walk_at "hp"); (case esn => (intro _ zz; cases zz)))
  | (refine' kpne ?ess ?esn ?esk; (case ess => assumption); (case esn => (first | assumption | exact Ne.symm (by assumption))); (case esk => walk_at "hp"))
  | (refine' kpsat ?ess ?esl ?esk ?esn; (case ess => assumption); (case esl => walk_at "hp"); (case esk => walk_at "hp"); (case esn => (intro _ zz; cases zz)))
  | (refine upd_old ?_ ?_; (first | assumption | exact free_upd (by assumption)); walk_at "hp")
  | (refine upd_oth ?_ ?_; (first | assumption | exact Ne.symm (by assumption)); walk_at "hp"))
local macro_rules | `(tactic| walk_at "side") => `(tactic| first
  | assumption
  | decide
  | omega
  | exact ⟨by omega, by omega, by omega⟩
  | exact Or.inl ⟨by omega, by omega⟩
  | exact Or.inr ⟨by omega, by omega⟩
  | (show (_ : Int) ≠ 0; omega)
  | (refine' Sz.mulW ?ma ?mb ?mc; (case ma => walk_at "szx1"); (case mb => walk_at "szx1"); (case mc => exact Nat.le_of_ble_eq_true rfl))
  | (refine' Sz.divN ?ma ?mb ?mc; (case ma => walk_at "szx1"); (case mb => walk_at "nz"); (case mc => exact Nat.le_of_ble_eq_true rfl))
  | exact wide_div (b := 64) (by omega) (by omega) (by decide) (by decide)
  | exact wide_div (b := 4000) (by assumption) (by assumption) (by decide) (by decide))
local macro_rules | `(tactic| walk_at "y") => `(tactic| first
  | ((with_reducible refine y_var ?_); refine ⟨_, rfl, ?_⟩)
  | with_reducible refine y_c ?_
  | with_reducible refine y_op ?_
  | with_reducible refine y_cb ?_
  | with_reducible refine y_cons ?_
  | with_reducible refine y_nil ?_
  | with_reducible refine y_seq ?_
  | with_reducible refine y_asg ?_
  | with_reducible refine x_gn ?_
  | ((with_reducible refine' y_nx ?k1 ?k2); (case k1 => (simp only [L2.start, List.length_cons, List.length_nil, List.map_cons, List.map_nil, List.set_cons_succ, List.set_cons_zero, List.cons_append, List.nil_append, List.replicate]; rfl)))
  | with_reducible refine y_gsub ?_
  | with_reducible refine y_ret ?_
  | with_reducible refine y_drop ?_
  | with_reducible refine y_next ?_
  | with_reducible refine y_ifS ?_
  | with_reducible refine y_test ?_
  | with_reducible refine y_B ?_
  | with_reducible refine y_ex ?_
  | with_reducible refine y_not ?_
  | with_reducible refine y_and ?_
  | with_reducible refine y_or ?_
  | with_reducible refine y_notV ?_
  | with_reducible refine y_andV ?_
  | with_reducible refine y_orV ?_
  | with_reducible refine y_ifE ?_
  | with_reducible refine y_un ?_
  | with_reducible refine x_par ?_
  | with_reducible refine y_ex2 ?_
  | with_reducible refine y_call ?_
  | with_reducible refine y_callS ?_
  | with_reducible refine y_I0 ?_
  | ((with_reducible refine y_I ?_ ?_); (walk_at "side"))
  | with_reducible refine y_U ?_
  | ((with_reducible refine y_eq ?_ ?_); (exact rfl))
  | ((with_reducible refine y_ne ?_ ?_); (exact rfl))
  | ((with_reducible refine' y_ixL ?k1 ?k2 ?k3); (case k1 => walk_at "hp"); (case k2 => (first | assumption | exact rfl)))
  | ((with_reducible refine' y_ixT ?k1 ?k2 ?k3); (case k1 => walk_at "hp"); (case k2 => (first | assumption | exact rfl)))
  | ((with_reducible refine' y_setL ?k1 ?k2 ?k3); (case k1 => walk_at "hp"); (case k2 => (first | assumption | exact rfl)))
  | with_reducible refine y_int ?_
  | with_reducible refine y_intB ?_
  | with_reducible refine y_abs ?_
  | ((with_reducible refine' y_lenL ?k1 ?k3); (case k1 => walk_at "hp"))
  | ((with_reducible refine' y_lenT ?k1 ?k3); (case k1 => walk_at "hp"))
  | ((with_reducible refine y_lenS ?_ ?_); (walk_at "side"))
  | with_reducible refine y_isN ?_
  | with_reducible refine y_notN ?_
  | ((with_reducible refine y_addS ?_ ?_); (walk_at "side"))
  | with_reducible refine y_inC ?_
  | with_reducible refine y_notInC ?_
  | with_reducible refine y_sl ?_
  | with_reducible refine y_part ?_
  | with_reducible refine y_nopart ?_
  | with_reducible refine y_exI ?_
  | ((with_reducible refine y_slS ?_ ?_); (walk_at "side"))
  | with_reducible refine z_lst ?_
  | with_reducible refine z_tup ?_
  | ((with_reducible refine z_newL ?_ ?_); (exact Nat.le_of_ble_eq_true rfl); (intro pp HH npp spp opp))
  | ((with_reducible refine z_newT ?_ ?_); (exact Nat.le_of_ble_eq_true rfl); (intro pp HH npp spp opp))
  | ((with_reducible refine' y_chI ?k1 ?k2); (case k1 => exact rfl))
  | with_reducible refine y_chain ?_
  | with_reducible refine y_yes ?_
  | with_reducible refine y_att ?_
  | ((with_reducible refine y_disp ?_ ?_); (exact Nat.le_of_ble_eq_true rfl); (intro pp hpp))
  | ((with_reducible refine' y_gtup ?k1 ?k2 ?k3); (case k1 => walk_at "hp"); (case k2 => exact rfl))
  | with_reducible refine y_gcons ?_
  | with_reducible refine y_gnil ?_
  | with_reducible refine y_mkO ?_
  | with_reducible refine y_callKw ?_
  | with_reducible refine y_mkA ?_
  | with_reducible refine y_sm ?_
  | with_reducible refine y_smK ?_
  | with_reducible refine y_cut0 ?_
  | with_reducible refine y_methK ?_
  | ((with_reducible refine' y_lm ?k1 ?k2); (case k1 => walk_at "tabs"); (intro HH ee tt))
  | ((with_reducible refine' z_rep ?k1 ?k2 ?k3 ?k4 ?k5); (case k1 => walk_at "hp"); (case k2 => decide); (case k3 => decide); (case k4 => exact Nat.le_of_ble_eq_true rfl); (intro pp HH npp spp opp))
  | ((with_reducible refine z_rev (by decide) (by walk_at "hp") ?_); (intro pp HH npp spp opp))
  | with_reducible refine y_rfl ?_
  | with_reducible refine y_mkA1 ?_
  | ((with_reducible refine' y_aqT ?k0 ?k1 ?k2); (case k0 => assumption); (case k1 => walk_at "aq"))
  | ((with_reducible refine' y_aqB ?k0 ?k1 ?k2); (case k0 => assumption); (case k1 => walk_at "aq"))
  | ((with_reducible refine' y_bin ?k1 ?k2 ?k3 ?k4 ?k5); (case k1 => walk_at "aq"); (case k2 => walk_at "nq"); (case k3 => walk_at "sz"); (case k4 => walk_at "sz"); (intro pp HH npp spp opp))
  | ((with_reducible refine' y_rbin ?k1 ?k3 ?k4 ?k5); (case k1 => walk_at "aq"); (case k3 => walk_at "sz"); (case k4 => walk_at "sz"); (intro pp HH npp spp opp))
  | ((with_reducible refine' y_binM ?k1 ?k2 ?k3 ?k4 ?k5); (case k1 => walk_at "aq"); (case k2 => walk_at "nq"); (case k3 => walk_at "sz"); (case k4 => walk_at "sz"); (intro pp HH npp spp opp))
  | ((with_reducible refine' y_rbinM ?k1 ?k3 ?k4 ?k5); (case k1 => walk_at "aq"); (case k3 => walk_at "sz"); (case k4 => walk_at "sz"); (intro pp HH npp spp opp))
  | ((with_reducible refine' y_binD ?k1 ?k2 ?k3 ?k4 ?k5 ?k6); (case k1 => walk_at "aq"); (case k2 => walk_at "nq"); (case k3 => walk_at "sz"); (case k4 => walk_at "sz"); (case k5 => walk_at "nz"); (intro pp HH npp spp opp))
  | ((with_reducible refine' y_rbinD ?k1 ?k3 ?k4 ?k5 ?k6); (case k1 => walk_at "aq"); (case k3 => walk_at "sz"); (case k4 => walk_at "sz"); (case k5 => walk_at "nz"); (intro pp HH npp spp opp))
  | ((with_reducible refine' y_binF ?k1 ?k2 ?k3 ?k4 ?k5 ?k6); (case k1 => walk_at "aq"); (case k2 => walk_at "nq"); (case k3 => walk_at "sz"); (case k4 => walk_at "sz"); (case k5 => walk_at "nz"); (intro HH spp))
  | ((with_reducible refine' y_rbinF ?k1 ?k3 ?k4 ?k5 ?k6); (case k1 => walk_at "aq"); (case k3 => walk_at "sz"); (case k4 => walk_at "sz"); (case k5 => walk_at "nz"); (intro HH spp))
  | ((with_reducible refine' y_cmp ?kK ?k0 ?k1 ?k2 ?k3 ?k4 ?k5); (case kK => exact rfl); (case k0 => assumption); (case k1 => walk_at "aq"); (case k2 => walk_at "nq"); (case k3 => walk_at "sz"); (case k4 => walk_at "sz"); (intro HH spp))
  | ((with_reducible refine' y_rcmp ?k1 ?k3 ?k4 ?k5); (case k1 => walk_at "aq"); (case k3 => walk_at "sz"); (case k4 => walk_at "sz"); (intro HH spp))
  | ((with_reducible refine' y_ceq ?kK ?k0 ?k1 ?k2 ?k5); (case kK => exact rfl); (case k0 => assumption); (case k1 => walk_at "aq"); (case k2 => walk_at "nq"); (intro HH spp))
  | ((with_reducible refine' y_req ?k1 ?k5); (case k1 => walk_at "aq"); (intro HH spp))
  | ((with_reducible refine' y_cne ?kK ?k0 ?k1 ?k2 ?k5); (case kK => exact rfl); (case k0 => assumption); (case k1 => walk_at "aq"); (case k2 => walk_at "nq"); (intro HH spp))
  | ((with_reducible refine' y_un1 ?k1 ?k3 ?k5); (case k1 => walk_at "aq"); (case k3 => walk_at "sz"); (intro pp HH npp spp opp))
  | ((with_reducible refine' y_absO ?k1 ?k3 ?k5); (case k1 => walk_at "aq"); (case k3 => walk_at "sz"); (intro pp HH npp spp opp))
  | ((with_reducible refine' y_truA ?k1 ?k5); (case k1 => walk_at "aq"))
  | ((with_reducible refine' y_boolA ?k1 ?k5); (case k1 => walk_at "aq"))
  | with_reducible refine y_meth ?_
  | ((with_reducible refine' y_methX ?k1 ?k2); (case k1 => walk_at "aq"))
  | ((with_reducible refine' y_over ?k1 ?k2 ?k3 ?k4 ?k5 ?k6); (case k1 => walk_at "aq"); (case k2 => walk_at "nq"); (case k3 => walk_at "sz"); (case k4 => walk_at "sz"); (case k5 => walk_at "nz"); (intro pp HH npp spp opp))
  | ((with_reducible refine x_aug ?_); refine ⟨_, rfl, ?_⟩)
  | ((with_reducible refine' y_nwI ?k1 ?k2 ?k3 ?k4); (case k1 => walk_at "nz"); (case k2 => walk_at "szi"); (case k3 => walk_at "szi"); (intro pp HH npp spp opp))
  | ((with_reducible refine' y_nwI1 ?k2 ?k4); (case k2 => walk_at "szi"); (intro pp HH npp spp opp))
  | with_reducible refine y_fld ?_
  | with_reducible refine y_for ?_
  | with_reducible refine y_iRng1 ?_
  | with_reducible refine y_iRng2 ?_
  | ((with_reducible refine y_rgF1 ?_ ?_); (first | decide | omega))
  | ((with_reducible refine y_rgL1 ?_ ?_); (first | decide | omega))
  | ((with_reducible refine y_rgF2 ?_ ?_); (first | decide | omega))
  | ((with_reducible refine y_rgL2 ?_ ?_); (first | decide | omega))
  | with_reducible refine y_lc ?_
  | with_reducible refine y_rev ?_
  | ((with_reducible refine' y_glst ?k1 ?k2 ?k3); (case k1 => walk_at "hp"); (case k2 => exact rfl))
  | with_reducible refine y_iList ?_
  | with_reducible refine y_iTup ?_
  | with_reducible refine y_iEnum ?_
  | ((with_reducible refine' y_itL ?k1 ?k2); (case k1 => walk_at "hp"))
  | ((with_reducible refine' y_itT ?k1 ?k2); (case k1 => walk_at "hp"))
  | ((with_reducible refine' y_itE ?k1 ?k2); (case k1 => walk_at "hp"))
  | with_reducible refine y_m0 ?_
  | ((with_reducible refine' z_slT ?k1 ?k2 ?k3); (case k1 => walk_at "hp"); (case k2 => decide); (intro pp HH npp spp opp))
  | with_reducible refine y_pp ?_
  | with_reducible refine y_pp0 ?_
  | with_reducible refine y_xv ?_
  | with_reducible refine y_xv0 ?_
  | with_reducible refine y_bm ?_
  | ((with_reducible refine' y_tyL ?k1 ?k2); (case k1 => walk_at "hp"))
  | ((with_reducible refine' z_app ?k1 ?k2 ?k3); (case k1 => walk_at "hp"); (case k2 => (first | exact Nat.le_of_ble_eq_true rfl | walk_at "side")); (intro HH kpp opp))
  | ((with_reducible refine' z_cat ?k1 ?k2 ?k3 ?k4); (case k1 => walk_at "hp"); (case k2 => walk_at "hp"); (case k3 => (first | exact Nat.le_of_ble_eq_true rfl | walk_at "side")); (intro pp HH npp spp opp))
  | ((with_reducible refine' z_slL ?k1 ?k2); (case k1 => walk_at "hp"); (intro pp HH npp spp opp))
  | ((with_reducible refine' y_in ?k1 ?k2 ?k3 ?k4); (case k1 => walk_at "hp"); (case k2 => exact rfl); (case k3 => exact rfl))
  | with_reducible refine y_iteT ?_
  | with_reducible refine y_iteF ?_
  | with_reducible refine y_iteNT ?_
  | with_reducible refine y_iteNF ?_
  | ((with_reducible refine y_iteY ?_ ?_); (first | exact rfl | assumption | omega))
  | ((with_reducible refine y_iteX ?_ ?_); (first | focus (intro zz; cases zz; done) | assumption | omega))
  | ((with_reducible refine y_iteNY ?_ ?_); (first | exact rfl | assumption | omega))
  | ((with_reducible refine y_iteNX ?_ ?_); (first | focus (intro zz; cases zz; done) | assumption | omega))
  | ((with_reducible refine y_ite ?_ ?_) <;> intro hh)
  | ((with_reducible refine y_iteN ?_ ?_) <;> intro hh)
  | dsimp only)
local macro_rules | `(tactic| walk_at "kpc") => `(tactic| first
  | assumption
  | exact Kp.refl _ _
  | (refine Kp.trans ?_ (by assumption); walk_at "kpc")
  | (refine Kp.trans ?_ (Kp.of (by assumption)); walk_at "kpc")
  | fail)
local macro_rules | `(tactic| walk_at "ik") => `(tactic| first
  | assumption
  | exact InsK.refl
  | (refine' InsK.trans ?ika ?ikb; (case ikb => exact InsK.same (by assumption)); (case ika => walk_at "ik"))
  | (refine' InsK.trans ?ika ?ikb; (case ikb => exact InsK.ext (by assumption)); (case ika => walk_at "ik"))
  | (refine' InsK.trans ?ika ?ikb; (case ikb => (refine' InsK.pen ?ikp ?ikk; (case ikk => assumption); (case ikp => walk_at "pen"))); (case ika => walk_at "ik"))
  | (refine' InsK.trans ?ika ?ikb; (case ikb => (refine' InsK.kpl ?ikl ?ikk; (case ikk => assumption); (case ikl => walk_at "hp"))); (case ika => walk_at "ik"))
  | fail)
local macro_rules | `(tactic| walk_at "tl") => `(tactic| first
  | assumption
  | (refine' TlAt.ik ?tlk ?tla; (case tla => assumption); (case tlk => walk_at "ik"))
  | fail)
local macro_rules | `(tactic| walk_at "drw") => `(tactic| first
  | ((with_reducible refine' y_drawC ?k1 ?k2 ?k3 ?k4 ?k5); (case k1 => walk_at "pen"); (case k2 => omega); (case k3 => (first | decide | omega)); (case k4 => (first | exact nat4000 (by decide) | exact nat4000 (Nat.le_trans (by omega) (show 1000000 ≤ 10 ^ 60 by decide)))); (intro rr HH rr0 rr1 PP kk))
  | fail)
local macro_rules | `(tactic| walk_at "np") => `(tactic| first
  | assumption
  | (refine' PenAt.p_ne ?npP ?nph; (case nph => assumption); (case npP => walk_at "pen"))
  | fail)
local macro_rules | `(tactic| walk_at "y") => `(tactic| first
  | with_reducible refine y_make ?_
  | with_reducible refine y_makeKG ?_
  | with_reducible refine y_smD ?_
  | with_reducible refine y_dget ?_
  | with_reducible refine y_dput ?_
  | ((with_reducible refine' z_dgetR ?k1 ?k2 ?k3); (case k1 => walk_at "hp"); (case k2 => exact rfl))
  | ((with_reducible refine z_disp ?_); (intro pp HH npp spp opp))
  | ((with_reducible refine z_dnew ?_); (intro pp HH npp spp opp))
  | fail)
local macro_rules | `(tactic| walk_at "hp") => `(tactic| first
  | (refine' kpne ?ess ?esn ?esk; (case ess => assumption); (case esn => walk_at "np"); (case esk => walk_at "hp"))
  | fail)
local macro_rules | `(tactic| walk_at "hp") => `(tactic| first
  | (refine' kpdat ?ess ?esl ?esk ?esn; (case ess => assumption); (case esl => walk_at "hp"); (case esk => walk_at "hp"); (case esn => (intro _ zz; cases zz)))
  | fail)
local macro_rules | `(tactic| walk_at "pen") => `(tactic| first
  | (refine' PenAt.kpd ?pek ?ped ?pes; (case pes => assumption); (case ped => walk_at "hp"); (case pek => walk_at "pen"))
  | fail)
local macro_rules | `(tactic| walk_at "ik") => `(tactic| first
  | (refine' InsK.trans ?ika ?ikb; (case ikb => (refine' InsK.kpd ?ikl ?ikk; (case ikk => assumption); (case ikl => walk_at "hp"))); (case ika => walk_at "ik"))
  | fail)
local macro_rules | `(tactic| walk_at "tabs") => `(tactic| first
  | (refine' OZ.Tabs.kpd ?tbs ?tbl ?tbk; (case tbs => assumption); (case tbl => walk_at "hp"); (case tbk => walk_at "tabs"))
  | fail)
local macro_rules | `(tactic| walk_at "y") => `(tactic| first
  | with_reducible refine y_js ?_
  | with_reducible refine y_js0 ?_
  | with_reducible refine y_fmt ?_
  | with_reducible refine y_fmtP ?_
  | with_reducible refine y_methP ?_
  | with_reducible refine y_methKP ?_
  | fail)
theorem TupK.kpl {H H' : Hp} {l : Addr} {xs : List V} (hl : H l = some (.lst xs)) (k : Kp l H H') : TupK H H' := fun a ys h => k _ _ (fun z => by rw [z, hl] at h; cases h) h
local macro_rules | `(tactic| walk_at "tpk") => `(tactic| first
  | assumption
  | exact TupK.refl
  | (refine' TupK.trans ?ika ?ikb; (case ikb => exact TupK.same (by assumption)); (case ika => walk_at "tpk"))
  | (refine' TupK.trans ?ika ?ikb; (case ikb => exact TupK.ext (by assumption)); (case ika => walk_at "tpk"))
  | (refine' TupK.trans ?ika ?ikb; (case ikb => (refine' TupK.pen ?ikp ?ikk; (case ikk => assumption); (case ikp => walk_at "pen"))); (case ika => walk_at "tpk"))
  | (refine' TupK.trans ?ika ?ikb; (case ikb => (refine' TupK.kpl ?ikp ?ikk; (case ikk => assumption); (case ikp => walk_at "hp"))); (case ika => walk_at "tpk"))
  | fail)
local macro_rules | `(tactic| walk_at "y") => `(tactic| first
  | ((with_reducible refine' z_setL ?k1 ?k2 ?k3); (case k1 => walk_at "hp"); (case k2 => exact rfl); (intro HH kpp opp))
  | fail)
section
variable {P : Program} {w : World} {K : PySem.W.Frag} {mg : Str → Option Value} {base : Heap}
def plD (t : Tl) : PyData := .tuple [.str (kwT t), .str t.nm, .str t.sn, match t.db with
  | none => .none
  | some q => .tuple [.int q.num, .int (q.den : Int)]]
theorem pl_dp {H : Hp} {a : Addr} {t : Tl} (h : PlAt H a t) : Dp K H (.ref a) (plD t) := by
  obtain ⟨r, h1, h2⟩ := h
  refine .tup (SqT.of h1) (.cons (.str _) (.cons (.str _) (.cons (.str _) (.cons ?_ .nil))))
  rcases h2 with ⟨e, rfl⟩ | ⟨ra, q, e, rfl, h⟩
  · rw [e]; exact .non
  · rw [e]; exact .tup (SqT.of h) (.cons (.int _) (.cons (.int _) .nil))
theorem pl_eqv (t u : Tl) : PyData.eqv (plD t) (plD u) = teq t u := by
  obtain ⟨n, s, d⟩ := t
  obtain ⟨n', s', d'⟩ := u
  by_cases h : (⟨n, s, d⟩ : Tl) = ⟨n', s', d'⟩
  · injection h with h1 h2 h3
    subst h1 h2 h3
    rw [teq_self]
    cases d <;> simp [plD, PyData.eqv, PyData.eqvAll]
  · rw [teq_ne h]
    cases d with
    | none =>
      cases d' with
      | none =>
        simp only [plD, PyData.eqv, PyData.eqvAll, kwT]
        by_cases e1 : n = n'
        · by_cases e2 : s = s'
          · exact absurd (by rw [e1, e2]) h
          · simp [beq_eq_false_iff_ne.mpr e2]
        · simp [beq_eq_false_iff_ne.mpr e1]
      | some q => simp [plD, PyData.eqv, PyData.eqvAll, kwT]
    | some q =>
      cases d' with
      | none => simp [plD, PyData.eqv, PyData.eqvAll, kwT]
      | some q' =>
        simp only [plD, PyData.eqv, PyData.eqvAll, kwT]
        by_cases e1 : n = n'
        · by_cases e2 : s = s'
          · by_cases e3 : q.num = q'.num
            · have e4 : ¬ (q.den : Int) = (q'.den : Int) := fun z => h (by rw [e1, e2, show q = q' from Rat.ext e3 (by omega)])
              simp [beq_eq_false_iff_ne.mpr e4]
            · simp [beq_eq_false_iff_ne.mpr e3]
          · simp [beq_eq_false_iff_ne.mpr e2]
        · simp [beq_eq_false_iff_ne.mpr e1]
theorem pl_shp {t : Tl} (ok : TlL t) : SeqAt.shaped (plD t) = true := by
  have h1 := nm_ok ok.nm
  have h2 := sn_ok ok.sn
  have h3 : PyData.strOk "scale" = true := by decide +kernel
  have h4 : PyData.strOk "ranker" = true := by decide +kernel
  obtain ⟨n, s, d⟩ := t
  cases d <;> simp [SeqAt.shaped, plD, kwT, PyData.canLay0, PyData.canLayAll0, PyData.depth, PyData.depthAll, h1, h2, h3, h4]
theorem y_eqPl {H : Hp} {Q : VK} {a b : Addr} {t u : Tl} (ha : PlAt H a t) (hb : PlAt H b u) (oa : TlL t) (ob : TlL u) (q : Q (.bl (teq t u)) H) : rEqD K (.ref a) (.ref b) H Q := ⟨_, _, pl_dp ha, pl_dp hb, pl_shp oa, pl_shp ob, by rw [pl_eqv]; exact q⟩
theorem y_nePl {H : Hp} {Q : VK} {a b : Addr} {t u : Tl} (ha : PlAt H a t) (hb : PlAt H b u) (oa : TlL t) (ob : TlL u) (q : Q (.bl (!teq t u)) H) : rNeD K (.ref a) (.ref b) H Q := ⟨_, _, pl_dp ha, pl_dp hb, pl_shp oa, pl_shp ob, by rw [pl_eqv]; exact q⟩
theorem y_reprBB {l : Addr} {H : Hp} {Q : VK} {x y : Bool} (hl : H l = some (.lst [.bl x, .bl y])) (q : Q (.str (PyData.list [.bool x, .bool y]).shown) H) : rReprE [.ref l] H Q :=
  ⟨l + 1, _, _, rfl, .lst (Nat.ne_of_lt (Nat.lt_succ_self l)) hl (.cons (.bl x) (.cons (.bl y) .nil)), ⟨by simp [PyData.showable, PyData.showableAll], by simp [PyData.leavesShort, PyData.leavesShortAll], by simp [PyData.depth, PyData.depthAll], by simp [PyData.weight, PyData.weightAll]⟩, q⟩
theorem NoTl.same {H H' : Hp} {v : V} (s : Same H H') (h : NoTl K H v) : NoTl K H' v := by
  obtain ⟨ty, h1, h2⟩ := h
  exact ⟨ty, tyX_same s h1, h2⟩
theorem NoTl.ov {H : Hp} {p : Addr} {v : V} (TF : TlF K) (TE : TlE K) (h : OV K H p v) : NoTl K H v := by
  obtain ⟨T, h1, h2, _⟩ := h.ty
  exact ⟨_, h2, TF.kt T h1, fun C hC => (TE.nf C hC).1 T h1⟩
def spEqual (K : PySem.W.Frag) : Sp := fun vs H Q _ => ∃ (p c : Addr) (n : Nat) (a : Addr) (t : Tl), vs = [.ref p, .ref a] ∧ PenAt H p c n ∧ n ≤ 70000 ∧ PlAt H a t ∧ TlL t ∧ ∀ H', PenAt H' p c (n + 10) → Kp p H H' → Q (.bl true) H'
abbrev s_eqr : Stmt := topS 53
theorem sc_eqr : FnScope ["_law_pen_here", "_law_plain_here", "_law_other", "_law_near", "_law_at", "_law_mate", "_law_made_here", "_law_some", "_law_one"] ["_law_pen_here", "_law_plain_here"] (defScope s_eqr) := ⟨rfl, rfl, rfl, by decide +kernel, rfl, by decide +kernel, by decide +kernel⟩
set_option maxHeartbeats 4000000 in
theorem ok_eqr {f : Addr} {fd : FuncData} (F : FnP K "_law_equal_right" s_eqr f fd) (T : TopT K mg) (TF : TlF K) (TE : TlE K) (O : AOps P w K mg base) (TO : TlOps P w K mg base)
    (F_law_draw : Fnc P w K mg base 1 "_law_draw" ["_law_pen_here", "_law_many"] spDraw) (F_law_pick : Fnc P w K mg base 2 "_law_pick" ["_law_pen_here", "_law_some"] spPick) (F_law_plain : Fnc P w K mg base 4 "_law_plain" ["_law_pen_here"] spPlain)
    (F_law_made : Fnc P w K mg base 9 "_law_made" ["_law_plain_here"] (spMade K)) : FnG P w K mg base 10 f fd ["_law_pen_here", "_law_plain_here"] (spEqual K) := by
  have nd := sc_eqr.nd
  have AF := O.AF
  refine fnG_of F sc_eqr (fun vs H Q E h => ?_) (fun cdv A' outer s H vs Q E hr gd h => ?_)
  · obtain ⟨p, c, n, a, t, rfl, _⟩ := h
    rfl
  · obtain ⟨p, c, n, a, t, rfl, hP, hn, ha, ok, k⟩ := h
    have hu64 := hr.units
    have okk := ok.ok
    refine ⟨_, PSs.nox (pss_cons (ps_set (i := 2) nd rfl (Or.inl rfl) (oc F_law_plain (hr.mono (by decide)) (pa_cons (pv 0) pa_nil)))
      (pss_cons (ps_set (i := 3) nd rfl (Or.inl rfl) (pe_lst (pa_cons (pv 1) (pa_cons (pv 1) (pa_cons (pv 1) (pa_cons (pv 2) (pa_cons (pv 2) pa_nil)))))))
      (pss_cons (ps_set (i := 4) nd rfl (Or.inl rfl) (oc F_law_draw (hr.mono (by decide)) (pa_cons (pv 0) (pa_cons pe_int pa_nil))))
      (pss_cons (ps_if (pt_cmpR op_eq (pv 4) pe_int (nomark _))
        (pss_one (ps_asg (pe_tup (pa_cons (pe_ix ix_tup (pv 1) pe_int (fun _ _ => rfl)) (pa_cons pe_str (pa_cons (pe_ix ix_tup (pv 1) pe_int (fun _ _ => rfl)) (pa_cons (pe_ix ix_tup (pv 1) pe_int (fun _ _ => rfl)) pa_nil))))) (pg_sub (pv 3) pe_int set_list)))
        pss_nil)
      (pss_cons (ps_if (pt_cmpR op_eq (pv 4) pe_int (nomark _))
        (pss_one (ps_asg (pe_tup (pa_cons (pe_ix ix_tup (pv 1) pe_int (fun _ _ => rfl)) (pa_cons (pe_ix ix_tup (pv 1) pe_int (fun _ _ => rfl)) (pa_cons (oc F_law_pick (hr.mono (by decide)) (pa_cons (pv 0) (pa_cons (pe_lst (pa_cons pe_str (pa_cons pe_str (pa_cons pe_str pa_nil)))) pa_nil))) (pa_cons (pe_ix ix_tup (pv 1) pe_int (fun _ _ => rfl)) pa_nil))))) (pg_sub (pv 3) pe_int set_list)))
        pss_nil)
      (pss_cons (ps_if (PW.pt (pw_and (pt_cmpR op_eq (pv 4) pe_int (nomark _)) (pw_and1 (pt_cmpR o_notN (pe_ix ix_tup (pv 1) pe_int (fun _ _ => rfl)) pe_non (nomark _)))))
        (pss_one (ps_asg (pe_tup (pa_cons (pe_ix ix_tup (pv 1) pe_int (fun _ _ => rfl)) (pa_cons (pe_ix ix_tup (pv 1) pe_int (fun _ _ => rfl)) (pa_cons (pe_ix ix_tup (pv 1) pe_int (fun _ _ => rfl)) (pa_cons (pe_tup (pa_cons pe_int (pa_cons pe_int pa_nil))) pa_nil))))) (pg_sub (pv 3) pe_int set_list)))
        pss_nil)
      (pss_cons (ps_if (pt_cmpR op_eq (pv 4) pe_int (nomark _))
        (pss_one (ps_asg (pe_tup (pa_cons pe_str (pa_cons (pe_ix ix_tup (pv 1) pe_int (fun _ _ => rfl)) (pa_cons (pe_ix ix_tup (pv 1) pe_int (fun _ _ => rfl)) (pa_cons pe_non pa_nil))))) (pg_sub (pv 3) pe_int set_list)))
        pss_nil)
      (pss_cons (ps_asg (pe_tup (pa_cons (pe_ix ix_list (pv 3) (pv 4) (fun _ _ => rfl)) (pa_cons (oc F_law_made (hr.mono (by decide)) (pa_cons (pv 1) pa_nil)) pa_nil))) (pg_tup rfl (pgs_cons (pg_name (i := 5) nd rfl (Or.inl rfl)) (pgs_cons (pg_name (i := 6) nd rfl (Or.inr rfl)) pgs_nil))))
      (pss_cons (ps_if (pt_cmpR op_ne (pe_callB (c_reprE gd hr T.sm) (by rfl) T.n_repr (by decide +kernel) (pa_cons (pe_lst (pa_cons (pe_cmpR (o_eqP TO.M_tool_eq (hr.mono (by decide)) passL) (pv 6) (oc F_law_made (hr.mono (by decide)) (pa_cons (pv 5) pa_nil)) (nomark _)) (pa_cons (pe_cmpR (o_neP TO.N_tool TO.M_tool_eq (hr.mono (by decide)) passL) (pv 6) (oc F_law_made (hr.mono (by decide)) (pa_cons (pv 5) pa_nil)) (nomark _)) pa_nil))) pa_nil)) (pe_callB (c_reprE gd hr T.sm) (by rfl) T.n_repr (by decide +kernel) (pa_cons (pe_lst (pa_cons (pe_cmpR (op_eqD hu64) (pv 1) (pv 5) (nomark _)) (pa_cons (pe_cmpR (op_neD hu64) (pv 1) (pv 5) (nomark _)) pa_nil))) pa_nil)) (nomark _))
        (pss_one (ps_ret pe_bl))
        pss_nil)
      (pss_cons (ps_set (i := 7) nd rfl (Or.inl rfl) (pe_lst (pa_cons pe_non (pa_cons pe_int (pa_cons pe_bl (pa_cons (pe_ix ix_tup (pv 1) pe_int (fun _ _ => rfl)) (pa_cons (pe_callTy (c_strP TO.M_tool_str (hr.mono (by decide)) passL) (by rfl) T.n_str (by decide +kernel) (pa_cons (pv 6) pa_nil)) (pa_cons (pe_lst (pa_cons (pv 6) pa_nil)) (pa_cons (pe_tup (pa_cons (pv 6) pa_nil)) (pa_cons pe_dnewK (pa_cons (mkA1E O.MA (hr.mono (by decide)) passL (pa_cons pe_int pa_nil)) pa_nil)))))))))))
      (pss_one (ps_ret (pe_cmpR (op_eqD hu64) (pe_lc (own := [("_law_one", 8)]) (g := gName 8) rfl nd (pi_list (pv 7)) (blkOk_by (N := ["_law_pen_here", "_law_plain_here", "_law_other", "_law_near", "_law_at", "_law_mate", "_law_made_here", "_law_some", "_law_one"]) (sc := defScope (topS 53)) (by decide +kernel)) (fun _ _ _ _ _ => (pg_name (i := 8) nd rfl (Or.inl rfl))) (fun _ _ _ _ _ => (pts_one (PW.pt (pw_or (pt_cmpR (o_eqPB (K := K) TO.M_tool_eq (hr.mono (by decide)) passL) (pv 6) (pv 8) (nomark _)) (pw_or1 (pt_not (pt_cmpR (o_nePB (K := K) TO.N_tool TO.M_tool_eq (hr.mono (by decide)) passL) (pv 6) (pv 8) (nomark _)))))))) (fun _ _ _ _ _ => (pv 8))) (pe_lst pa_nil) (nomark _)))))))))))))), ?_⟩
    refine seq_by (fun σ' G => ∃ o u, σ' = [some (.ref p), some (.ref a), some (.ref o), none, none, none, none, none, none] ∧ PlAt G o u ∧ TlL u ∧ PenAt G p c (n + 5) ∧ Kp p H G) ?_ ?_
    · intro R hR
      repeat walk_at "y"
      refine ⟨p, c, n, rfl, hP, by omega, fun o u H1 ou hu P1 k1 => ?_⟩
      repeat walk_at "y"
      exact hR _ _ ⟨o, u, rfl, hu, ou, P1, k1⟩
    rintro σ1 H1 ⟨o, u, rfl, hu, ou, P1, k1⟩
    have a1 : PlAt H1 a t := ha.tk (TupK.pen hP k1)
    refine seq_by (fun σ' G => ∃ l, σ' = [some (.ref p), some (.ref a), some (.ref o), some (.ref l), none, none, none, none, none] ∧ G l = some (.lst [.ref a, .ref a, .ref a, .ref o, .ref o]) ∧ l ≠ p ∧ l ≠ c ∧ Same H1 G ∧ H1 l = none) ?_ ?_
    · intro R hR
      repeat walk_at "y"
      exact hR _ _ ⟨_, rfl, by walk_at "hp", by walk_at "np", P1.c_ne (by assumption), by walk_at "same", by assumption⟩
    rintro σ2 H2 ⟨l, rfl, o2, nlp, nlc, s2, nl1⟩
    have P2 : PenAt H2 p c (n + 5) := P1.same s2
    have nl0 : H l = none := by
      cases z : H l with
      | none => rfl
      | some o => rw [k1 _ _ nlp z] at nl1; cases nl1
    have penl : ∀ {G G' : Hp} {m : Nat}, PenAt G p c m → Kp l G G' → PenAt G' p c m := fun P k => by
      obtain ⟨ns, b, m, h1, h2, r⟩ := P
      exact ⟨ns, b, m, k _ _ (Ne.symm nlp) h1, k _ _ (Ne.symm nlc) h2, r⟩
    have kpl : ∀ {G G' : Hp}, Kp p H G → Kp l G G' → Kp p H G' := fun k1 k2 a o na e => k2 _ _ (ne_of_none e nl0) (k1 _ _ na e)
    have k2 : Kp p H H2 := k1.same s2
    have a2 : PlAt H2 a t := a1.tk (TupK.same s2)
    have u2 : PlAt H2 o u := hu.tk (TupK.same s2)
    refine seq_by (fun σ' G => ∃ r : Int, σ' = [some (.ref p), some (.ref a), some (.ref o), some (.ref l), some (.int r), none, none, none, none] ∧ 0 ≤ r ∧ r < 5 ∧ PenAt G p c (n + 6) ∧ Kp p H2 G) ?_ ?_
    · intro R hR
      repeat walk_at "y"
      walk_at "drw"
      repeat walk_at "y"
      exact hR _ _ ⟨_, rfl, by assumption, by assumption, by assumption, by assumption⟩
    rintro σ3 H3 ⟨r, rfl, r0, r5, P3, k3⟩
    have a3 : PlAt H3 a t := a2.tk (TupK.pen P2 k3)
    have u3 : PlAt H3 o u := u2.tk (TupK.pen P2 k3)
    have o3 : H3 l = some (.lst [.ref a, .ref a, .ref a, .ref o, .ref o]) := k3 _ _ nlp o2
    have kk3 : Kp p H H3 := k2.trans k3
    obtain ⟨rr, ha3, hr3⟩ := id a3
    refine seq4_by (fun σ' G => ∃ (b : Addr) (u' : Tl) (xs : List V), σ' = [some (.ref p), some (.ref a), some (.ref o), some (.ref l), some (.int r), none, none, none, none] ∧ G l = some (.lst xs) ∧ atI xs r = some (.ref b) ∧ PlAt G b u' ∧ TlL u' ∧ PlAt G a t ∧ PenAt G p c (n + 7) ∧ Kp p H G) ?_ ?_
    · intro R hR
      have rc : r = 0 ∨ r = 1 ∨ r = 2 ∨ r = 3 ∨ r = 4 := by omega
      rcases rc with rfl | rfl | rfl | rfl | rfl
      · repeat walk_at "y"
        rename_i t4 H4 n4 s4 o4 H5 k5 o5
        have lH4 : H4 l = some (.lst [.ref a, .ref a, .ref a, .ref o, .ref o]) := s4 _ _ o3
        have tk5 : TupK H3 H5 := TupK.trans (TupK.same s4) (TupK.kpl lH4 k5)
        exact hR _ _ ⟨t4, ⟨"other", t.sn, t.db⟩, _, rfl, o5, rfl, pl_mk (k5 _ _ (fun z => by rw [z, lH4] at o4; cases o4) o4) (by cases t; exact kwT_db) (hr3.tk tk5), ⟨show isNm "other" = true by decide +kernel, ok.sn, ok.db⟩, a3.tk tk5, (penl (P3.same s4) k5).mono (by omega), kpl (kk3.same s4) k5⟩
      · repeat walk_at "y"
        refine y_pickH (fun G x => ∃ z, x = .str z ∧ z ∈ SEN) (by walk_at "pen") (by omega) (by walk_at "np") (by walk_at "hp") (by simp) (by simp) ?_ ?_
        · repeat' (first | exact allv_nil | refine allv_cons ⟨_, rfl, by decide +kernel⟩ ?_)
        rename_i lz Hz nz sz oz
        rintro x H4 ⟨zs, rfl, hzs⟩ P3' P4 k4
        have Pz : PenAt Hz p c (n + 6) := P3.same sz
        have ha4 := k4 _ _ (Pz.ne_tup (sz _ _ ha3)) (sz _ _ ha3)
        have lH4 : H4 l = some (.lst [.ref a, .ref a, .ref a, .ref o, .ref o]) := k4 _ _ nlp (sz _ _ o3)
        repeat walk_at "y"
        rename_i t4 H5 n5 s5 o5 H6 k6 o6
        have lH5 : H5 l = some (.lst [.ref a, .ref a, .ref a, .ref o, .ref o]) := s5 _ _ lH4
        have tk6 : TupK H3 H6 := TupK.trans (TupK.same sz) (TupK.trans (TupK.pen Pz k4) (TupK.trans (TupK.same s5) (TupK.kpl lH5 k6)))
        exact hR _ _ ⟨t4, ⟨t.nm, zs, t.db⟩, _, rfl, o6, rfl, pl_mk (k6 _ _ (fun z => by rw [z, lH5] at o5; cases o5) o5) (by cases t; exact kwT_db) (hr3.tk tk6), ⟨ok.nm, hzs, ok.db⟩, a3.tk tk6, penl (P4.same s5) k6, kpl (((kk3.same sz).trans k4).same s5) k6⟩
      · rcases hr3 with ⟨ed, rfl⟩ | ⟨ra, q, ed, rfl, hra⟩
        · repeat walk_at "y"
          exact hR _ _ ⟨a, t, _, rfl, o3, rfl, a3, ok, a3, P3.mono (by omega), kk3⟩
        · repeat walk_at "y"
          rename_i t4 H4 n4 s4 o4 t5 H5 n5 s5 o5 H6 k6 o6
          have lH5 : H5 l = some (.lst [.ref a, .ref a, .ref a, .ref o, .ref o]) := s5 _ _ (s4 _ _ o3)
          have tk6 : TupK H3 H6 := TupK.trans (TupK.same s4) (TupK.trans (TupK.same s5) (TupK.kpl lH5 k6))
          have nf : Nf 7 13 := ⟨by decide, by decide⟩
          have e := nf_divq nf
          have kw : kwT t = kwT ⟨t.nm, t.sn, some (divq 7 13)⟩ := by unfold kwT; rw [ed]
          have h4 : H6 t4 = some (.tup [.int 7, .int 13]) := k6 _ _ (fun z => by rw [z, s4 _ _ o3] at o4; cases o4) (s5 _ _ o4)
          exact hR _ _ ⟨t5, ⟨t.nm, t.sn, some (divq 7 13)⟩, _, rfl, o6, rfl, pl_mk (k6 _ _ (fun z => by rw [z, lH5] at o5; cases o5) o5) kw (.inr ⟨t4, _, rfl, rfl, by rw [e.1, e.2]; exact h4⟩), ⟨ok.nm, ok.sn, fun q' e2 => by
            cases e2
            exact ⟨divq_nn (by decide) (by decide), by rw [SzQ, e.1, e.2]; exact ⟨by unfold Sz; decide, by unfold Sz; decide⟩⟩⟩, a3.tk tk6, (penl ((P3.same s4).same s5) k6).mono (by omega), kpl ((kk3.same s4).same s5) k6⟩
      · repeat walk_at "y"
        rename_i t4 H4 n4 s4 o4 H5 k5 o5
        have lH4 : H4 l = some (.lst [.ref a, .ref a, .ref a, .ref o, .ref o]) := s4 _ _ o3
        have tk5 : TupK H3 H5 := TupK.trans (TupK.same s4) (TupK.kpl lH4 k5)
        exact hR _ _ ⟨t4, ⟨t.nm, t.sn, none⟩, _, rfl, o5, rfl, pl_mk (k5 _ _ (fun z => by rw [z, lH4] at o4; cases o4) o4) rfl (.inl ⟨rfl, rfl⟩), ⟨ok.nm, ok.sn, fun q e => by cases e⟩, a3.tk tk5, (penl (P3.same s4) k5).mono (by omega), kpl (kk3.same s4) k5⟩
      · repeat walk_at "y"
        exact hR _ _ ⟨o, u, _, rfl, o3, rfl, u3, ou, a3, P3.mono (by omega), kk3⟩
    rintro σ4 H4 ⟨b, u', xs, rfl, o4, hat, hb, ob, a4, P4, k4⟩
    refine seq_by (fun σ' G => ∃ m, σ' = [some (.ref p), some (.ref a), some (.ref o), some (.ref l), some (.int r), some (.ref b), some (.ref m), none, none] ∧ TlAt K G m t ∧ Same H4 G) ?_ ?_
    · intro R hR
      repeat walk_at "y"
      refine ⟨a, t, rfl, a4, ok, fun m H5 n5 s5 t5 => ?_⟩
      repeat walk_at "y"
      exact hR _ _ ⟨m, rfl, t5.ik (.same (by assumption)), by walk_at "same"⟩
    rintro σ5 H5 ⟨m, rfl, t5, s5⟩
    have b5 : PlAt H5 b u' := hb.tk (TupK.same s5)
    have a5 : PlAt H5 a t := a4.tk (TupK.same s5)
    refine seq_by (fun σ' G => σ' = [some (.ref p), some (.ref a), some (.ref o), some (.ref l), some (.int r), some (.ref b), some (.ref m), none, none] ∧ Same H5 G) ?_ ?_
    · intro R hR
      repeat walk_at "y"
      refine ⟨b, u', rfl, b5, ob, fun m2 H6 n6 s6 t6 => ?_⟩
      refine y_teq TF TE (t5.ik (.same s6)) t6 okk ob.ok fun H7 s7 => ?_
      repeat walk_at "y"
      refine ⟨b, u', rfl, b5.tk (TupK.same (s6.trans s7)), ob, fun m3 H8 n8 s8 t8 => ?_⟩
      refine y_tne TF TE (t5.ik (.same (s6.trans (s7.trans s8)))) t8 okk ob.ok fun H9 s9 => ?_
      repeat walk_at "y"
      refine y_reprBB (by assumption) ?_
      repeat walk_at "y"
      refine y_eqPl (a5.tk (by walk_at "tpk")) (b5.tk (by walk_at "tpk")) ok ob ?_
      repeat walk_at "y"
      refine y_nePl (a5.tk (by walk_at "tpk")) (b5.tk (by walk_at "tpk")) ok ob ?_
      repeat walk_at "y"
      refine y_reprBB (by assumption) ?_
      repeat walk_at "y"
      exact hR _ _ ⟨rfl, by walk_at "same"⟩
    rintro σ6 H6 ⟨rfl, s6⟩
    have t6 : TlAt K H6 m t := t5.ik (.same s6)
    have P6 : PenAt H6 p c (n + 7) := (P4.same s5).same s6
    have k6 : Kp p H H6 := (k4.same s5).same s6
    obtain ⟨rr6, a6, _⟩ := a5.tk (TupK.same s6)
    refine seq_by (fun σ' G => ∃ ls xs, σ' = [some (.ref p), some (.ref a), some (.ref o), some (.ref l), some (.int r), some (.ref b), some (.ref m), some (.ref ls), none] ∧ Same H6 G ∧ G ls = some (.lst xs) ∧ ∀ x ∈ xs, NoTl K G x) ?_ ?_
    · intro R hR
      obtain ⟨dx6, fs6, hi6, hl6⟩ := t6.ins
      repeat walk_at "y"
      refine ⟨m, _, dx6, fs6, rfl, hi6, isTl_cls t, m, t, rfl, t6, okk, fun H7 s7 => ⟨_, rfl, ?_⟩⟩
      repeat walk_at "y"
      rename_i aq l8 H8 n8 s8 o8
      refine hR _ _ ⟨_, _, rfl, by walk_at "same", o8, ?_⟩
      have ov : ∀ {G : Hp} {v : V}, OV K G p v → NoTl K G v := fun h => NoTl.ov TF TE h
      have am : ∀ {G : Hp} {z : Addr} {q : Rat}, AmQ (CA K) G z q → NoTl K G (.ref z) := fun h => by
        obtain ⟨dx, h⟩ := h
        exact ⟨_, AF.oc.ty h, TF.k9, fun C hC => (TE.nf C hC).2.2.2⟩
      repeat' (first | exact allv_nil | refine allv_cons (by first | exact ov OV.non | exact ov OV.int | exact ov OV.bl | exact ov OV.str | exact ov (OV.lst (by walk_at "hp") (by walk_at "np")) | exact ov (OV.tup (by walk_at "hp") (by walk_at "np")) | exact ov (OV.dK (by walk_at "hp") (by walk_at "np")) | exact am (by walk_at "aq")) ?_)
    rintro σ7 H7 ⟨ls, xs7, rfl, s7, o7, v7⟩
    have t7 : TlAt K H7 m t := t6.ik (.same s7)
    repeat walk_at "y"
    refine ⟨_, rfl, ⟨_, SqL.of o7⟩, ?_⟩
    refine l_list (fun D i G => Same H7 G ∧ G D = some (.lst [])) (fun D G _ s o _ => ⟨s, o⟩) (fun D i G _ _ h => SqL.of (h.1 _ _ o7)) ?_ ?_
    · rintro D i x G hD hx ⟨s1, o1⟩
      have nx := (v7 x (List.mem_of_getElem? hx)).same s1
      repeat walk_at "y"
      refine ⟨rfl, ?_⟩
      repeat walk_at "y"
      refine y_teqO (t7.ik (.same s1)) okk nx ?_
      repeat walk_at "y"
      refine y_tneO (t7.ik (.same s1)) okk nx ?_
      repeat walk_at "y"
      exact ⟨s1, o1⟩
    rintro Da G1 _ ⟨sa, oa⟩
    repeat walk_at "y"
    refine y_eqD0 (by walk_at "hp") (by walk_at "hp") ?_
    exact k _ ((show PenAt _ p c _ by walk_at "pen").mono (by omega)) (by walk_at "kpc")
end
end LW
set_option maxRecDepth 100000
namespace LW
open PySem PySem.Spec PyProof.Rows L2 OZ LamX
local macro_rules | `(tactic| walk_at "szx1") => `(tactic| first
  | with_reducible assumption
  | exact sz_i64 (n := 64) (by decide)
  | (refine' Sz.add ?sx ?sy; (case sx => walk_at "szx1"); (case sy => walk_at "szx1"))
  | (refine' Sz.sub ?sx ?sy; (case sx => walk_at "szx1"); (case sy => walk_at "szx1"))
  | (refine' Sz.mul ?sx ?sy; (case sx => walk_at "szx1"); (case sy => walk_at "szx1"))
  | (refine' Sz.neg ?sx; (case sx => walk_at "szx1"))
  | (refine' Sz.iabs ?sx; (case sx => walk_at "szx1"))
  | (refine' sz_fdiv ?sx ?sy; (case sy => walk_at "nz"); (case sx => walk_at "szx1")))
local macro_rules | `(tactic| walk_at "szx") => `(tactic| (refine' Sz.mono ?szk ?szl; (case szk => walk_at "szx1"); (case szl => exact Nat.le_of_ble_eq_true rfl)))
local macro_rules | `(tactic| walk_at "aq") => `(tactic| first
  | assumption
  | (refine' AmQ.same ?aqs ?aqk; (case aqs => assumption); (case aqk => walk_at "aq"))
  | (refine' AmQ.extN ?aqs ?aqk; (case aqs => assumption); (case aqk => walk_at "aq"))
  | (refine' AmQ.kpl ?aqs ?aql ?aqk; (case aqs => assumption); (case aql => walk_at "hp"); (case aqk => walk_at "aq"))
  | (refine' AmQ.kp ?aql ?aqs ?aqk; (case aqs => assumption); (case aql => walk_at "pen"); (case aqk => walk_at "aq")))
local macro_rules | `(tactic| walk_at "nq") => `(tactic| first
  | assumption
  | exact NumQ.int
  | (refine' NumQ.am ?nqk; (case nqk => walk_at "aq"))
  | (refine' NumQ.same ?nqs ?nqk; (case nqs => assumption); (case nqk => walk_at "nq"))
  | (refine' NumQ.extN ?nqs ?nqk; (case nqs => assumption); (case nqk => walk_at "nq"))
  | (refine' NumQ.kpl ?nqs ?nql ?nqk; (case nqs => assumption); (case nql => walk_at "hp"); (case nqk => walk_at "nq")))
local macro_rules | `(tactic| walk_at "sz1") => `(tactic| first
  | with_reducible assumption
  | (refine' SzQ.add ?sx ?sy; (case sx => walk_at "sz1"); (case sy => walk_at "sz1"))
  | (refine' SzQ.sub ?sx ?sy; (case sx => walk_at "sz1"); (case sy => walk_at "sz1"))
  | (refine' SzQ.mul ?sx ?sy; (case sx => walk_at "sz1"); (case sy => walk_at "sz1"))
  | (refine' SzQ.div ?sx ?sy ?sz; (case sz => assumption); (case sx => walk_at "sz1"); (case sy => walk_at "sz1"))
  | (refine' SzQ.rmod ?sx ?sy ?sz; (case sz => assumption); (case sx => walk_at "sz1"); (case sy => walk_at "sz1"))
  | (refine' SzQ.neg ?sx; (case sx => walk_at "sz1"))
  | (refine' SzQ.qabs ?sx; (case sx => walk_at "sz1"))
  | (refine' SzQ.int ?sx ?sy; (case sx => with_reducible assumption); (case sy => exact Nat.le_of_ble_eq_true rfl))
  | exact sz_lit (by decide))
local macro_rules | `(tactic| walk_at "sz") => `(tactic| (refine' SzQ.mono ?szk ?szl; (case szk => walk_at "sz1"); (case szl => exact Nat.le_of_ble_eq_true rfl)))
local macro_rules | `(tactic| walk_at "nz") => `(tactic| first
  | assumption
  | decide
  | omega
  | exact intq0 (by decide))
local macro_rules | `(tactic| walk_at "szi") => `(tactic| first
  | assumption
  | exact Sz.mono (by with_reducible assumption) (Nat.le_of_ble_eq_true rfl)
  | exact sz_i64 (by decide))
local macro_rules | `(tactic| walk_at "ex") => `(tactic| first
  | assumption
  | (refine ExAt.same (by assumption) ?_; walk_at "ex"))
local macro_rules | `(tactic| walk_at "same") => `(tactic| first
  | assumption
  | exact same0
  | (refine Same.trans ?_ (by assumption); walk_at "same"))
local macro_rules | `(tactic| walk_at "tabs") => `(tactic| first
  | assumption
  | (refine' OZ.Tabs.same ?tbs ?tbk; (case tbs => assumption); (case tbk => walk_at "tabs"))
  | (refine' OZ.Tabs.kpl ?tbs ?tbl ?tbk; (case tbs => assumption); (case tbl => walk_at "hp"); (case tbk => walk_at "tabs"))
  | (refine' OZ.Tabs.kp ?tbl ?tbs ?tbk; (case tbs => assumption); (case tbl => walk_at "pen"); (case tbk => walk_at "tabs")))
local macro_rules | `(tactic| walk_at "ext") => `(tactic| first
  | assumption
  | exact LamX.ExtN.refl _
  | exact LamX.ExtN.of (by assumption)
  | (refine LamX.ExtN.trans ?_ (by assumption); walk_at "ext")
  | (refine LamX.ExtN.trans ?_ (LamX.ExtN.of (by assumption)); walk_at "ext"))
local macro_rules | `(tactic| walk_at "pen") => `(tactic| first
  | assumption
  | (refine' PenAt.same ?pek ?pes; (case pes => assumption); (case pek => walk_at "pen"))
  | (refine' PenAt.extN ?pek ?pes; (case pes => assumption); (case pek => walk_at "pen")))
local macro_rules | `(tactic| walk_at "kn") => `(tactic| first
  | assumption
  | exact KN.refl
  | (refine KN.trans ?_ (KN.same (by assumption)); walk_at "kn")
  | (refine KN.trans ?_ (KN.kp (by assumption)); walk_at "kn")
  | (refine KN.trans ?_ (KN.ext (by assumption)); walk_at "kn")
  | (refine KN.trans ?_ (by assumption); walk_at "kn"))
local macro_rules | `(tactic| walk_at "free") => `(tactic| first
  | assumption
  | (refine sfree (by assumption) ?_; walk_at "free"))
local macro_rules | `(tactic| walk_at "hp") => `(tactic| first
  | assumption
  | exact upd_same
  | (refine sat (by assumption) ?_; walk_at "hp")
  | (refine' esat ?ess ?esk ?esn; (case ess => assumption); (case esk => walk_at "hp"); (case esn => (intro _ zz; cases zz)))
  | (refine' kpne ?ess ?esn ?esk; (case ess => assumption); (case esn => (first | assumption | exact Ne.symm (by assumption))); (case esk => walk_at "hp"))
  | (refine' kpsat ?ess ?esl ?esk ?esn; (case ess => assumption); (case esl => walk_at "hp"); (case esk => walk_at "hp"); (case esn => (intro _ zz; cases zz)))
  | (refine upd_old ?_ ?_; (first | assumption | exact free_upd (by assumption)); walk_at "hp")
  | (refine upd_oth ?_ ?_; (first | assumption | exact Ne.symm (by assumption)); walk_at "hp"))
local macro_rules | `(tactic| walk_at "side") => `(tactic| first
  | assumption
  | decide
  | omega
  | exact ⟨by omega, by omega, by omega⟩
  | exact Or.inl ⟨by omega, by omega⟩
  | exact Or.inr ⟨by omega, by omega⟩
  | (show (_ : Int) ≠ 0; omega)
  | (refine' Sz.mulW ?ma ?mb ?mc; (case ma => walk_at "szx1"); (case mb => walk_at "szx1"); (case mc => exact Nat.le_of_ble_eq_true rfl))
  | (refine' Sz.divN ?ma ?mb ?mc; (case ma => walk_at "szx1"); (case mb => walk_at "nz"); (case mc => exact Nat.le_of_ble_eq_true rfl))
  | exact wide_div (b := 64) (by omega) (by omega) (by decide) (by decide)
  | exact wide_div (b := 4000) (by assumption) (by assumption) (by decide) (by decide))
local macro_rules | `(tactic| walk_at "y") => `(tactic| first
  | ((with_reducible refine y_var ?_); refine ⟨_, rfl, ?_⟩)
  | with_reducible refine y_c ?_
  | with_reducible refine y_op ?_
  | with_reducible refine y_cb ?_
  | with_reducible refine y_cons ?_
  | with_reducible refine y_nil ?_
  | with_reducible refine y_seq ?_
  | with_reducible refine y_asg ?_
  | with_reducible refine x_gn ?_
  | ((with_reducible refine' y_nx ?k1 ?k2); (case k1 => (simp only [L2.start, List.length_cons, List.length_nil, List.map_cons, List.map_nil, List.set_cons_succ, List.set_cons_zero, List.cons_append, List.nil_append, List.replicate]; rfl)))
  | with_reducible refine y_gsub ?_
  | with_reducible refine y_ret ?_
  | with_reducible refine y_drop ?_
  | with_reducible refine y_next ?_
  | with_reducible refine y_ifS ?_
  | with_reducible refine y_test ?_
  | with_reducible refine y_B ?_
  | with_reducible refine y_ex ?_
  | with_reducible refine y_not ?_
  | with_reducible refine y_and ?_
  | with_reducible refine y_or ?_
  | with_reducible refine y_notV ?_
  | with_reducible refine y_andV ?_
  | with_reducible refine y_orV ?_
  | with_reducible refine y_ifE ?_
  | with_reducible refine y_un ?_
  | with_reducible refine x_par ?_
  | with_reducible refine y_ex2 ?_
  | with_reducible refine y_call ?_
  | with_reducible refine y_callS ?_
  | with_reducible refine y_I0 ?_
  | ((with_reducible refine y_I ?_ ?_); (walk_at "side"))
  | with_reducible refine y_U ?_
  | ((with_reducible refine y_eq ?_ ?_); (exact rfl))
  | ((with_reducible refine y_ne ?_ ?_); (exact rfl))
  | ((with_reducible refine' y_ixL ?k1 ?k2 ?k3); (case k1 => walk_at "hp"); (case k2 => (first | assumption | exact rfl)))
  | ((with_reducible refine' y_ixT ?k1 ?k2 ?k3); (case k1 => walk_at "hp"); (case k2 => (first | assumption | exact rfl)))
  | ((with_reducible refine' y_setL ?k1 ?k2 ?k3); (case k1 => walk_at "hp"); (case k2 => (first | assumption | exact rfl)))
  | with_reducible refine y_int ?_
  | with_reducible refine y_intB ?_
  | with_reducible refine y_abs ?_
  | ((with_reducible refine' y_lenL ?k1 ?k3); (case k1 => walk_at "hp"))
  | ((with_reducible refine' y_lenT ?k1 ?k3); (case k1 => walk_at "hp"))
  | ((with_reducible refine y_lenS ?_ ?_); (walk_at "side"))
  | with_reducible refine y_isN ?_
  | with_reducible refine y_notN ?_
  | ((with_reducible refine y_addS ?_ ?_); (walk_at "side"))
  | with_reducible refine y_inC ?_
  | with_reducible refine y_notInC ?_
  | with_reducible refine y_sl ?_
  | with_reducible refine y_part ?_
  | with_reducible refine y_nopart ?_
  | with_reducible refine y_exI ?_
  | ((with_reducible refine y_slS ?_ ?_); (walk_at "side"))
  | with_reducible refine z_lst ?_
  | with_reducible refine z_tup ?_
  | ((with_reducible refine z_newL ?_ ?_); (exact Nat.le_of_ble_eq_true rfl); (intro pp HH npp spp opp))
  | ((with_reducible refine z_newT ?_ ?_); (exact Nat.le_of_ble_eq_true rfl); (intro pp HH npp spp opp))
  | ((with_reducible refine' y_chI ?k1 ?k2); (case k1 => exact rfl))
  | with_reducible refine y_chain ?_
  | with_reducible refine y_yes ?_
  | with_reducible refine y_att ?_
  | ((with_reducible refine y_disp ?_ ?_); (exact Nat.le_of_ble_eq_true rfl); (intro pp hpp))
  | ((with_reducible refine' y_gtup ?k1 ?k2 ?k3); (case k1 => walk_at "hp"); (case k2 => exact rfl))
  | with_reducible refine y_gcons ?_
  | with_reducible refine y_gnil ?_
  | with_reducible refine y_mkO ?_
  | with_reducible refine y_callKw ?_
  | with_reducible refine y_mkA ?_
  | with_reducible refine y_sm ?_
  | with_reducible refine y_smK ?_
  | with_reducible refine y_cut0 ?_
  | with_reducible refine y_methK ?_
  | ((with_reducible refine' y_lm ?k1 ?k2); (case k1 => walk_at "tabs"); (intro HH ee tt))
  | ((with_reducible refine' z_rep ?k1 ?k2 ?k3 ?k4 ?k5); (case k1 => walk_at "hp"); (case k2 => decide); (case k3 => decide); (case k4 => exact Nat.le_of_ble_eq_true rfl); (intro pp HH npp spp opp))
  | ((with_reducible refine z_rev (by decide) (by walk_at "hp") ?_); (intro pp HH npp spp opp))
  | with_reducible refine y_rfl ?_
  | with_reducible refine y_mkA1 ?_
  | ((with_reducible refine' y_aqT ?k0 ?k1 ?k2); (case k0 => assumption); (case k1 => walk_at "aq"))
  | ((with_reducible refine' y_aqB ?k0 ?k1 ?k2); (case k0 => assumption); (case k1 => walk_at "aq"))
  | ((with_reducible refine' y_bin ?k1 ?k2 ?k3 ?k4 ?k5); (case k1 => walk_at "aq"); (case k2 => walk_at "nq"); (case k3 => walk_at "sz"); (case k4 => walk_at "sz"); (intro pp HH npp spp opp))
  | ((with_reducible refine' y_rbin ?k1 ?k3 ?k4 ?k5); (case k1 => walk_at "aq"); (case k3 => walk_at "sz"); (case k4 => walk_at "sz"); (intro pp HH npp spp opp))
  | ((with_reducible refine' y_binM ?k1 ?k2 ?k3 ?k4 ?k5); (case k1 => walk_at "aq"); (case k2 => walk_at "nq"); (case k3 => walk_at "sz"); (case k4 => walk_at "sz"); (intro pp HH npp spp opp))
  | ((with_reducible refine' y_rbinM ?k1 ?k3 ?k4 ?k5); (case k1 => walk_at "aq"); (case k3 => walk_at "sz"); (case k4 => walk_at "sz"); (intro pp HH npp spp opp))
  | ((with_reducible refine' y_binD ?k1 ?k2 ?k3 ?k4 ?k5 ?k6); (case k1 => walk_at "aq"); (case k2 => walk_at "nq"); (case k3 => walk_at "sz"); (case k4 => walk_at "sz"); (case k5 => walk_at "nz"); (intro pp HH npp spp opp))
  | ((with_reducible refine' y_rbinD ?k1 ?k3 ?k4 ?k5 ?k6); (case k1 => walk_at "aq"); (case k3 => walk_at "sz"); (case k4 => walk_at "sz"); (case k5 => walk_at "nz"); (intro pp HH npp spp opp))
  | ((with_reducible refine' y_binF ?k1 ?k2 ?k3 ?k4 ?k5 ?k6); (case k1 => walk_at "aq"); (case k2 => walk_at "nq"); (case k3 => walk_at "sz"); (case k4 => walk_at "sz"); (case k5 => walk_at "nz"); (intro HH spp))
  | ((with_reducible refine' y_rbinF ?k1 ?k3 ?k4 ?k5 ?k6); (case k1 => walk_at "aq"); (case k3 => walk_at "sz"); (case k4 => walk_at "sz"); (case k5 => walk_at "nz"); (intro HH spp))
  | ((with_reducible refine' y_cmp ?kK ?k0 ?k1 ?k2 ?k3 ?k4 ?k5); (case kK => exact rfl); (case k0 => assumption); (case k1 => walk_at "aq"); (case k2 => walk_at "nq"); (case k3 => walk_at "sz"); (case k4 => walk_at "sz"); (intro HH spp))
  | ((with_reducible refine' y_rcmp ?k1 ?k3 ?k4 ?k5); (case k1 => walk_at "aq"); (case k3 => walk_at "sz"); (case k4 => walk_at "sz"); (intro HH spp))
  | ((with_reducible refine' y_ceq ?kK ?k0 ?k1 ?k2 ?k5); (case kK => exact rfl); (case k0 => assumption); (case k1 => walk_at "aq"); (case k2 => walk_at "nq"); (intro HH spp))
  | ((with_reducible refine' y_req ?k1 ?k5); (case k1 => walk_at "aq"); (intro HH spp))
  | ((with_reducible refine' y_cne ?kK ?k0 ?k1 ?k2 ?k5); (case kK => exact rfl); (case k0 => assumption); (case k1 => walk_at "aq"); (case k2 => walk_at "nq"); (intro HH spp))
  | ((with_reducible refine' y_un1 ?k1 ?k3 ?k5); (case k1 => walk_at "aq"); (case k3 => walk_at "sz"); (intro pp HH npp spp opp))
  | ((with_reducible refine' y_absO ?k1 ?k3 ?k5); (case k1 => walk_at "aq"); (case k3 => walk_at "sz"); (intro pp HH npp spp opp))
  | ((with_reducible refine' y_truA ?k1 ?k5); (case k1 => walk_at "aq"))
  | ((with_reducible refine' y_boolA ?k1 ?k5); (case k1 => walk_at "aq"))
  | with_reducible refine y_meth ?_
  | ((with_reducible refine' y_methX ?k1 ?k2); (case k1 => walk_at "aq"))
  | ((with_reducible refine' y_over ?k1 ?k2 ?k3 ?k4 ?k5 ?k6); (case k1 => walk_at "aq"); (case k2 => walk_at "nq"); (case k3 => walk_at "sz"); (case k4 => walk_at "sz"); (case k5 => walk_at "nz"); (intro pp HH npp spp opp))
  | ((with_reducible refine x_aug ?_); refine ⟨_, rfl, ?_⟩)
  | ((with_reducible refine' y_nwI ?k1 ?k2 ?k3 ?k4); (case k1 => walk_at "nz"); (case k2 => walk_at "szi"); (case k3 => walk_at "szi"); (intro pp HH npp spp opp))
  | ((with_reducible refine' y_nwI1 ?k2 ?k4); (case k2 => walk_at "szi"); (intro pp HH npp spp opp))
  | with_reducible refine y_fld ?_
  | with_reducible refine y_for ?_
  | with_reducible refine y_iRng1 ?_
  | with_reducible refine y_iRng2 ?_
  | ((with_reducible refine y_rgF1 ?_ ?_); (first | decide | omega))
  | ((with_reducible refine y_rgL1 ?_ ?_); (first | decide | omega))
  | ((with_reducible refine y_rgF2 ?_ ?_); (first | decide | omega))
  | ((with_reducible refine y_rgL2 ?_ ?_); (first | decide | omega))
  | with_reducible refine y_lc ?_
  | with_reducible refine y_rev ?_
  | ((with_reducible refine' y_glst ?k1 ?k2 ?k3); (case k1 => walk_at "hp"); (case k2 => exact rfl))
  | with_reducible refine y_iList ?_
  | with_reducible refine y_iTup ?_
  | with_reducible refine y_iEnum ?_
  | ((with_reducible refine' y_itL ?k1 ?k2); (case k1 => walk_at "hp"))
  | ((with_reducible refine' y_itT ?k1 ?k2); (case k1 => walk_at "hp"))
  | ((with_reducible refine' y_itE ?k1 ?k2); (case k1 => walk_at "hp"))
  | with_reducible refine y_m0 ?_
  | ((with_reducible refine' z_slT ?k1 ?k2 ?k3); (case k1 => walk_at "hp"); (case k2 => decide); (intro pp HH npp spp opp))
  | with_reducible refine y_pp ?_
  | with_reducible refine y_pp0 ?_
  | with_reducible refine y_xv ?_
  | with_reducible refine y_xv0 ?_
  | with_reducible refine y_bm ?_
  | ((with_reducible refine' y_tyL ?k1 ?k2); (case k1 => walk_at "hp"))
  | ((with_reducible refine' z_app ?k1 ?k2 ?k3); (case k1 => walk_at "hp"); (case k2 => (first | exact Nat.le_of_ble_eq_true rfl | walk_at "side")); (intro HH kpp opp))
  | ((with_reducible refine' z_cat ?k1 ?k2 ?k3 ?k4); (case k1 => walk_at "hp"); (case k2 => walk_at "hp"); (case k3 => (first | exact Nat.le_of_ble_eq_true rfl | walk_at "side")); (intro pp HH npp spp opp))
  | ((with_reducible refine' z_slL ?k1 ?k2); (case k1 => walk_at "hp"); (intro pp HH npp spp opp))
  | ((with_reducible refine' y_in ?k1 ?k2 ?k3 ?k4); (case k1 => walk_at "hp"); (case k2 => exact rfl); (case k3 => exact rfl))
  | with_reducible refine y_iteT ?_
  | with_reducible refine y_iteF ?_
  | with_reducible refine y_iteNT ?_
  | with_reducible refine y_iteNF ?_
  | ((with_reducible refine y_iteY ?_ ?_); (first | exact rfl | assumption | omega))
  | ((with_reducible refine y_iteX ?_ ?_); (first | focus (intro zz; cases zz; done) | assumption | omega))
  | ((with_reducible refine y_iteNY ?_ ?_); (first | exact rfl | assumption | omega))
  | ((with_reducible refine y_iteNX ?_ ?_); (first | focus (intro zz; cases zz; done) | assumption | omega))
  | ((with_reducible refine y_ite ?_ ?_) <;> intro hh)
  | ((with_reducible refine y_iteN ?_ ?_) <;> intro hh)
  | dsimp only)
local macro_rules | `(tactic| walk_at "kpc") => `(tactic| first
  | assumption
  | exact Kp.refl _ _
  | (refine Kp.trans ?_ (by assumption); walk_at "kpc")
  | (refine Kp.trans ?_ (Kp.of (by assumption)); walk_at "kpc")
  | fail)
local macro_rules | `(tactic| walk_at "ik") => `(tactic| first
  | assumption
  | exact InsK.refl
  | (refine' InsK.trans ?ika ?ikb; (case ikb => exact InsK.same (by assumption)); (case ika => walk_at "ik"))
  | (refine' InsK.trans ?ika ?ikb; (case ikb => exact InsK.ext (by assumption)); (case ika => walk_at "ik"))
  | (refine' InsK.trans ?ika ?ikb; (case ikb => (refine' InsK.pen ?ikp ?ikk; (case ikk => assumption); (case ikp => walk_at "pen"))); (case ika => walk_at "ik"))
  | (refine' InsK.trans ?ika ?ikb; (case ikb => (refine' InsK.kpl ?ikl ?ikk; (case ikk => assumption); (case ikl => walk_at "hp"))); (case ika => walk_at "ik"))
  | fail)
local macro_rules | `(tactic| walk_at "tl") => `(tactic| first
  | assumption
  | (refine' TlAt.ik ?tlk ?tla; (case tla => assumption); (case tlk => walk_at "ik"))
  | fail)
local macro_rules | `(tactic| walk_at "drw") => `(tactic| first
  | ((with_reducible refine' y_drawC ?k1 ?k2 ?k3 ?k4 ?k5); (case k1 => walk_at "pen"); (case k2 => omega); (case k3 => (first | decide | omega)); (case k4 => (first | exact nat4000 (by decide) | exact nat4000 (Nat.le_trans (by omega) (show 1000000 ≤ 10 ^ 60 by decide)))); (intro rr HH rr0 rr1 PP kk))
  | fail)
local macro_rules | `(tactic| walk_at "np") => `(tactic| first
  | assumption
  | (refine' PenAt.p_ne ?npP ?nph; (case nph => assumption); (case npP => walk_at "pen"))
  | fail)
local macro_rules | `(tactic| walk_at "y") => `(tactic| first
  | with_reducible refine y_make ?_
  | with_reducible refine y_makeKG ?_
  | with_reducible refine y_smD ?_
  | with_reducible refine y_dget ?_
  | with_reducible refine y_dput ?_
  | ((with_reducible refine' z_dgetR ?k1 ?k2 ?k3); (case k1 => walk_at "hp"); (case k2 => exact rfl))
  | ((with_reducible refine z_disp ?_); (intro pp HH npp spp opp))
  | ((with_reducible refine z_dnew ?_); (intro pp HH npp spp opp))
  | fail)
local macro_rules | `(tactic| walk_at "hp") => `(tactic| first
  | (refine' kpne ?ess ?esn ?esk; (case ess => assumption); (case esn => walk_at "np"); (case esk => walk_at "hp"))
  | fail)
local macro_rules | `(tactic| walk_at "hp") => `(tactic| first
  | (refine' kpdat ?ess ?esl ?esk ?esn; (case ess => assumption); (case esl => walk_at "hp"); (case esk => walk_at "hp"); (case esn => (intro _ zz; cases zz)))
  | fail)
local macro_rules | `(tactic| walk_at "pen") => `(tactic| first
  | (refine' PenAt.kpd ?pek ?ped ?pes; (case pes => assumption); (case ped => walk_at "hp"); (case pek => walk_at "pen"))
  | fail)
local macro_rules | `(tactic| walk_at "ik") => `(tactic| first
  | (refine' InsK.trans ?ika ?ikb; (case ikb => (refine' InsK.kpd ?ikl ?ikk; (case ikk => assumption); (case ikl => walk_at "hp"))); (case ika => walk_at "ik"))
  | fail)
local macro_rules | `(tactic| walk_at "tabs") => `(tactic| first
  | (refine' OZ.Tabs.kpd ?tbs ?tbl ?tbk; (case tbs => assumption); (case tbl => walk_at "hp"); (case tbk => walk_at "tabs"))
  | fail)
local macro_rules | `(tactic| walk_at "y") => `(tactic| first
  | with_reducible refine y_js ?_
  | with_reducible refine y_js0 ?_
  | with_reducible refine y_fmt ?_
  | with_reducible refine y_fmtP ?_
  | with_reducible refine y_methP ?_
  | with_reducible refine y_methKP ?_
  | fail)
theorem TupK.kn {H H' : Hp} {p c : Addr} {n : Nat} (hp : PenAt H p c n) (k : KN p H H') : TupK H H' := fun a xs h => k _ _ (hp.ne_tup h) (fun ps z => by cases z) h
section
variable {P : Program} {w : World} {K : PySem.W.Frag} {mg : Str → Option Value} {base : Heap}
def spLaw (K : PySem.W.Frag) : Sp := fun vs H Q _ => ∃ (a : Addr) (ns : List Int), vs = [.ref a] ∧ SqL K H a (ns.map V.int) ∧ ns.length ≤ 63 ∧ Tabs (LTs K) H ∧ ∀ H', Q (.bl true) H'
theorem tabs_of {H : Hp} (h : ∀ q ∈ [dnW].map (He.cT K), H q.2 = some (.tbl #[])) : Tabs (LTs K) H := fun p hp => by
  obtain ⟨d, hd, rfl⟩ := List.mem_map.mp hp
  exact TabS.nil (h _ (List.mem_map.mpr ⟨d, hd, rfl⟩))
abbrev s_law : Stmt := topS 54
theorem sc_law : FnScope ["_law_script", "_law_pen_here", "_law_turn", "_law_plain_here"] ["_law_script"] (defScope s_law) := ⟨rfl, rfl, rfl, by decide +kernel, rfl, by decide +kernel, by decide +kernel⟩
set_option maxHeartbeats 4000000 in
theorem ok_law {f : Addr} {fd : FuncData} (F : FnP K "law" s_law f fd) (T : TopT K mg) (F_law_pen : Fnc P w K mg base 1 "_law_pen" ["_law_script"] (spPen K)) (F_law_plain : Fnc P w K mg base 4 "_law_plain" ["_law_pen_here"] spPlain)
    (F_law_changed_right : Fnc P w K mg base 11 "_law_changed_right" ["_law_pen_here", "_law_plain_here"] (spChg K)) (F_law_wrong_right : FncG P w K mg base 13 "_law_wrong_right" ["_law_pen_here", "_law_plain_here"] (spWrong K)) (F_law_equal_right : FncG P w K mg base 10 "_law_equal_right" ["_law_pen_here", "_law_plain_here"] (spEqual K)) :
    FnG P w K mg base 14 f fd ["_law_script"] (spLaw K) := by
  have nd := sc_law.nd
  refine fnG_of F sc_law (fun vs H Q E h => ?_) (fun cdv A' outer s H vs Q E hr gd h => ?_)
  · obtain ⟨a, ns, rfl, _⟩ := h
    rfl
  · obtain ⟨a, ns, rfl, hS, hl, hT, k⟩ := h
    refine ⟨_, PSs.nox (pss_cons (ps_set (i := 1) nd rfl (Or.inl rfl) (oc F_law_pen (hr.mono (by decide)) (pa_cons (pv 0) pa_nil)))
      (pss_cons (ps_for PassesOwn.never rfl (pi_range1 (by rfl) T.n_range (pa_cons pe_int pa_nil)) (pg_name (i := 2) nd rfl (Or.inl rfl))
        (pss_cons (ps_set (i := 3) nd rfl (Or.inl rfl) (oc F_law_plain (hr.mono (by decide)) (pa_cons (pv 1) pa_nil)))
        (pss_one (ps_if (PW.pt (pw_or (pt_not (pt_val (oc F_law_changed_right (hr.mono (by decide)) (pa_cons (pv 1) (pa_cons (pv 3) pa_nil))))) (pw_or (pt_not (pt_val (ocG F_law_wrong_right (hr.mono (by decide)) gd (pa_cons (pv 1) (pa_cons (pv 3) pa_nil))))) (pw_or1 (pt_not (pt_val (ocG F_law_equal_right (hr.mono (by decide)) gd (pa_cons (pv 1) (pa_cons (pv 3) pa_nil)))))))))
          (pss_one (ps_ret pe_bl))
          pss_nil))))
      (pss_one (ps_ret pe_bl)))), ?_⟩
    refine seq_by (fun σ' G => ∃ p c, σ' = [some (.ref a), some (.ref p), none, none] ∧ PenAt G p c 0 ∧ Tabs (LTs K) G) ?_ ?_
    · intro R hR
      repeat walk_at "y"
      refine ⟨a, ns, rfl, hS, hl, fun p c H1 s1 _ _ P1 => ?_⟩
      repeat walk_at "y"
      exact hR _ _ ⟨p, c, rfl, P1, OZ.Tabs.same s1 hT⟩
    rintro σ1 G1 ⟨p, c, rfl, P1, T1⟩
    refine seq_by (fun σ' G => True) ?_ ?_
    · intro R hR
      repeat walk_at "y"
      refine f_range (fun i σ' H' => ∃ y2 y3 : Option V, σ' = [some (.ref a), some (.ref p), y2, y3] ∧ PenAt H' p c (100 * i) ∧ Tabs (LTs K) H') ⟨none, none, rfl, P1, T1⟩ ?_ ?_
      · rintro i σ' H2 hi ⟨y2, y3, rfl, P2, T2⟩
        have i8 : i < 8 := by omega
        repeat walk_at "y"
        refine ⟨p, c, _, rfl, P2, by omega, fun b t H3 ok hb P3 k3 => ?_⟩
        repeat walk_at "y"
        refine ⟨p, c, _, b, t, rfl, P3, by omega, hb, ok, fun H4 P4 k4 => ?_⟩
        have T4 := OZ.Tabs.kp P3 k4 (OZ.Tabs.kp P2 k3 T2)
        have b4 := hb.tk (TupK.pen P3 k4)
        repeat walk_at "y"
        refine ⟨p, c, _, b, t, rfl, P4, by omega, b4, ok, T4, fun H5 P5 k5 T5 => ?_⟩
        repeat walk_at "y"
        refine ⟨p, c, _, b, t, rfl, P5, by omega, b4.tk (TupK.kn P4 k5), ok, fun H6 P6 k6 => ?_⟩
        repeat walk_at "y"
        exact ⟨_, _, rfl, P6.mono (by omega), OZ.Tabs.kp P5 k6 T5⟩
      · rintro σ' H2 ⟨y2, y3, rfl, P2, T2⟩
        exact hR _ _ trivial
    rintro σ2 G2 _
    repeat walk_at "y"
    exact k _
end
end LW
set_option maxRecDepth 100000
set_option maxHeartbeats 0
namespace LW
open PySem PySem.Spec PyProof.Rows L2 OZ
abbrev PP : Program := (PySem.Challenge.rw_ownzeros_k12_tools_turned_and_renamed).prog
theorem asm {w : World} {K : PySem.W.Frag} {h : Heap} {mg : Str → Option Value} {fa : Addr} (X : K.In h) (G : h.Ns mainGlobals mg) (hfa : mg ("law" : Str) = some (.ref fa)) (ct : ToldT PP.main.file fn fs dics tfs exB w h K) :
    ∃ fd : FuncData, (∀ (s : Shared) (u : Value), BindsTo s fd ⟨[u], []⟩ [("_law_script", u)]) ∧ ∀ base : Heap, K.In base → base.Ns mainGlobals mg → (∀ q ∈ tfs.map (He.cT K), LamX.TabB base mg q.1 q.2) → FnG PP w K mg base 14 fa fd ["_law_script"] (spLaw K) := by
  have c := ct.s
  have e := c.a.more
  unfold exB at e
  obtain ⟨h_glos, e⟩ := He.ba e
  obtain ⟨h_frees, e⟩ := He.ba e
  obtain ⟨h_am, e⟩ := He.ba e
  obtain ⟨h_xb, e⟩ := He.ba e
  obtain ⟨h_xn, e⟩ := He.ba e
  obtain ⟨h_nb, e⟩ := He.ba e
  obtain ⟨h_ib, e⟩ := He.ba e
  obtain ⟨h_en, e⟩ := He.ba e
  obtain ⟨h_sm, e⟩ := He.ba e
  obtain ⟨h_tool, e⟩ := He.ba e
  obtain ⟨h_xt, e⟩ := He.ba e
  obtain ⟨h_nt, e⟩ := He.ba e
  obtain ⟨h_it, e⟩ := He.ba e
  obtain ⟨h_sen, e⟩ := He.ba e
  obtain ⟨h_gsen, e⟩ := He.ba e
  obtain ⟨h_goth, e⟩ := He.ba e
  obtain ⟨h_letters, e⟩ := He.ba e
  obtain ⟨h_longest, e⟩ := He.ba e
  obtain ⟨h_opq, e⟩ := He.ba e
  obtain ⟨h_mks, e⟩ := He.ba e
  obtain ⟨h_mkr, e⟩ := He.ba e
  obtain ⟨h_tlm, e⟩ := He.ba e
  obtain ⟨h_own, e⟩ := He.ba e
  obtain ⟨h_nes, e⟩ := He.ba e
  obtain ⟨h_ner, e⟩ := He.ba e
  obtain ⟨h_nfs, e⟩ := He.ba e
  obtain ⟨h_nfr, e⟩ := He.ba e
  obtain ⟨h_oth, e⟩ := He.ba e
  obtain ⟨h_exo, e⟩ := He.ba e
  have h_kt1 := e
  have gl : ∀ x ∈ glos, mg x = some (.ref (He.ga K x)) := fun x hx => He.glo_ok X G (List.all_eq_true.mp h_glos x hx)
  have fr : ∀ x ∈ frees, mg x = none := fun x hx => He.free_ok X G (List.all_eq_true.mp h_frees x hx)
  have sm : ∃ o, K.lookup sysModules = some o := Option.isSome_iff_exists.mp h_sm
  have T : TopA K mg := ⟨⟨fr "len" (by decide), fr "int" (by decide), fr "abs" (by decide), fr "list" (by decide)⟩, fr "isinstance" (by decide), fr "bool" (by decide), fr "tuple" (by decide), fr "repr" (by decide), fr "range" (by decide), fr "str" (by decide), sm, gl "Amount" (by decide)⟩
  have TP := T.toTopP
  have AF : AmF K (CA K) := amB_ok h_am
  obtain ⟨ib1, ib2⟩ := He.ba h_ib
  have IB : IniF K mg "BadAmount" := ⟨gl "BadAmount" (by decide), xcB_ok h_xb, of_decide_eq_true ib1, of_decide_eq_true ib2⟩
  have naB : PySem.W.findIn K (.ref (He.ga K "BadAmount")) "value" = some none := of_decide_eq_true h_nb
  have MN : X0 K mg "NoDivisor" (CN K) := ⟨gl "NoDivisor" (by decide), xcB_ok h_xn, h_en⟩
  have TN : TopN K mg := ⟨T, fr "all" (by decide), He.int_ok X G h_longest, He.str_ok X G h_letters⟩
  have TT : TopT K mg := ⟨TN, fr "super" (by decide), of_decide_eq_true h_opq, gl "Tool" (by decide), gl "Scale" (by decide), gl "Ranker" (by decide), He.glo_ok X G h_gsen, fun H => He.tupB_ok h_sen H⟩
  have T2 : TopT2 K w mg := ⟨TT, He.glo_ok X G h_goth, fun p hp => ct.item 0 rfl (List.all_eq_true.mp h_oth p hp)⟩
  have naT : PySem.W.findIn K (.ref (He.ga K "BadTool")) "part" = some none := of_decide_eq_true h_nt
  have TH : TopH K w mg := ⟨T2, gl "OwnError" (by decide), gl "BadTool" (by decide), of_decide_eq_true h_exo, of_decide_eq_true h_kt1, xcB_ok h_xt, naT⟩
  have TF : TlF K := toolB_ok h_tool
  have TE : TlE K := ⟨fun C hC => by
    rcases hC with rfl | rfl
    · exact ⟨(nfB_ok h_nfs).1, (nfB_ok h_nfs).2 _ (by simp), (nfB_ok h_nfs).2 _ (by simp), (nfB_ok h_nfs).2 _ (by simp)⟩
    · exact ⟨(nfB_ok h_nfr).1, (nfB_ok h_nfr).2 _ (by simp), (nfB_ok h_nfr).2 _ (by simp), (nfB_ok h_nfr).2 _ (by simp)⟩⟩
  obtain ⟨f_isnm, F_isnm⟩ := c.a.d.def_ 3 (d := d_is_name) rfl
  obtain ⟨f_figs, F_figs⟩ := c.a.d.def_ 4 (d := d_figures_of) rfl
  obtain ⟨f_itx, F_itx⟩ := c.a.d.def_ 5 (d := d_integer_text) rfl
  obtain ⟨f_np, F_np⟩ := c.a.d.def_ 6 (d := d_need_parts) rfl
  obtain ⟨f_nd, F_nd⟩ := c.a.d.def_ 7 (d := d_need_doubt) rfl
  obtain ⟨f_pen, F_pen⟩ := c.a.d.def_ 8 (d := d_pen) rfl
  obtain ⟨f_draw, F_draw⟩ := c.a.d.def_ 9 (d := d_draw) rfl
  obtain ⟨f_pick, F_pick⟩ := c.a.d.def_ 10 (d := d_pick) rfl
  obtain ⟨f_number, F_number⟩ := c.a.d.def_ 11 (d := d_number) rfl
  obtain ⟨f_passed, F_passed⟩ := c.a.d.def_ 12 (d := d_passed) rfl
  obtain ⟨f_plain, F_plain⟩ := c.a.d.def_ 13 (d := d_plain) rfl
  obtain ⟨f_made, F_made⟩ := c.a.d.def_ 14 (d := d_made) rfl
  obtain ⟨f_is, F_is⟩ := c.a.d.def_ 15 (d := d_is) rfl
  obtain ⟨f_turned, F_turned⟩ := c.a.d.def_ 16 (d := d_turned) rfl
  obtain ⟨f_refd, F_refd⟩ := c.a.d.def_ 17 (d := d_refused) rfl
  obtain ⟨f_chg, F_chg⟩ := c.a.d.def_ 18 (d := d_changed_right) rfl
  obtain ⟨f_wrong, F_wrong⟩ := c.a.d.def_ 19 (d := d_wrong_right) rfl
  obtain ⟨f_eqr, F_eqr⟩ := c.a.d.def_ 20 (d := d_equal_right) rfl
  obtain ⟨f_law, F_law⟩ := c.a.d.def_ 21 (d := d_law) rfl
  obtain ⟨f_astr, F_astr⟩ := c.a.d.def_ 44 (d := d_Amount___str__) rfl
  obtain ⟨f_xbt, F_xbt⟩ := c.a.d.def_ 45 (d := d_BadTool___init__) rfl
  obtain ⟨f_tli, F_tli⟩ := c.a.d.def_ 46 (d := d_Tool___init__) rfl
  obtain ⟨f_tws, F_tws⟩ := c.a.d.def_ 47 (d := d_Tool_with_sense) rfl
  obtain ⟨f_tre, F_tre⟩ := c.a.d.def_ 48 (d := d_Tool_renamed) rfl
  obtain ⟨f_tneg, F_tneg⟩ := c.a.d.def_ 49 (d := d_Tool___neg__) rfl
  obtain ⟨f_teq, F_teq⟩ := c.a.d.def_ 50 (d := d_Tool___eq__) rfl
  obtain ⟨f_tstr, F_tstr⟩ := c.a.d.def_ 51 (d := d_Tool___str__) rfl
  obtain ⟨f_sma, F_sma⟩ := c.a.d.def_ 52 (d := d_Scale_made_as) rfl
  obtain ⟨f_stw, F_stw⟩ := c.a.d.def_ 53 (d := d_Scale_told_words) rfl
  obtain ⟨f_swd, F_swd⟩ := c.a.d.def_ 54 (d := d_Scale_with_doubt) rfl
  obtain ⟨f_rma, F_rma⟩ := c.a.d.def_ 55 (d := d_Ranker_made_as) rfl
  obtain ⟨f_rtw, F_rtw⟩ := c.a.d.def_ 56 (d := d_Ranker_told_words) rfl
  obtain ⟨ccS, fS, FS⟩ := c.sup (P := PP) 0 (d := d_Scale___init__) rfl
  obtain ⟨ccR, fR, FR⟩ := c.sup (P := PP) 1 (d := d_Ranker___init__) rfl
  have ef := hfa.symm.trans (gl "law" (by decide))
  cases ef
  have bL := FunD.bindsA (ps := ["_law_script"]) F_law fun _ _ _ _ _ _ us hl => match us, hl with | [_], _ => rfl
  refine ⟨f_law, fun s v => bL s [v] rfl, fun base _ _ tabB => ?_⟩
  have AA : AAll PP w K mg base := aall_of (T := T) (AF := AF) (IB := IB) (naB := naB) (MNoDivisor := MN)
    (g_is_int := gl "is_int" (by decide)) (h_is_int := c.a.d.def_ 0 (d := d_is_int) rfl)
    (g_shared_by := gl "shared_by" (by decide)) (h_shared_by := c.a.d.def_ 1 (d := d_shared_by) rfl)
    (g_halves := gl "halves" (by decide)) (h_halves := c.a.d.def_ 2 (d := d_halves) rfl)
    (h_xba := c.a.d.def_ 22 (d := d_BadAmount___init__) rfl)
    (h_init := c.a.d.def_ 23 (d := d_Amount___init__) rfl)
    (h_isn := c.a.d.def_ 24 (d := d_Amount_is_number) rfl)
    (h_of := c.a.d.def_ 25 (d := d_Amount_of) rfl)
    (h_add := c.a.d.def_ 26 (d := d_Amount___add__) rfl)
    (h_radd := c.a.d.def_ 27 (d := d_Amount___radd__) rfl)
    (h_sub := c.a.d.def_ 28 (d := d_Amount___sub__) rfl)
    (h_rsub := c.a.d.def_ 29 (d := d_Amount___rsub__) rfl)
    (h_mul := c.a.d.def_ 30 (d := d_Amount___mul__) rfl)
    (h_rmul := c.a.d.def_ 31 (d := d_Amount___rmul__) rfl)
    (h_floordiv := c.a.d.def_ 32 (d := d_Amount___floordiv__) rfl)
    (h_rfloordiv := c.a.d.def_ 33 (d := d_Amount___rfloordiv__) rfl)
    (h_mod := c.a.d.def_ 34 (d := d_Amount___mod__) rfl)
    (h_rmod := c.a.d.def_ 35 (d := d_Amount___rmod__) rfl)
    (h_neg := c.a.d.def_ 36 (d := d_Amount___neg__) rfl)
    (h_abs := c.a.d.def_ 37 (d := d_Amount___abs__) rfl)
    (h_bool := c.a.d.def_ 38 (d := d_Amount___bool__) rfl)
    (h_lt := c.a.d.def_ 39 (d := d_Amount___lt__) rfl)
    (h_le := c.a.d.def_ 40 (d := d_Amount___le__) rfl)
    (h_gt := c.a.d.def_ 41 (d := d_Amount___gt__) rfl)
    (h_ge := c.a.d.def_ 42 (d := d_Amount___ge__) rfl)
    (h_eq := c.a.d.def_ 43 (d := d_Amount___eq__) rfl)
  have O := AA.O
  have C_isnm : Fnc PP w K mg base 1 "is_name" ["value"] (spIsNm K) := ⟨_, _, gl "is_name" (by decide), F_isnm.kp, F_isnm.bindsN (fun _ _ _ _ _ _ us hl => match us, hl with | [_], _ => rfl), ok_isnm F_isnm TN⟩
  have C_figs : Fnc PP w K mg base 1 "figures_of" ["number"] spFigs := ⟨_, _, gl "figures_of" (by decide), F_figs.kp, F_figs.bindsN (fun _ _ _ _ _ _ us hl => match us, hl with | [_], _ => rfl), ok_figs F_figs T⟩
  have C_itx : Fnc PP w K mg base 2 "integer_text" ["number"] spItx := ⟨_, _, gl "integer_text" (by decide), F_itx.kp, F_itx.bindsN (fun _ _ _ _ _ _ us hl => match us, hl with | [_], _ => rfl), ok_itx F_itx T C_figs⟩
  have M_str : MthP PP w K mg base 3 (fun C => C = CA K) "__str__" ["self"] (fun _ => spStrA K) := fun C e => by
    subst e
    exact ⟨_, _, (AF.me "__str__" (by decide)).1, (AF.me "__str__" (by decide)).2, F_astr.bindsN (fun _ _ _ _ _ _ us hl => match us, hl with | [_], _ => rfl), ok_astr F_astr T AF C_itx⟩
  obtain ⟨it1, it2⟩ := He.ba h_it
  have MBT : XMk PP w K mg base "BadTool" (CBT K) ["self", "part"] (spX1 "part" (CBT K)) := ⟨gl "BadTool" (by decide), xcB_ok h_xt, _, _, of_decide_eq_true it1, of_decide_eq_true it2, F_xbt.bindsN (fun _ _ _ _ _ _ us hl => match us, hl with | [_, _], _ => rfl), ok_xbt F_xbt (xcB_ok h_xt) naT⟩
  have C_np : Fnc PP w K mg base 3 "need_parts" ["name", "sense"] (spNP K) := ⟨_, _, gl "need_parts" (by decide), F_np.kp, F_np.bindsN (fun _ _ _ _ _ _ us hl => match us, hl with | [_, _], _ => rfl), ok_np F_np TT C_isnm MBT⟩
  have C_nd : Fnc PP w K mg base 6 "need_doubt" ["doubt"] (spND K) := ⟨_, _, gl "need_doubt" (by decide), F_nd.kp, F_nd.bindsN (fun _ _ _ _ _ _ us hl => match us, hl with | [_], _ => rfl), ok_nd F_nd TT O MBT⟩
  have top : (PP.main.scope.names.lookup ("super" : Str)).isSome = false := by kernel_rfl
  have GT := ok_tli (P := PP) (w := w) (base := base) F_tli C_np
  have bT : Binds K f_tli ["self", "name", "sense"] [] := F_tli.bindsN (fun _ _ _ _ _ _ us hl => match us, hl with | [_, _, _], _ => rfl)
  have GS := ok_sci (w := w) (base := base) FS TT TF O top GT bT C_nd
  have GR := ok_rki (w := w) (base := base) FR TT TF top GT bT
  have mS := (mkB_ok h_mks).1
  have mR := (mkB_ok h_mkr).1
  have S3 : Binds K fS ["self", "name", "sense", "doubt"] [] := by
    obtain ⟨ds, hv, hb⟩ := FS.binds1 (ps := ["self", "name", "sense", "doubt"]) 4 2 (fun z => by cases z) rfl (fun T kV doc pm an cdv ct us its h1 h2 => match us, its, h1, h2 with | [_, _, _, _], [_, _], _, _ => ⟨_, rfl, rfl⟩)
    cases hv
    exact hb
  have R2 : Binds K fR ["self", "name", "sense"] [] := by
    obtain ⟨ds, hv, hb⟩ := FR.binds1 (ps := ["self", "name", "sense"]) 3 1 (fun z => by cases z) rfl (fun T kV doc pm an cdv ct us its h1 h2 => match us, its, h1, h2 with | [_, _, _], [_], _, _ => ⟨_, rfl, rfl⟩)
    cases hv
    exact hb
  have KS3 : MkC PP w K mg base 7 "Scale" (CSc K) ["self", "name", "sense", "doubt"] [] (spSc K) := ⟨_, _, [], gl "Scale" (by decide), mS, GS, S3, .nil⟩
  have KR2 : MkC PP w K mg base 5 "Ranker" (CRk K) ["self", "name", "sense"] [] (spRk K) := ⟨_, _, [], gl "Ranker" (by decide), mR, GR, R2, .nil⟩
  have tm : ∀ C, isTl K C → ∀ m ∈ (["with_sense", "renamed", "__neg__", "__eq__", "__str__"] : List Str), PySem.W.findIn K (.ref C) m = some (some (.ref (He.ma K (CTl K) m))) ∧ PySem.W.isFn K (.ref (He.ma K (CTl K) m)) = true := fun C hC m hm => mthB_ok (List.all_eq_true.mp (List.all_eq_true.mp h_tlm C (by rcases hC with rfl | rfl <;> simp)) m hm)
  obtain ⟨own1, own2⟩ := He.ba h_own
  have om1 : ∀ m ∈ (["made_as", "told_words", "with_doubt"] : List Str), PySem.W.findIn K (.ref (CSc K)) m = some (some (.ref (He.ma K (CSc K) m))) ∧ PySem.W.isFn K (.ref (He.ma K (CSc K) m)) = true := fun m hm => mthB_ok (List.all_eq_true.mp own1 m hm)
  have om2 : ∀ m ∈ (["made_as", "told_words"] : List Str), PySem.W.findIn K (.ref (CRk K)) m = some (some (.ref (He.ma K (CRk K) m))) ∧ PySem.W.isFn K (.ref (He.ma K (CRk K) m)) = true := fun m hm => mthB_ok (List.all_eq_true.mp own2 m hm)
  have clsC : ∀ C, isTl K C → Cls K C := fun C hC => by
    rcases hC with rfl | rfl
    · exact TF.os.cls
    · exact TF.or.cls
  have Mma : MtdP PP w K mg base 9 (isTl K) "made_as" ["self", "name", "sense"] (spMadeAs K) := fun C hC => by
    rcases hC with rfl | rfl
    · exact ⟨TF.os.cls, _, _, ⟨(om1 "made_as" (by decide)).1, (om1 "made_as" (by decide)).2, F_sma.kp⟩, F_sma.bindsN (fun _ _ _ _ _ _ us hl => match us, hl with | [_, _, _], _ => rfl), ok_sma F_sma TF KS3⟩
    · exact ⟨TF.or.cls, _, _, ⟨(om2 "made_as" (by decide)).1, (om2 "made_as" (by decide)).2, F_rma.kp⟩, F_rma.bindsN (fun _ _ _ _ _ _ us hl => match us, hl with | [_, _, _], _ => rfl), ok_rma F_rma TF KR2⟩
  have Mtw : MtdP PP w K mg base 6 (isTl K) "told_words" ["self"] (spTold K) := fun C hC => by
    rcases hC with rfl | rfl
    · exact ⟨TF.os.cls, _, _, ⟨(om1 "told_words" (by decide)).1, (om1 "told_words" (by decide)).2, F_stw.kp⟩, F_stw.bindsN (fun _ _ _ _ _ _ us hl => match us, hl with | [_], _ => rfl), ok_stw F_stw T TF M_str⟩
    · exact ⟨TF.or.cls, _, _, ⟨(om2 "told_words" (by decide)).1, (om2 "told_words" (by decide)).2, F_rtw.kp⟩, F_rtw.bindsN (fun _ _ _ _ _ _ us hl => match us, hl with | [_], _ => rfl), ok_rtw F_rtw TF⟩
  have TO : TlOps PP w K mg base := {
    K_Scale_3 := KS3
    K_Ranker_2 := KR2
    M_tool_neg := fun C hC => ⟨_, _, (tm C hC "__neg__" (by decide)).1, (tm C hC "__neg__" (by decide)).2, F_tneg.bindsN (fun _ _ _ _ _ _ us hl => match us, hl with | [_], _ => rfl), ok_tneg F_tneg T2 TF Mma⟩
    M_tool_eq := fun C hC => ⟨_, _, (tm C hC "__eq__" (by decide)).1, (tm C hC "__eq__" (by decide)).2, F_teq.bindsN (fun _ _ _ _ _ _ us hl => match us, hl with | [_, _], _ => rfl), ok_teq F_teq TT TF Mtw⟩
    M_tool_str := fun C hC => ⟨_, _, (tm C hC "__str__" (by decide)).1, (tm C hC "__str__" (by decide)).2, F_tstr.bindsN (fun _ _ _ _ _ _ us hl => match us, hl with | [_], _ => rfl), ok_tstr F_tstr TT TF Mtw⟩
    N_tool := fun C hC => by
      rcases hC with rfl | rfl
      · exact ⟨TF.os, of_decide_eq_true h_nes⟩
      · exact ⟨TF.or, of_decide_eq_true h_ner⟩
    M_tool_renamed := fun C hC => ⟨clsC C hC, _, _, ⟨(tm C hC "renamed" (by decide)).1, (tm C hC "renamed" (by decide)).2, F_tre.kp⟩, F_tre.bindsN (fun _ _ _ _ _ _ us hl => match us, hl with | [_, _], _ => rfl), ok_tre F_tre TF Mma⟩
    MK_tool_renamed := fun C hC => ⟨clsC C hC, _, _, _, ⟨(tm C hC "renamed" (by decide)).1, (tm C hC "renamed" (by decide)).2, F_tre.kp⟩, kbM F_tre (fun kV doc pm an cdv ct a ws hw => match ws, hw with | [_], _ => rfl), ok_tre F_tre TF Mma⟩
    M_tool_with_sense := fun C hC => ⟨clsC C hC, _, _, ⟨(tm C hC "with_sense" (by decide)).1, (tm C hC "with_sense" (by decide)).2, F_tws.kp⟩, F_tws.bindsN (fun _ _ _ _ _ _ us hl => match us, hl with | [_, _], _ => rfl), ok_tws F_tws TF Mma⟩
    MK_tool_with_sense := fun C hC => ⟨clsC C hC, _, _, _, ⟨(tm C hC "with_sense" (by decide)).1, (tm C hC "with_sense" (by decide)).2, F_tws.kp⟩, kbM F_tws (fun kV doc pm an cdv ct a ws hw => match ws, hw with | [_], _ => rfl), ok_tws F_tws TF Mma⟩
    M_tool_with_doubt := fun C hC => by
      subst hC
      exact ⟨TF.os.cls, _, _, ⟨(om1 "with_doubt" (by decide)).1, (om1 "with_doubt" (by decide)).2, F_swd.kp⟩, F_swd.bindsN (fun _ _ _ _ _ _ us hl => match us, hl with | [_, _], _ => rfl), ok_swd F_swd TF KS3⟩
    MK_tool_with_doubt := fun C hC => by
      subst hC
      exact ⟨TF.os.cls, _, _, _, ⟨(om1 "with_doubt" (by decide)).1, (om1 "with_doubt" (by decide)).2, F_swd.kp⟩, kbM F_swd (fun kV doc pm an cdv ct a ws hw => match ws, hw with | [_], _ => rfl), ok_swd F_swd TF KS3⟩ }
  have HD : Hrd2 K mg "_law_refused" "_law_deed" "_law_part" s_refd ["_law_deed", "_law_part", "_law_caught", "error"] _ f_refd := ⟨F_refd, gl "_law_refused" (by decide), F_refd.bindsN (fun _ _ _ _ _ _ us hl => match us, hl with | [_, _], _ => rfl), sc_refd, rfl, .inl (by decide +kernel)⟩
  have TB := tabB (He.cT K dnW) (List.mem_map.mpr ⟨dnW, by decide, rfl⟩)
  have C_pen : Fnc PP w K mg base 1 "_law_pen" ["_law_script"] (spPen K) := ⟨_, _, gl "_law_pen" (by decide), F_pen.kp, F_pen.bindsN (fun _ _ _ _ _ _ us hl => match us, hl with | [_], _ => rfl), ok_pen F_pen TP⟩
  have C_draw : Fnc PP w K mg base 1 "_law_draw" ["_law_pen_here", "_law_many"] spDraw := ⟨_, _, gl "_law_draw" (by decide), F_draw.kp, F_draw.bindsN (fun _ _ _ _ _ _ us hl => match us, hl with | [_, _], _ => rfl), ok_draw F_draw TP⟩
  have C_pick : Fnc PP w K mg base 2 "_law_pick" ["_law_pen_here", "_law_some"] spPick := ⟨_, _, gl "_law_pick" (by decide), F_pick.kp, F_pick.bindsN (fun _ _ _ _ _ _ us hl => match us, hl with | [_, _], _ => rfl), ok_pick F_pick TP C_draw⟩
  have C_number : Fnc PP w K mg base 3 "_law_number" ["_law_pen_here"] spNumber := ⟨_, _, gl "_law_number" (by decide), F_number.kp, F_number.bindsN (fun _ _ _ _ _ _ us hl => match us, hl with | [_], _ => rfl), ok_number F_number C_draw C_pick⟩
  have C_passed : Fnc PP w K mg base 5 "_law_passed" ["_law_pen_here", "_law_number_here"] (spPassed K) := ⟨_, _, gl "_law_passed" (by decide), F_passed.kp, F_passed.bindsN (fun _ _ _ _ _ _ us hl => match us, hl with | [_, _], _ => rfl), ok_passed F_passed T O C_draw⟩
  have C_plain : Fnc PP w K mg base 4 "_law_plain" ["_law_pen_here"] spPlain := ⟨_, _, gl "_law_plain" (by decide), F_plain.kp, F_plain.bindsN (fun _ _ _ _ _ _ us hl => match us, hl with | [_], _ => rfl), ok_plain F_plain T C_draw C_pick C_number⟩
  have C_made : Fnc PP w K mg base 9 "_law_made" ["_law_plain_here"] (spMade K) := ⟨_, _, gl "_law_made" (by decide), F_made.kp, F_made.bindsN (fun _ _ _ _ _ _ us hl => match us, hl with | [_], _ => rfl), ok_made F_made TT O TO⟩
  have C_is : Fnc PP w K mg base 6 "_law_is" ["_law_device", "_law_plain_here"] (spIs K) := ⟨_, _, gl "_law_is" (by decide), F_is.kp, F_is.bindsN (fun _ _ _ _ _ _ us hl => match us, hl with | [_, _], _ => rfl), ok_is F_is TT TF O⟩
  have C_turned : Fnc PP w K mg base 1 "_law_turned" ["_law_course"] spTurned := ⟨_, _, gl "_law_turned" (by decide), F_turned.kp, F_turned.bindsN (fun _ _ _ _ _ _ us hl => match us, hl with | [_], _ => rfl), ok_turned F_turned ⟩
  have C_chg : Fnc PP w K mg base 11 "_law_changed_right" ["_law_pen_here", "_law_plain_here"] (spChg K) := ⟨_, _, gl "_law_changed_right" (by decide), F_chg.kp, F_chg.bindsN (fun _ _ _ _ _ _ us hl => match us, hl with | [_, _], _ => rfl), ok_chg F_chg TT TF TE O TO C_draw C_pick C_number C_passed C_made C_is C_turned⟩
  have C_wrong : FncG PP w K mg base 13 "_law_wrong_right" ["_law_pen_here", "_law_plain_here"] (spWrong K) := ⟨_, _, gl "_law_wrong_right" (by decide), F_wrong.kp, F_wrong.bindsN (fun _ _ _ _ _ _ us hl => match us, hl with | [_, _], _ => rfl), ok_wrong F_wrong rfl TH TF O TO HD TB C_pick C_made C_is⟩
  have C_eqr : FncG PP w K mg base 10 "_law_equal_right" ["_law_pen_here", "_law_plain_here"] (spEqual K) := ⟨_, _, gl "_law_equal_right" (by decide), F_eqr.kp, F_eqr.bindsN (fun _ _ _ _ _ _ us hl => match us, hl with | [_, _], _ => rfl), ok_eqr F_eqr TT TF TE O TO C_draw C_pick C_plain C_made⟩
  exact ok_law F_law TT C_pen C_plain C_chg C_wrong C_eqr
end LW
open PySem PySem.W PySem.Calls PyProof.Rows
theorem PySem.Challenge.cw_ownzeros_k12_tools_turned_and_renamed_holds : PySem.Challenge.rw_ownzeros_k12_tools_turned_and_renamed.Holds := by
  w_on; o_law
  refine HandSHeadRun.head_any (r := OpenLaw.row PySem.Challenge.rw_ownzeros_k12_tools_turned_and_renamed) (q := view (OpenLaw.row PySem.Challenge.rw_ownzeros_k12_tools_turned_and_renamed).prog [54]) (H := LW.hk) (ob := LW.ob) (M := 40000) (loose := LW.names) (d := HandSHeadRun.topDef (OpenLaw.row PySem.Challenge.rw_ownzeros_k12_tools_turned_and_renamed).prog 54) (kwd := []) LW.ob_eq
    (by kernel_rfl) (fun s => by kernel_rfl) LW.run (by kernel_rfl) (by kernel_rfl) (by kernel_rfl) (by rfl) (by first | assumption | decide +kernel) (by decide +kernel) ⟨rfl, rfl, rfl, rfl, rfl, by decide +kernel⟩ ?hw ?hc
  case hw => w_witness2
  case hc =>
    refine OZ.walkG (l := PySem.Challenge.rw_ownzeros_k12_tools_turned_and_renamed) (n := 63) (k := 14) (x := "_law_script") rfl (by decide) (by kernel_rfl) ⟨rfl, by decide, by decide⟩ ?F
    intro w mg fa h Y G hmg0
    obtain ⟨K, KX, c⟩ := Y
    have hmg : mg ("law" : PySem.Str) = some (.ref fa) := by
      have e : (HandSHeadRun.topDef (OpenLaw.row PySem.Challenge.rw_ownzeros_k12_tools_turned_and_renamed).prog 54).name = ("law" : PySem.Str) := by kernel_rfl
      rw [← e]
      exact hmg0
    obtain ⟨fd, hb, hF⟩ := LW.asm (w := w) KX G hmg c
    exact ⟨K, KX, fd, LW.tfs.map (He.cT K), LW.spLaw K, OZ.map_all c.s.a.empty, OZ.map_all c.s.a.out, OZ.map_all fun q hq => PySem.W.codeHd_of_K KX (c.s.a.hd q hq), hb, fun H a ns hl tb hS => ⟨a, ns, rfl, hS, hl, LW.tabs_of tb, fun _ => rfl⟩, fun base h1 h2 h3 => hF base h1 h2 h3⟩
