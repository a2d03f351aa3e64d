import PyProof.Rows.All
import Wide.All
import OpenK.AllK
import Wide.FinOn
import HandS.ForMost
import HandS.ForExc
import HandS.ExcInit
import HandS.ExcIs
import HandS.ExcField
import HandS.ExcValue
import HandS.IsInst
import HandS.Wide
import HandS.Defaults
import HandS.Flow
import HandS.Evl
import HandS.Steps
import HandS.Lambda
import HandS.EndTab
import HandS.HeadWalk
import HandS.HeadEnd
import HandS.HeadHook4
import HandS.Head0
import HandS.Head1
import HandS.Head2
import KE.KExcIs
import HandS.Walk
import HandS.CallSlots
import PySem.Challenge.RW_ownzeros_k01_errors_kept
set_option Elab.async false
set_option linter.all false
set_option maxRecDepth 100000
namespace OZ
open PySem PySem.Spec PyProof.Rows L2
def Fnc (P : Program) (w : World) (K : PySem.W.Frag) (mg : Str → Option Value) (base : Heap) (k : Nat) (x : Str) (ps : List Str) (sp : Sp) : Prop :=
  ∃ (f : Addr) (fd : FuncData), mg x = some (.ref f) ∧ PySem.W.keepIn K (.ref f) = true ∧ Binds K fd ps [] ∧ FnOk P w K mg base (L2.CX P w) k f fd ps sp
section
variable {X : Cx} {k : Nat} {x : Str} {ps : List Str} {sp : Sp} {e : Expr} {es : List Expr} {t : TA} {p pos : Pos}
theorem oc (F : Fnc X.prog X.w X.K X.mg X.base k x ps sp) (hr : Room k X.A) (ha : PA X (e :: es) t) (hg : Gl X x := by rfl) (hdb : (x == ("__debug__" : Str)) = false := by decide)
    (he : starEach (e :: es) X.env = (false, eval e X.env) :: starEach es X.env := by rfl) (hpl : (backTo pos (starEach es X.env)).any (·.1) = false := by rfl) :
    PE X (.Call (.Name x p) (e :: es) [] pos) (tCall sp [] E0 t) := by
  obtain ⟨f, fd, hm, hk, hb, G⟩ := F
  exact pe_call G hr hg hm hk hb .nil passL ha hdb he hpl
theorem ocX {W : WX} (F : Fnc X.prog X.w X.K X.mg X.base k x ps sp) (hr : Room k X.A) (tk : Takes X W) (ha : PA X (e :: es) t) (hg : Gl X x := by rfl) (hdb : (x == ("__debug__" : Str)) = false := by decide)
    (he : starEach (e :: es) X.env = (false, eval e X.env) :: starEach es X.env := by rfl) (hpl : (backTo pos (starEach es X.env)).any (·.1) = false := by rfl) :
    PE X (.Call (.Name x p) (e :: es) [] pos) (tCallS sp (WE W) t) := by
  obtain ⟨f, fd, hm, hk, hb, G⟩ := F
  exact pe_callS G hr hg hm hk hb (fun σ => passAt tk σ) ha hdb he hpl
end
def Kp (p : Addr) (H H' : Hp) : Prop := ∀ a o, a ≠ p → H a = some o → H' a = some o
theorem Kp.refl (p : Addr) (H : Hp) : Kp p H H := fun _ _ _ h => h
theorem Kp.trans {p : Addr} {H H1 H2 : Hp} (a : Kp p H H1) (b : Kp p H1 H2) : Kp p H H2 := fun c o n h => b c o n (a c o n h)
theorem Kp.new {p q : Addr} {H : Hp} {o : HO} (h : H q = none) : Kp p H (upd H q o) := fun a u _ e => by
  rw [upd_ne (ne_of_none e h)]; exact e
theorem Kp.set {p : Addr} {H : Hp} {o : HO} : Kp p H (upd H p o) := fun a u n e => by rw [upd_ne n]; exact e
theorem Kp.of {p : Addr} {H H' : Hp} (h : Same H H') : Kp p H H' := fun a o _ e => h a o e
def PenAt (H : Hp) (p c : Addr) (n : Nat) : Prop := ∃ (ns : List Int) (b l : Int),
  H p = some (.lst [.ref c, .int b, .int l]) ∧ H c = some (.lst (ns.map V.int)) ∧ 0 ≤ b ∧ b ≤ n ∧ 0 ≤ l
theorem PenAt.mono {H : Hp} {p c : Addr} {n m : Nat} (P : PenAt H p c n) (h : n ≤ m) : PenAt H p c m := by
  obtain ⟨ns, b, l, h1, h2, h3, h4, h5⟩ := P
  exact ⟨ns, b, l, h1, h2, h3, by omega, h5⟩
theorem PenAt.same {H H' : Hp} {p c : Addr} {n : Nat} (P : PenAt H p c n) (s : Same H H') : PenAt H' p c n := by
  obtain ⟨ns, b, l, h1, h2, h3, h4, h5⟩ := P
  exact ⟨ns, b, l, s _ _ h1, s _ _ h2, h3, h4, h5⟩
theorem PenAt.new {H : Hp} {p c q : Addr} {n : Nat} {o : HO} (P : PenAt H p c n) (h : H q = none) : PenAt (upd H q o) p c n :=
  P.same fun a u e => by rw [upd_ne (ne_of_none e h)]; exact e
theorem PenAt.oth {H : Hp} {p c q : Addr} {n : Nat} {o : HO} (P : PenAt H p c n) (h1 : q ≠ p) (h2 : q ≠ c) : PenAt (upd H q o) p c n := by
  obtain ⟨ns, b, l, g1, g2, g3⟩ := P
  exact ⟨ns, b, l, by rw [upd_ne (Ne.symm h1)]; exact g1, by rw [upd_ne (Ne.symm h2)]; exact g2, g3⟩
theorem PenAt.p_ne {H : Hp} {p c q : Addr} {n : Nat} (P : PenAt H p c n) (h : H q = none) : q ≠ p := by
  obtain ⟨ns, b, l, g1, g2, g3⟩ := P
  exact Ne.symm (ne_of_none g1 h)
theorem PenAt.c_ne {H : Hp} {p c q : Addr} {n : Nat} (P : PenAt H p c n) (h : H q = none) : q ≠ c := by
  obtain ⟨ns, b, l, g1, g2, g3⟩ := P
  exact Ne.symm (ne_of_none g2 h)
theorem lst_ne {c : Addr} {b l : Int} (ns : List Int) : (HO.lst [.ref c, .int b, .int l]) ≠ HO.lst (ns.map V.int) := fun z => by
  injection z with z
  cases ns with
  | nil => cases z
  | cons n r => injection z with z _; cases z
theorem ix_lt {xs : List V} {i : Int} {v : V} {j : Nat} (h : xs[j]? = some v) (e : i = (j : Int)) : atI xs i = some v := by rw [e]; exact atI_nat h
def spDraw : Sp := fun vs H Q _ => ∃ (p c : Addr) (n : Nat) (m : Int), vs = [.ref p, .int m] ∧ PenAt H p c n ∧ n ≤ 1000000 ∧ 0 < m ∧ m.natAbs < 2 ^ 4000 ∧
  ∀ (r : Int) (H' : Hp), 0 ≤ r → r < m → PenAt H' p c (n + 1) → Kp p H H' → Q (.int r) H'
theorem fmod_pos {a m : Int} (h : 0 < m) : 0 ≤ a.fmod m ∧ a.fmod m < m := by
  rw [Int.fmod_eq_emod_of_nonneg _ (Int.le_of_lt h)]
  exact ⟨Int.emod_nonneg _ (by omega), Int.emod_lt_of_pos _ h⟩
theorem mul_bd {x y A B : Int} (hx0 : 0 ≤ x) (hx : x < A) (hy0 : 0 ≤ y) (hy : y < B) : 0 ≤ x * y ∧ x * y < A * B := by
  refine ⟨Int.mul_nonneg hx0 hy0, ?_⟩
  have h1 : x * y ≤ x * B := Int.mul_le_mul_of_nonneg_left (Int.le_of_lt hy) hx0
  have h2 : x * B < A * B := Int.mul_lt_mul_of_pos_right hx (by omega)
  omega
theorem ediv_nn {a m : Int} (h : 0 < m) (ha : 0 ≤ a) : 0 ≤ a / m := Int.ediv_nonneg ha (Int.le_of_lt h)
theorem ints_dp {K : PySem.W.Frag} {H : Hp} : ∀ ns : List Int, DpAll K H (ns.map V.int) (ns.map PyData.int)
  | [] => .nil
  | n :: r => .cons (.int n) (ints_dp r)
def rInt : List V → Hp → VK → Prop := fun xs H Q => (∃ i, xs = [.int i] ∧ Q (.int i) H) ∨ ∃ k, xs = [.bl k] ∧ Q (.int (if k then 1 else 0)) H
theorem c_int {X : Cx} : CallR X (.type "int") rInt := call_int1
theorem y_int {a : Int} {H : Hp} {Q : VK} (h : Q (.int a) H) : rInt [.int a] H Q := .inl ⟨a, rfl, h⟩
theorem y_intB {b : Bool} {H : Hp} {Q : VK} (h : Q (.int (if b then 1 else 0)) H) : rInt [.bl b] H Q := .inr ⟨b, rfl, h⟩
def rAbs : List V → Hp → VK → Prop := fun xs H Q => ∃ i, xs = [.int i] ∧ Q (.int (if i < 0 then -i else i)) H
theorem c_abs {X : Cx} : CallR X (.builtin "abs") rAbs := call_abs
theorem y_abs {a : Int} {H : Hp} {Q : VK} (h : Q (.int (if a < 0 then -a else a)) H) : rAbs [.int a] H Q := ⟨a, rfl, h⟩
def rLenQ (K : PySem.W.Frag) : List V → Hp → VK → Prop := fun xs H Q => ∃ p ys, xs = [.ref p] ∧ (SqL K H p ys ∨ SqT K H p ys) ∧ Q (.int ys.length) H
theorem c_len {X : Cx} : CallR X (.builtin "len") (rLenQ X.K) := call_len_seq
theorem y_lenL {K : PySem.W.Frag} {p : Addr} {xs : List V} {H : Hp} {Q : VK} (hp : H p = some (.lst xs)) (h : Q (.int xs.length) H) : rLenQ K [.ref p] H Q := ⟨p, xs, rfl, .inl (SqL.of hp), h⟩
theorem y_lenT {K : PySem.W.Frag} {p : Addr} {xs : List V} {H : Hp} {Q : VK} (hp : H p = some (.tup xs)) (h : Q (.int xs.length) H) : rLenQ K [.ref p] H Q := ⟨p, xs, rfl, .inr (SqT.of hp), h⟩
def rLenZ : List V → Hp → VK → Prop := fun xs H Q => ∃ z : Str, xs = [.str z] ∧ z.length ≤ sizeLine ∧ Q (.int z.length) H
theorem c_lenS {X : Cx} : CallR X (.builtin "len") rLenZ := call_len_str
theorem y_lenS {z : Str} {H : Hp} {Q : VK} (hz : z.length ≤ sizeLine) (h : Q (.int z.length) H) : rLenZ [.str z] H Q := ⟨z, rfl, hz, h⟩
def rListOf (K : PySem.W.Frag) : List V → Hp → VK → Prop := fun xs H Q => ∃ p ys, xs = [.ref p] ∧ (SqL K H p ys ∨ SqT K H p ys) ∧ ∀ l, H l = none → Q (.ref l) (upd H l (.lst ys))
theorem c_list {X : Cx} : CallR X (.type "list") (rListOf X.K) := call_list_of
def rIsNo : R2 := fun x y H Q => y = .non ∧ Q (.bl (decide (x = .non))) H
theorem o_isN {X : Cx} : OpR X (compareOp .Is) rIsNo := op_isN
def rNotNo : R2 := fun x y H Q => y = .non ∧ Q (.bl (!decide (x = .non))) H
theorem o_notN {X : Cx} : OpR X (compareOp .IsNot) rNotNo := op_notN
theorem y_isN {x : V} {H : Hp} {Q : VK} (h : Q (.bl (decide (x = .non))) H) : rIsNo x .non H Q := ⟨rfl, h⟩
theorem y_notN {x : V} {H : Hp} {Q : VK} (h : Q (.bl (!decide (x = .non))) H) : rNotNo x .non H Q := ⟨rfl, h⟩
def rAddS : R2 := fun x y H Q => ∃ i j : Str, x = .str i ∧ y = .str j ∧ i.length + j.length ≤ sizeLine ∧ Q (.str (i ++ j)) H
theorem o_addS {X : Cx} : OpR X (binaryOp .Add) rAddS := op_add_str
theorem y_addS {a b : Str} {H : Hp} {Q : VK} (hl : a.length + b.length ≤ sizeLine) (h : Q (.str (a ++ b)) H) : rAddS (.str a) (.str b) H Q := ⟨a, b, rfl, rfl, hl, h⟩
def rInC : R2 := fun x y H Q => ∃ (c : Nat) (z : Str), x = .str ⟨#[c]⟩ ∧ y = .str z ∧ Q (.bl (decide (c ∈ z.cps.toList))) H
theorem o_inC {X : Cx} : OpR X (compareOp .In) rInC := op_in_sign
def rNotInC : R2 := fun x y H Q => ∃ (c : Nat) (z : Str), x = .str ⟨#[c]⟩ ∧ y = .str z ∧ Q (.bl (!decide (c ∈ z.cps.toList))) H
theorem o_notInC {X : Cx} : OpR X (compareOp .NotIn) rNotInC := op_notIn_sign
theorem y_inC {c : Nat} {z : Str} {H : Hp} {Q : VK} (h : Q (.bl (decide (c ∈ z.cps.toList))) H) : rInC (.str ⟨#[c]⟩) (.str z) H Q := ⟨c, z, rfl, rfl, h⟩
theorem y_notInC {c : Nat} {z : Str} {H : Hp} {Q : VK} (h : Q (.bl (!decide (c ∈ z.cps.toList))) H) : rNotInC (.str ⟨#[c]⟩) (.str z) H Q := ⟨c, z, rfl, rfl, h⟩
theorem y_slS {z : Str} {lo hi : Option Int} {H : Hp} {Q : VK} (hl : z.length ≤ sizeLine) (h : Q (.str (cutS z lo hi)) H) : rSlS (.str z) lo hi H Q := ⟨z, rfl, hl, h⟩
theorem y_sl {r : V → Option Int → Option Int → Hp → VK → Prop} {te : TE} {tl th : TO} {σ : L2.St} {H : Hp} {Q : VK} (h : te σ H fun x H1 => tl σ H1 fun l H2 => th σ H2 fun u H3 => r x l u H3 Q) : tSl r te tl th σ H Q := h
theorem y_part {te : TE} {σ : L2.St} {H : Hp} {Q : Option Int → Hp → Prop} (h : te σ H fun x H1 => ∃ i, x = .int i ∧ Q (some i) H1) : tPart te σ H Q := h
theorem y_nopart {σ : L2.St} {H : Hp} {Q : Option Int → Hp → Prop} (h : Q none H) : tNoPart σ H Q := h
theorem y_exI {a : Int} {P : Int → Prop} (h : P a) : ∃ i, V.int a = .int i ∧ P i := ⟨a, rfl, h⟩
theorem og_int {X : Cx} {x : Str} {i : Int} {pos : Pos} (h : ∃ t, X.mg x = some (.int i t)) (hg : Gl X x := by rfl) (hd : (x == ("__debug__" : Str)) = false := by decide) : PE X (.Name x pos) (tC (.int i)) := by
  obtain ⟨t, h⟩ := h
  exact pe_glob hg h ⟨t, rfl⟩ hd
theorem og_str {X : Cx} {x : Str} {z : Str} {pos : Pos} (h : ∃ t, X.mg x = some (.str z t)) (hg : Gl X x := by rfl) (hd : (x == ("__debug__" : Str)) = false := by decide) : PE X (.Name x pos) (tC (.str z)) := by
  obtain ⟨t, h⟩ := h
  exact pe_glob hg h ⟨t, rfl⟩ hd
theorem og_ref {X : Cx} {x : Str} {a : Addr} {pos : Pos} (h : X.mg x = some (.ref a)) (hg : Gl X x := by rfl) (hd : (x == ("__debug__" : Str)) = false := by decide) : PE X (.Name x pos) (tC (.ref a)) := pe_glob hg h rfl hd
section
variable {σ : L2.St} {H : Hp} {Q : VK} {D : Ends} {te ta tb : TE} {tt tu : TT} {t u : TS} {tA tr : TA} {i : Nat} {v x y : V} {K : PySem.W.Frag}
theorem y_var (h : ∃ v, σ[i]? = some (some v) ∧ Q v H) : tVar i σ H Q := h
theorem y_c (h : Q v H) : tC v σ H Q := h
theorem y_op {r : R2} (h : ta σ H fun x H1 => tb σ H1 fun y H2 => r x y H2 Q) : tOp r ta tb σ H Q := h
theorem y_un {r : V → Hp → VK → Prop} (h : ta σ H fun x H1 => r x H1 Q) : tUn r ta σ H Q := h
theorem y_cb {r : List V → Hp → VK → Prop} (h : tA σ H fun vs H1 => r vs H1 Q) : tCB r tA σ H Q := h
theorem y_nil {Q : List V → Hp → Prop} (h : Q [] H) : tNil σ H Q := h
theorem y_cons {Q : List V → Hp → Prop} (h : ta σ H fun x H1 => tr σ H1 fun xs H2 => Q (x :: xs) H2) : tCons ta tr σ H Q := h
theorem y_test {Q : Bool → Hp → Prop} (h : te σ H fun x H' => ∃ k, x = .bl k ∧ Q k H') : tTest te σ H Q := h
theorem y_B {Q : Bool → Hp → Prop} (h : te σ H fun x H' => ∃ k, x = .bl k ∧ Q k H') : tB te σ H Q := h
theorem y_ex {b : Bool} {P : Bool → Prop} (h : P b) : ∃ k, V.bl b = .bl k ∧ P k := ⟨b, rfl, h⟩
theorem y_not {Q : Bool → Hp → Prop} (h : tt σ H fun c H1 => Q (!c) H1) : tNot tt σ H Q := h
theorem y_and {Q : Bool → Hp → Prop} (h : tt σ H fun c H1 => if c = true then tu σ H1 Q else Q false H1) : tAnd tt tu σ H Q := h
theorem y_or {Q : Bool → Hp → Prop} (h : tt σ H fun c H1 => if c = true then Q true H1 else tu σ H1 Q) : tOr tt tu σ H Q := h
theorem y_notV (h : ta σ H fun x H1 => ∃ c, x = .bl c ∧ Q (.bl (!c)) H1) : tNotV ta σ H Q := h
theorem y_andV (h : ta σ H fun x H1 => ∃ c, x = .bl c ∧ if c = true then tb σ H1 Q else Q (.bl false) H1) : tAndV ta tb σ H Q := h
theorem y_orV (h : ta σ H fun x H1 => ∃ c, x = .bl c ∧ if c = true then Q (.bl true) H1 else tb σ H1 Q) : tOrV ta tb σ H Q := h
theorem y_ifE (h : tt σ H fun c H1 => if c = true then ta σ H1 Q else tb σ H1 Q) : tIf tt ta tb σ H Q := h
theorem y_seq (h : t { D with nx := u D } σ H) : tSeq t u D σ H := h
theorem y_asg {g : TG} (h : te σ H fun x H1 => g x σ H1 D.nx) : tAsg te g D σ H := h
theorem y_gn {R : L2.St → Hp → Prop} (h : R (σ.set i (some v)) H) : gName i v σ H R := h
theorem y_gsub {to ti : TE} {s : TSet} {R : L2.St → Hp → Prop} (h : to σ H fun o H1 => ti σ H1 fun i H2 => s o i v H2 fun H3 => R σ H3) : gSub to ti s v σ H R := h
theorem y_ret (h : te σ H D.rt) : tRet te D σ H := h
theorem y_drop (h : te σ H fun _ H1 => D.nx σ H1) : tDrop te D σ H := h
theorem y_next (h : D.nx σ H) : tNext D σ H := h
theorem y_ifS (h : tt σ H fun b H1 => if b = true then t D σ H1 else u D σ H1) : tIfS tt t u D σ H := h
theorem y_par {i j : Nat} (h : tA σ H fun vs H1 => ∃ v w, vs = [v, w] ∧ D.nx ((σ.set i (some v)).set j (some w)) H1) : tPar i j tA D σ H := h
theorem y_ex2 {P : V → V → Prop} (h : P x y) : ∃ v w, [x, y] = [v, w] ∧ P v w := ⟨x, y, rfl, h⟩
theorem y_call {sp : Sp} {dvs : List V} {E : XK} (h : tA σ H fun vs H1 => sp (vs ++ dvs) H1 Q E) : tCall sp dvs E tA σ H Q := h
theorem y_callS {sp : Sp} {E : L2.St → XK} (h : tA σ H fun vs H1 => sp vs H1 Q (E σ)) : tCallS sp E tA σ H Q := h
theorem y_I0 {g : Int → Int → V} {a b : Int} (h : Q (g a b) H) : rI0 g (.int a) (.int b) H Q := ⟨a, b, rfl, rfl, h⟩
theorem y_I {C : Int → Int → Prop} {g : Int → Int → V} {a b : Int} (hc : C a b) (h : Q (g a b) H) : rI C g (.int a) (.int b) H Q := ⟨a, b, rfl, rfl, hc, h⟩
theorem y_U {g : Int → V} {a : Int} (h : Q (g a) H) : rU g (.int a) H Q := ⟨a, rfl, h⟩
theorem y_eq (hs : scal x y = true) (h : Q (.bl (decide (x = y))) H) : rEq x y H Q := ⟨hs, h⟩
theorem y_ne (hs : scal x y = true) (h : Q (.bl (!decide (x = y))) H) : rNe x y H Q := ⟨hs, h⟩
theorem y_ixL {p : Addr} {xs : List V} {a : Int} (hp : H p = some (.lst xs)) (ha : atI xs a = some v) (h : Q v H) : rIxL K (.ref p) (.int a) H Q := ⟨p, xs, a, v, rfl, rfl, SqL.of hp, ha, h⟩
theorem y_ixT {p : Addr} {xs : List V} {a : Int} (hp : H p = some (.tup xs)) (ha : atI xs a = some v) (h : Q v H) : rIxT K (.ref p) (.int a) H Q := ⟨p, xs, a, v, rfl, rfl, SqT.of hp, ha, h⟩
theorem y_setL {p : Addr} {xs : List V} {a : Int} {j : Nat} {R : Hp → Prop} (hp : H p = some (.lst xs)) (ha : ixN xs.length a = some j) (h : R (upd H p (.lst (xs.set j v)))) : rSetL (.ref p) (.int a) v H R := ⟨p, xs, a, j, rfl, rfl, hp, ha, h⟩
theorem y_chain {r r' : R2} {tc : TE} (h : ta σ H fun x H1 => tb σ H1 fun y H2 => r x y H2 fun z H3 => ∃ k, z = .bl k ∧ (if k = true then tc σ H3 fun w' H4 => r' y w' H4 Q else Q (.bl false) H3)) : tChain r r' ta tb tc σ H Q := h
theorem y_gtup {n : Nat} {t : TGs} {a : Addr} {xs : List V} {R : L2.St → Hp → Prop} (ha : H a = some (.tup xs)) (hl : xs.length = n) (h : t xs σ H R) : gTup K n t (.ref a) σ H R := ⟨a, xs, rfl, SqT.of ha, hl, h⟩
theorem y_gcons {t : TG} {u : TGs} {r : List V} {R : L2.St → Hp → Prop} (h : t v σ H fun σ' H' => u r σ' H' R) : gCons t u (v :: r) σ H R := ⟨v, r, rfl, h⟩
theorem y_gnil {R : L2.St → Hp → Prop} (h : R σ H) : gNil [] σ H R := ⟨rfl, h⟩
theorem y_disp {xs : List V} {R : Addr → Prop} (hl : xs.length ≤ 1000) (h : ∀ p, H p = none → R p) : xs.length ≤ sizeLine ∧ ∀ p, H p = none → R p := ⟨Nat.le_trans hl (by decide), h⟩
theorem y_yes {Q : Bool → Hp → Prop} (h : Q true H) : tYes σ H Q := h
theorem y_lst (h : tA σ H fun xs H1 => xs.length ≤ sizeLine ∧ ∀ p, H1 p = none → Q (.ref p) (upd H1 p (.lst xs))) : tLst tA σ H Q := h
theorem y_tup (h : tA σ H fun xs H1 => xs.length ≤ sizeLine ∧ ∀ p, H1 p = none → Q (.ref p) (upd H1 p (.tup xs))) : tTup tA σ H Q := h
theorem y_iteT {A B : Prop} (h : A) : if true = true then A else B := iteT h
theorem y_iteF {A B : Prop} (h : B) : if false = true then A else B := iteF h
theorem y_ite {c A B : Prop} [Decidable c] (h1 : c → A) (h2 : ¬ c → B) : if decide c = true then A else B := by
  by_cases h : c
  · rw [decide_eq_true h]; exact iteT (h1 h)
  · rw [decide_eq_false h]; exact iteF (h2 h)
theorem y_iteN {c A B : Prop} [Decidable c] (h1 : ¬ c → A) (h2 : c → B) : if (!decide c) = true then A else B := by
  by_cases h : c
  · rw [decide_eq_true h]; exact iteF (h2 h)
  · rw [decide_eq_false h]; exact iteT (h1 h)
theorem y_iteY {c A B : Prop} [Decidable c] (hc : c) (h : A) : if decide c = true then A else B := by rw [decide_eq_true hc]; exact iteT h
theorem y_iteX {c A B : Prop} [Decidable c] (hc : ¬ c) (h : B) : if decide c = true then A else B := by rw [decide_eq_false hc]; exact iteF h
theorem y_iteNY {c A B : Prop} [Decidable c] (hc : c) (h : B) : if (!decide c) = true then A else B := by rw [decide_eq_true hc]; exact iteF h
theorem y_iteNX {c A B : Prop} [Decidable c] (hc : ¬ c) (h : A) : if (!decide c) = true then A else B := by rw [decide_eq_false hc]; exact iteT h
theorem y_iteNT {A B : Prop} (h : B) : if (!true) = true then A else B := iteF h
theorem y_iteNF {A B : Prop} (h : A) : if (!false) = true then A else B := iteT h
theorem nat4000 {m : Int} (h : m.natAbs ≤ 10 ^ 60) : m.natAbs < 2 ^ 4000 := Nat.lt_of_le_of_lt h (by decide)
theorem y_iteB {b : Bool} {A B : Prop} (h1 : b = true → A) (h2 : b = false → B) : if b = true then A else B := by
  cases b with
  | true => exact iteT (h1 rfl)
  | false => exact iteF (h2 rfl)
theorem upd_old {p q : Addr} {o w : HO} (hn : H p = none) (h : H q = some o) : upd H p w q = some o := by
  rw [upd_ne (ne_of_none h hn)]; exact h
theorem upd_oth {p q : Addr} {o w : HO} (hn : q ≠ p) (h : H q = some o) : upd H p w q = some o := by
  rw [upd_ne hn]; exact h
theorem free_upd {p q : Addr} {w : HO} (h : upd H p w q = none) : H q = none := by
  unfold upd at h
  split at h
  · cases h
  · exact h
end
end OZ
set_option maxRecDepth 100000
set_option maxHeartbeats 1000000
namespace OZ
open PySem PySem.Spec PyProof.Rows L2
structure FnG (P : Program) (w : World) (K : PySem.W.Frag) (mg : Str → Option Value) (base : Heap) (k : Nat) (f : Addr) (fd : FuncData) (ps : List Str) (sp : Sp) : Prop where
  len : ∀ vs H Q E, sp vs H Q E → vs.length = ps.length
  run : ∀ (A : Around) (outer : List Env) (s : Shared) (H : Hp) (args : Args) (us : List Value) (vs : List V) (Q : VK) (E : XK), Room k A → A.guards = some [] → Env0 P w K mg base A outer s H →
    BindsTo s fd args (ps.zip us) → Vals vs us → sp vs H Q E → codeAny (model P w) A (.call (.ref f) args) (CR (L2.CX P w) outer P w H s Q E) s
theorem FnG.of {P : Program} {w : World} {K : PySem.W.Frag} {mg : Str → Option Value} {base : Heap} {k : Nat} {f : Addr} {fd : FuncData} {ps : List Str} {sp : Sp} (F : FnOk P w K mg base (L2.CX P w) k f fd ps sp) : FnG P w K mg base k f fd ps sp :=
  ⟨F.len, fun A outer s H args us vs Q E hr _ => F.run A outer s H args us vs Q E hr⟩
theorem guards_deeper {A : Around} {env : Env} (h : A.guards = some []) : (A.deeper env).guards = some [] := by
  first | exact h | (simpa [Around.deeper] using h)
theorem fnG_of {P : Program} {w : World} {K : PySem.W.Frag} {mg : Str → Option Value} {base : Heap} {k : Nat} {f : Addr} {x qual : Str} {params : Arguments} {body : List Stmt} {scope : Scope} {fd : FuncData} {N ps : List Str} {sp : Sp}
    (F : FunD K x qual params body scope [] [] f fd) (S : FnScope N ps scope) (len : ∀ vs H Q E, sp vs H Q E → vs.length = ps.length)
    (walk : ∀ (cdv : Value) (A : Around) (outer : List Env) (s : Shared) (H : Hp) (vs : List V) (Q : VK) (E : XK), Room k (A.deeper (envOfC qual scope s.heap.objs.size f cdv)) → (A.deeper (envOfC qual scope s.heap.objs.size f cdv)).guards = some [] → sp vs H Q E →
      ∃ t, PSs (cxOf (L2.CX P w) P w K mg base N qual scope f cdv A outer s H E) body t ∧ t { nx := fun _ H' => Q .non H', rt := Q } (start N vs) H) : FnG P w K mg base (k + 1) f fd ps sp := by
  obtain ⟨oc, od, dV, kV, doc, pm, an, cdv, ct, osl, rfl, lk, hcd, _, _⟩ := F.ex
  refine ⟨len, ?_⟩
  intro A outer s H args us vs Q E room gd env bnd rel want
  have kin : K.In s.heap := env.mod.kin.keeps (fun b o q => (env.bs b o q).1)
  have nolim : s.heap.NoLimit := env.mod.nolimit.keeps (fun b o q => (env.bs b o q).1)
  have kinds : ∀ y ∈ ps.zip us, scope.names.lookup y.1 = some .local ∨ (scope.names.lookup y.1 = some .cell ∧ ((cellsFrom (s.heap.objs.size + 1) scope.names []).lookup y.1).isSome = true) := by
    rintro ⟨y, v⟩ hy
    cases S.par y (List.of_mem_zip hy).1 with
    | inl q => exact Or.inl q
    | inr q => exact Or.inr ⟨q, PySem.W.cellsFrom_some _ _ _ (Or.inl q)⟩
  apply codeAny_call_function room.depth (kin _ _ lk) rfl S.co S.gen rfl (PySem.W.codeRec_of kin hcd) (bnd _ _ _ _ _)
  apply wpAny_newFunctionEnv_cells S.kind kinds
  rintro e2 rfl s1 entered
  refine ⟨nolim.keeps entered.toInCall.keep, codeAny_func ?_⟩
  obtain ⟨t, ht, hq⟩ := walk cdv A outer s H vs Q E (room.deeper _) (guards_deeper gd) want
  have I := inv_start (CX := L2.CX P w) (E := E) S room.hd env (len _ _ _ _ want) rel entered
  apply wpAny_mono (ht.run [] s1 (start N vs) H _ I hq) ?_ (fun e s' z => z)
  intro fl s' z
  cases fl with
  | ret u => obtain ⟨v, σ', H', J, rv, q⟩ := z; exact ⟨v, H', J.os, J.bare, J.base, J.hok, rv, q⟩
  | next => obtain ⟨σ', H', J, q⟩ := z; exact ⟨V.non, H', J.os, J.bare, J.base, J.hok, rfl, q⟩
  | brk => obtain ⟨_, _, _, q⟩ := z; exact q.elim
  | cont => obtain ⟨_, _, _, q⟩ := z; exact q.elim
def FncG (P : Program) (w : World) (K : PySem.W.Frag) (mg : Str → Option Value) (base : Heap) (k : Nat) (x : Str) (ps : List Str) (sp : Sp) : Prop :=
  ∃ (f : Addr) (fd : FuncData), mg x = some (.ref f) ∧ PySem.W.keepIn K (.ref f) = true ∧ Binds K fd ps [] ∧ FnG P w K mg base k f fd ps sp
section
variable {X : Cx} {k : Nat} {x : Str} {ps : List Str} {sp : Sp} {e : Expr} {es : List Expr} {t : TA} {p pos : Pos}
theorem ocG (F : FncG X.prog X.w X.K X.mg X.base k x ps sp) (hr : Room k X.A) (gd : X.A.guards = some []) (ha : PA X (e :: es) t) (hg : Gl X x := by rfl) (hdb : (x == ("__debug__" : Str)) = false := by decide)
    (he : starEach (e :: es) X.env = (false, eval e X.env) :: starEach es X.env := by rfl) (hpl : (backTo pos (starEach es X.env)).any (·.1) = false := by rfl) :
    PE X (.Call (.Name x p) (e :: es) [] pos) (tCall sp [] E0 t) := by
  obtain ⟨f, fd, hm, hk, hb, G⟩ := F
  constructor
  intro pins s σ H Q I h
  apply wpAny_Call_Name_kw (ld_glob I hg hm ?_ hdb)
  apply PySem.W.callWith_K (h₀ := X.base) I.ok.mod.kin hk ?_ he hpl
  apply thn (ha.run pos pins s σ H _ I h)
  rintro us s1 ⟨vs, H1, I1, r, q⟩
  refine ⟨I1.kIn, ?_⟩
  have q2 : sp vs H1 Q E0 := by simpa using q
  have hl : us.length = ps.length := by rw [← r.length]; exact G.len _ _ _ _ q2
  have b := hb s1 us I1.kIn (by simpa using hl)
  rw [List.append_nil] at b
  apply wpAny_call
  apply codeAny_mono (G.run X.A X.stack s1 H1 ⟨us, []⟩ us vs Q E0 hr gd I1.env0 b r q2)
  intro res s' z
  cases res with
  | error e => exact passL pins σ H1 s1 e s' I1 z
  | ok fl =>
    cases fl with
    | ret u => exact I1.after z
    | next => exact z.elim
    | brk => exact z.elim
    | cont => exact z.elim
end
end OZ
set_option maxRecDepth 100000
set_option maxHeartbeats 1000000
namespace OZ
open PySem PySem.Spec PyProof.Rows L2
def kD : Key → PyData
  | .inl i => .int i
  | .inr x => .str x
mutual
inductive Dq (p : Addr) (H : Hp) : V → PyData → Prop
  | non : Dq p H .non .none
  | bl (b : Bool) : Dq p H (.bl b) (.bool b)
  | int (i : Int) : Dq p H (.int i) (.int i)
  | str (x : Str) : Dq p H (.str x) (.str x)
  | lst {a : Addr} {xs : List V} {ds : List PyData} : a ≠ p → H a = some (.lst xs) → DqAll p H xs ds → Dq p H (.ref a) (.list ds)
  | tup {a : Addr} {xs : List V} {ds : List PyData} : a ≠ p → H a = some (.tup xs) → DqAll p H xs ds → Dq p H (.ref a) (.tuple ds)
  | dic {a : Addr} {kvs : List (Key × V)} {ds : List (PyData × PyData)} : a ≠ p → H a = some (.dK kvs) → DqKv p H kvs ds → Dq p H (.ref a) (.dict ds)
inductive DqAll (p : Addr) (H : Hp) : List V → List PyData → Prop
  | nil : DqAll p H [] []
  | cons {v : V} {vs : List V} {d : PyData} {ds : List PyData} : Dq p H v d → DqAll p H vs ds → DqAll p H (v :: vs) (d :: ds)
inductive DqKv (p : Addr) (H : Hp) : List (Key × V) → List (PyData × PyData) → Prop
  | nil : DqKv p H [] []
  | cons {k : Key} {v : V} {r : List (Key × V)} {d : PyData} {ds : List (PyData × PyData)} : Dq p H v d → DqKv p H r ds → DqKv p H ((k, v) :: r) ((kD k, d) :: ds)
end
section
variable {p : Addr} {H H' : Hp}
mutual
theorem Dq.kp (k : Kp p H H') : ∀ {v : V} {d : PyData}, Dq p H v d → Dq p H' v d
  | _, _, .non => .non
  | _, _, .bl b => .bl b
  | _, _, .int i => .int i
  | _, _, .str x => .str x
  | _, _, .lst n h a => .lst n (k _ _ n h) (DqAll.kp k a)
  | _, _, .tup n h a => .tup n (k _ _ n h) (DqAll.kp k a)
  | _, _, .dic n h a => .dic n (k _ _ n h) (DqKv.kp k a)
theorem DqAll.kp (k : Kp p H H') : ∀ {v : List V} {d : List PyData}, DqAll p H v d → DqAll p H' v d
  | _, _, .nil => .nil
  | _, _, .cons h r => .cons (Dq.kp k h) (DqAll.kp k r)
theorem DqKv.kp (k : Kp p H H') : ∀ {v : List (Key × V)} {d : List (PyData × PyData)}, DqKv p H v d → DqKv p H' v d
  | _, _, .nil => .nil
  | _, _, .cons h r => .cons (Dq.kp k h) (DqKv.kp k r)
end
def tyN : PyData → String
  | .none => "NoneType" | .bool _ => "bool" | .int _ => "int" | .str _ => "str" | .list _ => "list" | .tuple _ => "tuple" | .dict _ => "dict"
theorem Dq.ty {K : PySem.W.Frag} {v : V} {d : PyData} (h : Dq p H v d) : TyX K H v (.type (tyN d)) := by
  cases h with
  | non => exact .base .non
  | bl b => exact .base (.bl b)
  | int i => exact .base (.int i)
  | str x => exact .base (.str x)
  | lst n h a => exact .base (.lst h)
  | tup n h a => exact .base (.tup h)
  | dic n h a => exact .base (.dK h)
end
section
variable {X : Cx} {pins : List (Addr × Obj)} {σ : L2.St} {H : Hp} {s : Shared} {p : Addr}
theorem sm_ne (sm : ∃ o, X.K.lookup sysModules = some o) (I : Inv X pins σ H s) {a : Addr} {o : HO} (h : H a = some o) : sysModules ≠ a := by
  obtain ⟨o', q⟩ := sm
  have z := (I.bs _ _ (I.ok.mod.kin _ _ q)).2
  intro e
  rw [e, h] at z
  cases z
theorem key_reads {h : Heap} {k : Key} {v : Value} (e : keyIs k v = true) : ∃ as, Reads h v (kD k) as ∧ sysModules ∉ as := by
  rcases keyIs_shape e with ⟨i, t, ek, ev⟩ | ⟨x, t, ek, ev⟩
  · rw [ek, ev]; exact ⟨[], .int i t, by simp⟩
  · rw [ek, ev]; exact ⟨[], .str x t, by simp⟩
mutual
theorem Dq.reads (sm : ∃ o, X.K.lookup sysModules = some o) (I : Inv X pins σ H s) : ∀ (d : PyData) (v : V) (u : Value), Dq p H v d → RelV v u → ∃ as, Reads s.heap u d as ∧ sysModules ∉ as
  | .none, _, _, h, r => by
    cases h; cases r
    exact ⟨[], .none, by simp⟩
  | .bool b, _, _, h, r => by
    cases h; cases r
    exact ⟨[], .bool b, by simp⟩
  | .int i, _, _, h, r => by
    cases h; obtain ⟨t, rfl⟩ := r
    exact ⟨[], .int i t, by simp⟩
  | .str x, _, _, h, r => by
    cases h; obtain ⟨t, rfl⟩ := r
    exact ⟨[], .str x t, by simp⟩
  | .list ds, _, _, h, r => by
    cases h with
    | lst n hs ha =>
      cases r
      obtain ⟨its, rv, ⟨o, n, ho, hc, _, hd⟩, _⟩ := I.list (SqL.of hs)
      obtain ⟨as, hr, hn⟩ := DqAll.reads sm I ds _ its ha rv
      exact ⟨_, Reads.list ho hc hd hr, by simp only [List.mem_cons, not_or]; exact ⟨sm_ne sm I hs, hn⟩⟩
  | .tuple ds, _, _, h, r => by
    cases h with
    | tup n hs ha =>
      cases r
      obtain ⟨its, rv, ⟨o, ho, hc, n, hd⟩, _⟩ := I.tuple (SqT.of hs)
      obtain ⟨as, hr, hn⟩ := DqAll.reads sm I ds _ its ha rv
      exact ⟨_, Reads.tuple ho hc hd hr, hn⟩
  | .dict ds, _, _, h, r => by
    cases h with
    | dic n hs ha =>
      cases r
      obtain ⟨_, _, vs, rel, o, es, ep, ho, hc, hd, _, hp, _⟩ := I.hok _ _ hs
      obtain ⟨as, bs, h1, h2, h3, h4⟩ := DqKv.reads sm I ds _ vs es.toList ha rel hp
      refine ⟨_, Reads.dict ho hc.1 hd h1 h2, ?_⟩
      simp only [List.cons_append, List.mem_cons, List.mem_append, not_or]
      exact ⟨sm_ne sm I hs, h3, h4⟩
theorem DqAll.reads (sm : ∃ o, X.K.lookup sysModules = some o) (I : Inv X pins σ H s) : ∀ (ds : List PyData) (vs : List V) (us : List Value), DqAll p H vs ds → Vals vs us → ∃ as, ReadsAll s.heap us ds as ∧ sysModules ∉ as
  | [], _, _, h, r => by
    cases h; cases r
    exact ⟨[], .nil, by simp⟩
  | d :: ds, _, _, h, r => by
    cases h with
    | cons h1 h2 =>
      cases r with
      | cons r1 r2 =>
        obtain ⟨as, q1, n1⟩ := Dq.reads sm I d _ _ h1 r1
        obtain ⟨bs, q2, n2⟩ := DqAll.reads sm I ds _ _ h2 r2
        exact ⟨as ++ bs, .cons q1 q2, by simp only [List.mem_append, not_or]; exact ⟨n1, n2⟩⟩
theorem DqKv.reads (sm : ∃ o, X.K.lookup sysModules = some o) (I : Inv X pins σ H s) : ∀ (ds : List (PyData × PyData)) (kvs : List (Key × V)) (vs : List (Key × Value)) (es : List DictEntry), DqKv p H kvs ds → KV kvs vs → Pairs (mixKind X.prog X.w) es vs →
    ∃ as bs, ReadsAll s.heap (es.map (·.key)) (ds.map (·.1)) as ∧ ReadsAll s.heap (es.map (·.val)) (ds.map (·.2)) bs ∧ sysModules ∉ as ∧ sysModules ∉ bs
  | [], _, _, _, h, r, hp => by
    cases h; cases r; cases hp
    exact ⟨[], [], .nil, .nil, by simp, by simp⟩
  | d :: ds, _, _, _, h, r, hp => by
    cases h with
    | cons h1 h2 =>
      cases r with
      | @cons _ kv' _ _ r1 r2 =>
        cases hp with
        | cons e1 e2 e3 =>
          obtain ⟨k', v'⟩ := kv'
          obtain ⟨rk, rv⟩ := r1
          dsimp only at rk rv e1 e2
          subst rk
          obtain ⟨bs, q2, n2⟩ := Dq.reads sm I _ _ _ h1 rv
          obtain ⟨as', bs', g1, g2, m1, m2⟩ := DqKv.reads sm I ds _ _ _ h2 r2 e3
          obtain ⟨as, q1, n1⟩ := key_reads (h := s.heap) (show keyIs _ _ = true from e1)
          refine ⟨as ++ as', bs ++ bs', .cons q1 g1, .cons (by subst e2; exact q2) g2, ?_, ?_⟩
          · simp only [List.mem_append, not_or]; exact ⟨n1, m1⟩
          · simp only [List.mem_append, not_or]; exact ⟨n2, m2⟩
end
end
structure Fit (d : PyData) (k m : Nat) : Prop where
  sh : d.showable = true
  lv : d.leavesShort 1000 = true
  dp : d.depth ≤ k
  wt : d.weight ≤ m
theorem Fit.len {d : PyData} {k m : Nat} (f : Fit d k m) (hm : m ≤ 10000) : d.shown.length ≤ sizeLine := by
  have h := PyData.shown_le 1000 (by decide) d f.lv
  have h2 : (1000 + 2) * d.weight ≤ 1002 * 10000 := Nat.mul_le_mul_left _ (Nat.le_trans f.wt hm)
  rw [sizeLine_eq]
  omega
def rRepr (p : Addr) : List V → Hp → VK → Prop := fun xs H Q => ∃ (x : V) (d : PyData), xs = [x] ∧ Dq p H x d ∧ Fit d 20 10000 ∧ Q (.str d.shown) H
theorem c_repr {X : Cx} {k : Nat} {p : Addr} (gd : X.A.guards = some []) (hr : Room k X.A) (sm : ∃ o, X.K.lookup sysModules = some o) : CallR X (.builtin "repr") (rRepr p) := by
  intro pins s σ H xs us Q I r h
  obtain ⟨x, d, rfl, hd, hf, q⟩ := h
  obtain ⟨u, rfl, ru⟩ := vals1 r
  have hsz := hf.len (Nat.le_refl _)
  obtain ⟨as, hrd, hns⟩ := Dq.reads sm I d x u hd ru
  have hu := hr.un
  cases hd with
  | non =>
    cases (show u = Value.none from ru)
    exact PySem.P.repr_of_none ⟨.str _, H, I.tok _, ⟨_, rfl⟩, q⟩
  | bl b =>
    cases (show u = Value.bool b from ru)
    refine PySem.P.repr_of_bool ⟨.str _, H, I.tok _, ⟨_, rfl⟩, ?_⟩
    cases b <;> exact q
  | int i =>
    obtain ⟨t, rfl⟩ := (show ∃ t, u = Value.int i t from ru)
    exact PySem.P.repr_of_int (of_decide_eq_true hf.sh) ⟨.str _, H, I.tok _, ⟨_, rfl⟩, q⟩
  | str z =>
    obtain ⟨t, rfl⟩ := (show ∃ t, u = Value.str z t from ru)
    exact PySem.P.repr_of_str (hsz := hsz) ⟨.str _, H, I.tok _, ⟨_, rfl⟩, q⟩
  | lst n h1 h2 =>
    cases (show u = Value.ref _ from ru)
    exact repr_of_reads' hrd hf.sh (fun _ => hns) gd (by have := hf.dp; omega) (fun _ _ e => e) (fun h' u tk hk => ⟨.str _, H, I.kept hk, ⟨_, rfl⟩, q⟩) hsz
  | tup n h1 h2 =>
    cases (show u = Value.ref _ from ru)
    exact repr_of_reads' hrd hf.sh (fun _ => hns) gd (by have := hf.dp; omega) (fun _ _ e => e) (fun h' u tk hk => ⟨.str _, H, I.kept hk, ⟨_, rfl⟩, q⟩) hsz
  | dic n h1 h2 =>
    cases (show u = Value.ref _ from ru)
    exact repr_of_reads' hrd hf.sh (fun _ => hns) gd (by have := hf.dp; omega) (fun _ _ e => e) (fun h' u tk hk => ⟨.str _, H, I.kept hk, ⟨_, rfl⟩, q⟩) hsz
end OZ
set_option maxRecDepth 100000
set_option maxHeartbeats 1000000
namespace OZ
open PySem PySem.Spec PyProof.Rows L2
def exk (a : Addr) (cls : Value) (d : Option Addr) : HO := .ext fun h => ∃ (oe : Obj) (vs : Array Value), h.get? a = some oe ∧ Zc cls d oe ∧ oe.data = .fields vs
theorem exk_ok {P : Program} {w : World} {H : Hp} {h : Heap} {a : Addr} {cls : Value} {d : Option Addr} {oe : Obj} {vs : Array Value} (e : h.get? a = some oe) (z : Zc cls d oe) (f : oe.data = .fields vs) : ObjOk P w H h a (exk a cls d) := by
  refine ⟨⟨oe, vs, e, z, f⟩, ⟨oe, e⟩, ?_⟩
  rintro h1 h2 ⟨o, v, q, r⟩ k
  exact ⟨o, v, k o q, r⟩
theorem exk_at {P : Program} {w : World} {H : Hp} {h : Heap} {a : Addr} {cls : Value} {d : Option Addr} (ok : HOk P w H h) (e : H a = some (exk a cls d)) : ∃ (oe : Obj) (vs : Array Value), h.get? a = some oe ∧ Zc cls d oe ∧ oe.data = .fields vs := by
  have x : ObjOk P w H h a (.ext fun h => ∃ (oe : Obj) (vs : Array Value), h.get? a = some oe ∧ Zc cls d oe ∧ oe.data = .fields vs) := ok a _ e
  exact x.1
section
variable {X : Cx} {pins : List (Addr × Obj)} {σ : L2.St} {H : Hp} {s : Shared}
theorem track {a : Addr} {oe : Obj} {vs : Array Value} {cls : Value} {d : Option Addr} (J : Inv X ((a, oe) :: pins) σ H s) (hz : Zc cls d oe) (hf : oe.data = .fields vs)
    (new : ∀ o, X.s_0.heap.get? a ≠ some o) (np : ∀ q ∈ X.pn ++ pins, q.1 ≠ a) : Inv X pins σ (upd H a (exk a cls d)) s := by
  obtain ⟨hget, hn, nL, nF, _⟩ := J.pin (a, oe) (List.mem_append_right _ List.mem_cons_self)
  dsimp only at hget hn nL nF
  have ne : ∀ {b : Addr} {o : HO}, H b = some o → b ≠ a := fun {b o} q => ne_of_none q hn
  have cellne : ∀ x c, X.env.cells.lookup x = some c → c ≠ a := by
    intro x c q z
    obtain ⟨v, o, ho, hd⟩ := J.cell x c q
    rw [z, hget] at ho
    cases ho
    rw [hf] at hd
    cases hd
  constructor
  · exact J.ok
  · exact J.os
  · exact J.bare
  · have B := J.base
    constructor
    · exact B.keep
    · exact B.slot
    · intro b o q n hx
      rw [upd_ne (fun z => new o (by rw [← z]; exact q))]
      exact B.free b o q n hx
    · exact B.there
    · intro b xs q
      have z := B.tups b xs q
      rw [upd_ne (ne z)]; exact z
    · intro b o u q
      have z := B.frzs b o u q
      rw [upd_ne (ne z)]; exact z
    · intro b ps q
      obtain ⟨more, z⟩ := B.tbls b ps q
      exact ⟨more, by rw [upd_ne (ne z)]; exact z⟩
  · exact J.loc
  · exact J.cell
  · rw [upd_ne (Ne.symm nL)]; exact J.free
  · intro x c q
    rw [upd_ne (cellne x c q)]; exact J.freeC x c q
  · intro q hq
    have hq2 : q ∈ X.pn ++ (a, oe) :: pins := by
      rcases List.mem_append.mp hq with z | z
      · exact List.mem_append_left _ z
      · exact List.mem_append_right _ (List.mem_cons_of_mem _ z)
    obtain ⟨h1, h2, h3⟩ := J.pin q hq2
    exact ⟨h1, by rw [upd_ne (np q hq)]; exact h2, h3⟩
  · intro b o q
    by_cases hb : b = a
    · subst hb
      rw [upd_same] at q
      cases q
      exact exk_ok hget hz hf
    · rw [upd_ne hb] at q
      refine (J.hok b o q).stay (fun _ _ _ z => z) ?_ ?_
      · intro c z; rw [upd_ne (ne z)]; exact z
      · intro c xs z; rw [upd_ne (ne z)]; exact z
  · exact J.len
end
def wKeep (K : PySem.W.Frag) (c : Value) (i : Nat) (ts : Addr → Value → Option Addr → TS) (Wout : WX) (D : Ends) : WX := fun cls d σ H =>
  ∃ b, PySem.W.exmOne K cls c = some b ∧
    (b = true → ∀ a, H a = none → ts a cls d ⟨fun σ' H' => D.nx (σ'.set i none) (upd H' a (exk a cls d)), fun v H' => D.rt v (upd H' a (exk a cls d)), fun σ' H' => D.bk (σ'.set i none) (upd H' a (exk a cls d)),
      fun σ' H' => D.ct (σ'.set i none) (upd H' a (exk a cls d))⟩ (σ.set i (some (.ref a))) H) ∧ (b = false → Wout cls d σ H)
section
variable {X : Cx} {x n : Str} {c : Value} {i : Nat} {body suite : List Stmt} {b₀ : Stmt} {np pos pos' : Pos} {tb : WX → TS} {ts : Addr → Value → Option Addr → TS} {Wout : WX}
theorem ps_try_keep (hs : X.stack = X.env :: X.outer) (hf : X.env.frame = some X.env.locals) (hex : X.ex = []) (hN : X.N.Nodup) (hi : X.N[i]? = some n) (hln : X.env.kindOf n = some .local) (hc : Names X x c) (tk : Takes X Wout)
    (hb : ∀ (W : WX) (pn : List (Addr × Obj)) (xe : Value → Shared → Prop), Takes (X.tr pn xe) W → PassesOwn (model X.prog X.w) X.A X.env xe → PSs (X.tr pn xe) body (tb W))
    (hsu : ∀ (a : Addr) (oe : Obj) (cls : Value) (d : Option Addr) (pn : List (Addr × Obj)), Zc cls d oe → (∃ vs, oe.data = .fields vs) → PSs (X.suite a ((a, oe) :: pn)) (b₀ :: suite) (ts a cls d)) :
    PS X (.Try body [.ExceptHandler (some (.Name x np)) (some n) (b₀ :: suite) pos'] [] [] pos) (fun D σ H => tb (wKeep X.K c i ts Wout D) D σ H) := by
  constructor
  intro pins s σ H D I h
  have ok := I.ok
  have fr : X.A.frames = some (X.env :: X.outer) := ok.frames.trans (by rw [hs])
  apply wpAny_Try_except
  have hbody := hb (wKeep X.K c i ts Wout D) (X.pn ++ pins) (fun e s₁ => wpAny (model X.prog X.w) X.A (noteFrame e X.env) (fun _ s₂ => wpAny (model X.prog X.w) X.A (setFlight e none)
    (fun _ s₃ => wpAny (model X.prog X.w) X.A (handleBy e X.env [.ExceptHandler (some (.Name x np)) (some n) (b₀ :: suite) pos']) (SP X pins D) X.xe s₃) X.xe s₂) X.xe s₁) ?kept PassesOwn.looking
  case kept =>
    rintro u s' ⟨a, B, sI, pins', σ', H', cls, d, rfl, J', nb, up, sky, na, os, ag, b, e1, yes, no⟩
    have J : Inv X pins σ' H' sI := J'.ofTry ok
    rw [hs] at sky
    show wpAny (model X.prog X.w) X.A (noteFrame (.ref a) X.env) _ _ _
    apply Sky.land Zc.steady fr hf sky
    intro h3 fl3 up3
    have J3 : Inv X pins σ' H' { s' with heap := h3 } := J.landed nb fl3.1 (up.trans up3) os ag
    obtain ⟨oe3, vs3, he3, hz3, hd3⟩ := fl3.there
    have nfr : a ∉ frs (X.env :: X.outer) := by
      intro hm
      obtain ⟨_, o', e', hnf⟩ := fl3.2.2.1.mem hm
      rw [he3] at e'
      cases e'
      exact hnf _ hd3
    have nL : a ≠ X.env.locals := fun z => nfr (List.mem_filterMap.mpr ⟨X.env, List.mem_cons_self, by rw [hf, z]⟩)
    have nF : a ∉ X.fs := by
      intro hm
      obtain ⟨e, he, q⟩ := List.mem_filterMap.mp hm
      exact nfr (List.mem_filterMap.mpr ⟨e, List.mem_cons_of_mem _ he, q⟩)
    have fresh : ∀ o, sI.heap.get? a ≠ some o := by
      intro o q
      have z := nb a o q (by rw [hs]; exact nfr)
      rw [fl3.2.1] at z
      cases z
    have new0 : ∀ o, X.s_0.heap.get? a ≠ some o := by
      intro o q
      obtain ⟨o', z⟩ := J.base.there a o q (by rw [hex]; simp)
      exact fresh o' z
    have nps : ∀ q ∈ X.pn ++ pins, q.1 ≠ a := by
      intro q hq z
      exact fresh q.2 (by rw [← z]; exact (J.pin q hq).1)
    have S3 := J3.suite he3 hd3 na nL nF
    apply wpAny_handleBy_cons (codeAny_handlers_test ?_) (by intro q; cases q)
    have LT : PySem.W.Looks (model X.prog X.w) h3 (typeOf (.ref a)) cls := fun A Q E s k q => wpAny_typeOf_ref (k _ _ he3) (by rw [hz3.1]; exact q)
    have LM := PySem.W.exm_one (M := model X.prog X.w) J3.kIn LT e1
    have name : ∀ {Q : Value → Shared → Prop} {E : Value → Shared → Prop}, Q c { s' with heap := h3 } → wpAny (model X.prog X.w) (X.A.mark (some (.ref a))) (eval (.Name x np) X.env) Q E { s' with heap := h3 } := by
      intro Q E q
      obtain ⟨hg, hdbg, hm | ⟨hm, hv, hnn⟩⟩ := hc
      · exact ld_glob (X := X.suite a ((a, oe3) :: (X.pn ++ pins))) S3 hg hm q hdbg
      · exact ld_blt (X := X.suite a ((a, oe3) :: (X.pn ++ pins))) S3 hg hm hv q hnn hdbg
    apply name
    apply LM.here
    cases b with
    | true =>
      apply codeAny_handlers_suite_as
      apply HandSPX.lands_againZ fl3
      intro h4 fl4 up4
      have J4 : Inv X pins σ' H' { s' with heap := h4 } := J.landed nb fl4.1 ((up.trans up3).trans up4) os ag
      obtain ⟨oe4, vs4, he4, hz4, hd4⟩ := fl4.there
      have S4 := J4.suite he4 hd4 na nL nF
      apply store_ok (X := X.suite a ((a, oe4) :: (X.pn ++ pins))) (v := .ref a) S4 hN hi (.inl hln) rfl ?_ (.inr hln)
      intro s5 S5
      apply wpAny_mono ((hsu a oe4 cls d (X.pn ++ pins) hz4 ⟨_, hd4⟩).run [] s5 _ H' _ S5 (yes rfl a na)) ?_ (fun _ _ z => z.elim)
      have leave : ∀ {s6 : Shared} {σ6 : L2.St} {H6 : Hp} {Q : Shared → Prop}, Inv (X.suite a ((a, oe4) :: (X.pn ++ pins))) [] σ6 H6 s6 → (∀ s7, Inv X pins (σ6.set i none) (upd H6 a (exk a cls d)) s7 → Q s7) →
          wpAny (model X.prog X.w) X.A (do bindName X.env n .none; unbindBehindTheSuite X.env n pos') (fun _ s7 => Q s7) X.xe s6 := by
        intro s6 σ6 H6 Q S6 hq
        have J6 : Inv X ((a, oe4) :: pins) σ6 H6 s6 := by
          refine ⟨ok, S6.os, S6.bare, S6.base, S6.loc, S6.cell, S6.free, S6.freeC, ?_, S6.hok, S6.len⟩
          intro q hq
          apply S6.pin q
          apply List.mem_append_left
          rcases List.mem_append.mp hq with z | z
          · exact List.mem_cons_of_mem _ (List.mem_append_left _ z)
          · rcases List.mem_cons.mp z with z | z
            · rw [z]; exact List.mem_cons_self
            · exact List.mem_cons_of_mem _ (List.mem_append_right _ z)
        exact gone_ok J6 hN hi hln fun s7 J7 => hq s7 (track J7 hz4 hd4 new0 nps)
      intro f s6 hsp
      cases f with
      | next => obtain ⟨σ6, H6, S6, q6⟩ := hsp; exact leave S6 fun s7 J7 => ⟨_, _, J7, q6⟩
      | brk => obtain ⟨σ6, H6, S6, q6⟩ := hsp; exact leave S6 fun s7 J7 => ⟨_, _, J7, q6⟩
      | cont => obtain ⟨σ6, H6, S6, q6⟩ := hsp; exact leave S6 fun s7 J7 => ⟨_, _, J7, q6⟩
      | ret u => obtain ⟨v6, σ6, H6, S6, r6, q6⟩ := hsp; exact leave S6 fun s7 J7 => ⟨_, _, _, J7, r6, q6⟩
    | false =>
      show wpAny _ X.A (handleBy (.ref a) X.env []) _ _ _
      apply wpAny_handleBy_nil
      obtain ⟨k1, k2, k3, oe, vs, T, oT, ts', he, hz, hd, h1, hr⟩ := id fl3
      unfold PySem.passOn
      apply wpAny_bind
      apply wpAny_field he hd h1
      rw [if_neg (show ¬ ((Value.ref T == Value.none) = true) from by simp)]
      have on : wpAny (model X.prog X.w) X.A (setFlight (.ref a) X.env.frame) (fun _ s4 => wpAny (model X.prog X.w) X.A (throw (.ref a) : Sem Flow) (SP X pins D) X.xe s4) X.xe { s' with heap := h3 } := by
        rw [hf]
        apply HandSPX.setFlight_upZ fl3
        intro h4 hh4 up4
        apply wpAny_throw
        apply tk
        exact ⟨a, B, sI, pins, σ', H', cls, d, rfl, J, nb, (up.trans up3).trans up4, .inr (.inr (by rw [hs]; exact hh4)), na, os, ag, no rfl⟩
      first
        | exact wpAny_bind (wpAny_pure (wpAny_bind on))
        | exact wpAny_bind on
  apply wpAny_mono (hbody.run [] s σ H D (I.toTry _) h) ?_ (fun e s1 z => z)
  intro f s1 z
  cases f with
  | next => obtain ⟨σ', H', J', q⟩ := z; exact wpAny_execs_nil ⟨σ', H', J'.ofTry ok, q⟩
  | brk => obtain ⟨σ', H', J', q⟩ := z; exact ⟨σ', H', J'.ofTry ok, q⟩
  | cont => obtain ⟨σ', H', J', q⟩ := z; exact ⟨σ', H', J'.ofTry ok, q⟩
  | ret u => obtain ⟨v, σ', H', J', r, q⟩ := z; exact ⟨v, σ', H', J'.ofTry ok, r, q⟩
end
end OZ
set_option maxRecDepth 100000
set_option maxHeartbeats 1000000
namespace OZ
open PySem PySem.Spec PyProof.Rows L2
def oexB (K : PySem.W.Frag) (C : Addr) : Bool :=
  match K.lookup C with
  | some ⟨.type "type", _, .cls cd, sl⟩ =>
    (match cd.mro, sl.toList with
    | .ref C' :: bm, [_, _, _, _, some (.builtin n), _] => C' == C && (n == "ValueError.__new__" && (!cd.hasDel && (cd.hasDict && PySem.HandSPX.refsVE bm)))
    | _, _ => false)
  | _ => false
theorem oexB_ok {K : PySem.W.Frag} {C : Addr} (q : oexB K C = true) : ∃ nm qn N bs bm sn sub ab col dd k0 k1 k2 k3 k5, K.lookup C = some (excClassObj nm qn C N bs bm true sn sub ab col dd k0 k1 k2 k3 k5 "ValueError.__new__") ∧ PySem.HandSPX.refsVE bm = true := by
  unfold oexB at q
  split at q
  next dd cd sl ho =>
    split at q
    next C' bm k0 k1 k2 k3 n k5 hm hs =>
      simp only [Bool.and_eq_true, beq_iff_eq, Bool.not_eq_true'] at q
      obtain ⟨rfl, rfl, h1, h2, h3⟩ := q
      obtain ⟨nm, bs, mro, ns, qn, hd, sn, sub, ab, col, del⟩ := cd
      dsimp only at hm h1 h2
      subst hm; subst h1; subst h2
      obtain ⟨l⟩ := sl
      dsimp only at hs
      subst hs
      exact ⟨nm, qn, ns, bs, bm, sn, sub, ab, col, dd, k0, k1, k2, k3, k5, ho, h3⟩
    next => cases q
  next => cases q
structure XC (K : PySem.W.Frag) (C : Addr) : Prop where
  oex : OexC K C
  ga : PySem.W.findIn K (.ref C) "__getattribute__" = some (some (.builtin "BaseException.__getattribute__"))
  gg : PySem.W.findIn K (.ref C) "__getattr__" = some none
  hd : PySem.W.hasDictIn K C = true
  ha : PySem.W.findIn K (.ref C) "__class__" = some (some (.builtin "object.__class__"))
  hn : PySem.W.specialIn K (.builtin "object.__class__") "__get__" = some (some (.builtin "getset_descriptor.__get__"))
  ht : PySem.W.takesIn K (.builtin "object.__class__") = some true
  hm : PySem.W.mroIn K C (.type "object") = some true
def xcB (K : PySem.W.Frag) (C : Addr) : Bool :=
  oexB K C && (decide (PySem.W.findIn K (.ref C) "__setattr__" = some (some (.builtin "object.__setattr__"))) && (decide (PySem.W.subIn K (.ref C) (.type "BaseException") = some true) && (decide (PySem.W.typeIn K (.ref C) = some (.type "type")) && (PySem.W.keepIn K (.ref C) &&
  (decide (PySem.W.findIn K (.ref C) "__getattribute__" = some (some (.builtin "BaseException.__getattribute__"))) && (decide (PySem.W.findIn K (.ref C) "__getattr__" = some none) && (PySem.W.hasDictIn K C && (decide (PySem.W.findIn K (.ref C) "__class__" = some (some (.builtin "object.__class__"))) &&
  (decide (PySem.W.specialIn K (.builtin "object.__class__") "__get__" = some (some (.builtin "getset_descriptor.__get__"))) && (decide (PySem.W.takesIn K (.builtin "object.__class__") = some true) && decide (PySem.W.mroIn K C (.type "object") = some true)))))))))))
theorem xcB_ok {K : PySem.W.Frag} {C : Addr} (h : xcB K C = true) : XC K C := by
  unfold xcB at h
  simp only [Bool.and_eq_true, decide_eq_true_eq] at h
  obtain ⟨h1, h2, h3, h4, h5, h6, h7, h8, h9, h10, h11, h12⟩ := h
  exact ⟨⟨oexB_ok h1, h2, h3, h4, h5⟩, h6, h7, h8, h9, h10, h11, h12⟩
theorem XC.cl {K : PySem.W.Frag} {C : Addr} (x : XC K C) : (PySem.W.clsIn K C).isSome = true := by
  obtain ⟨cd, h, _⟩ := PySem.W.any_some x.hd
  rw [h]; rfl
def ExAt (H : Hp) (a C : Addr) (fs : List (Str × V)) : Prop := (∃ d, H a = some (exk a (.ref C) (some d)) ∧ H d = some (.xd fs)) ∨ (fs = [] ∧ H a = some (exk a (.ref C) none)) ∨
  (∃ d, H a = some (exo a C (some d)) ∧ H d = some (exd d fs))
section
variable {X : Cx} {pins : List (Addr × Obj)} {σ : L2.St} {H : Hp} {s : Shared}
theorem ExAt.inst {a C : Addr} {fs : List (Str × V)} (I : Inv X pins σ H s) (h : ExAt H a C fs) : ∃ (oe : Obj) (od : Option Obj), PySem.W.InstAt s.heap a oe C od ∧
    (fs = [] ∨ ∃ (o : Obj) (mA : Str → Option Value), od = some o ∧ (∀ f, PySem.W.lookIn f o = some (mA f)) ∧ ∀ f, RelO (fs.lookup f) (mA f)) := by
  rcases h with ⟨d, h1, h2⟩ | ⟨h0, h1⟩ | ⟨d, h1, h2⟩
  · obtain ⟨oe, vs, e, z, f⟩ := exk_at I.hok h1
    have hx : ObjOk X.prog X.w H s.heap d (.xd fs) := I.hok d _ h2
    obtain ⟨mA, hns, hr⟩ := hx
    obtain ⟨od, ho, hl⟩ := lookIn_ns hns
    exact ⟨oe, some od, ⟨e, z.1, by unfold PySem.W.notCls; rw [f] <;> rfl, by rw [z.2]; exact ho⟩, .inr ⟨od, mA, rfl, hl, hr⟩⟩
  · obtain ⟨oe, vs, e, z, f⟩ := exk_at I.hok h1
    exact ⟨oe, none, ⟨e, z.1, by unfold PySem.W.notCls; rw [f] <;> rfl, by rw [z.2]; trivial⟩, .inl h0⟩
  · obtain ⟨t1, e⟩ := exo_at I.hok h1
    obtain ⟨mA, hns, hr⟩ := exd_at I.hok h2
    obtain ⟨od, ho, hl⟩ := lookIn_ns hns
    exact ⟨_, some od, ⟨e, rfl, rfl, ho⟩, .inr ⟨od, mA, rfl, hl, hr⟩⟩
def rIsA (K : PySem.W.Frag) : List V → Hp → VK → Prop := fun xs H Q => rIsi K xs H Q ∨
  ∃ (a C : Addr) (fs : List (Str × V)) (c : V) (u : Value) (b : Bool), xs = [.ref a, c] ∧ ExAt H a C fs ∧ XC K C ∧ ClsV c u ∧ PySem.W.kitOne K (.ref C) u = some b ∧ Q (.bl b) H
theorem c_isA : CallR X (.builtin "isinstance") (rIsA X.K) := by
  intro pins s σ H xs us Q I r h
  rcases h with h | ⟨a, C, fs, c, u, b, rfl, hx, xc, cv, e, q⟩
  · exact call_isi pins s σ H xs us Q I r h
  · obtain ⟨u1, u2, rfl, r1, r2⟩ := vals2 r
    have e2 := cv.eq r2
    subst e2
    cases (show u1 = Value.ref a from r1)
    obtain ⟨oe, od, J, _⟩ := hx.inst I
    exact PySem.W.kia_one (PySem.W.kitx_exc (gt := none) xc.cl xc.ga xc.gg xc.oex.exC xc.ha xc.hn xc.ht xc.hm) I.kIn J e (fun z => nomatch z) fun tk => ⟨.bl b, H, I.tok tk, rfl, q⟩
def rAtt (K : PySem.W.Frag) (f : Str) : V → Hp → VK → Prop := fun x H1 Q => (∃ a C dx fs v, x = .ref a ∧ H1 a = some (.ins C dx fs) ∧ Cls K C ∧ NoAttr K C f ∧ fs.lookup f = some v ∧ Q v H1) ∨
  ∃ a C fs v, x = .ref a ∧ ExAt H1 a C fs ∧ XC K C ∧ NoAttr K C f ∧ fs.lookup f = some v ∧ Q v H1
def tAtt (K : PySem.W.Frag) (ta : TE) (f : Str) : TE := fun σ H Q => ta σ H fun x H1 => rAtt K f x H1 Q
theorem y_att {K : PySem.W.Frag} {ta : TE} {f : Str} {Q : VK} (h : ta σ H fun x H1 => rAtt K f x H1 Q) : tAtt K ta f σ H Q := h
theorem y_attI {K : PySem.W.Frag} {f : Str} {Q : VK} {a C dx : Addr} {fs : List (Str × V)} {v : V} (h1 : H a = some (.ins C dx fs)) (h2 : Cls K C) (h3 : NoAttr K C f) (h4 : fs.lookup f = some v) (h : Q v H) : rAtt K f (.ref a) H Q :=
  .inl ⟨a, C, dx, fs, v, rfl, h1, h2, h3, h4, h⟩
theorem y_attX {K : PySem.W.Frag} {f : Str} {Q : VK} {a C : Addr} {fs : List (Str × V)} {v : V} (h1 : ExAt H a C fs) (h2 : XC K C) (h3 : NoAttr K C f) (h4 : fs.lookup f = some v) (h : Q v H) : rAtt K f (.ref a) H Q :=
  .inr ⟨a, C, fs, v, rfl, h1, h2, h3, h4, h⟩
theorem pe_att {e : Expr} {ta : TE} {f : Str} {pos : Pos} (he : PE X e ta) (hb : attributeBase e f X.env (eval e X.env) = eval e X.env := by rfl) : PE X (.Attribute e f pos) (tAtt X.K ta f) := by
  constructor
  intro pins s σ H Q I h
  apply attr_of hb
  apply thn (he.run pins s σ H _ I h)
  rintro u s1 ⟨x, H1, I1, rx, q⟩
  rcases q with q | ⟨a, C, fs, v, rfl, hx, xc, na, l, q⟩
  · obtain ⟨a, C, dx, fs, v, rfl, h1, h2, h3, h4, h5⟩ := q
    cases (show u = Value.ref a from rx)
    exact getattr_ok I1 h1 h2 h3 h4 (fun u2 s2 I2 ru => ⟨v, H1, I2, ru, h5⟩)
  · cases (show u = Value.ref a from rx)
    obtain ⟨oe, od, J, hf⟩ := hx.inst I1
    rcases hf with rfl | ⟨o, mA, rfl, hl, hr⟩
    · cases l
    · obtain ⟨w, hw, rw'⟩ := RelO.some_of (v := v) (o := mA f) (by rw [← l]; exact hr f)
      exact HandSPX.exc_get I1.kIn J xc.ga xc.gg xc.oex.exC (PySem.W.findObj_own xc.hd na rfl (by rw [hl, hw])) (handed_of rw') ⟨v, H1, I1.tok _, rw', q⟩
end
end OZ
set_option maxRecDepth 100000
set_option maxHeartbeats 2000000
namespace OZ
open PySem PySem.Spec PyProof.Rows L2 LamX
structure Entry (P : Program) (w : World) (K : PySem.W.Frag) (cs : List (Addr × Addr)) (a : Addr) (ns : List Int) (h : Heap) (H : Hp) : Prop where
  tab : ∀ q ∈ cs, H q.2 = some (.tbl #[])
  only : ∀ b, H b = none ∨ b ∈ cs.map (·.2) ∨ ∃ o xs, H b = some (.frz o (.lst xs))
  sq : SqL K H a (ns.map V.int)
  ok : HOk P w H h
  at_ : ∀ b, H b ≠ none → b = a ∨ b ∈ cs.map (·.2)
  notK : H a ≠ none → K.lookup a = none
section
variable {P : Program} {w : World} {K : PySem.W.Frag} {mg mb : Str → Option Value} {k : Nat} {fa a : Addr} {cs : List (Addr × Addr)} {fd : FuncData} {x : Str} {sp : Sp} {s₁ : Shared} {vs : List Value} {ns : List Int}
theorem entry_of (KX : K.In s₁.heap) (hT : ∀ q ∈ cs, s₁.heap.get? q.2 = some { cls := .none, data := .fields #[] }) (ha : s₁.heap.get? a = some { cls := .type "list", data := .seq vs.toArray }) (hi : IntsAre vs ns) (hl : ns.length ≤ sizeLine) :
    ∃ H, Entry P w K cs a ns s₁.heap H := by
  have rel := vals_ints hi
  have len := hi.length
  have tabs : ∀ b : Addr, b ∈ cs.map (·.2) → s₁.heap.get? b = some { cls := .none, data := .fields #[] } := by
    intro b hb
    obtain ⟨q, hq, rfl⟩ := List.mem_map.mp hb
    exact hT q hq
  have mem : ∀ q ∈ cs, q.2 ∈ cs.map (·.2) := fun q hq => List.mem_map.mpr ⟨q, hq, rfl⟩
  have notTab : a ∉ cs.map (·.2) := by
    intro z
    have q := tabs a z
    rw [ha] at q
    have q2 := congrArg Obj.data (Option.some.inj q)
    cases q2
  by_cases hk : K.lookup a = none
  · refine ⟨fun b => if b = a then some (.frz { cls := .type "list", data := .seq vs.toArray } (.lst (ns.map V.int))) else if b ∈ cs.map (·.2) then some (.tbl #[]) else none, ?_⟩
    constructor
    · intro q hq
      have n : ¬ q.2 = a := fun z => notTab (z ▸ mem q hq)
      show (if q.2 = a then _ else _) = _
      rw [if_neg n, if_pos (mem q hq)]
    · intro b
      show (if b = a then _ else _) = _ ∨ _ ∨ _
      by_cases hb : b = a
      · exact Or.inr (Or.inr ⟨_, _, if_pos hb⟩)
      · by_cases hb2 : b ∈ cs.map (·.2)
        · exact Or.inr (Or.inl hb2)
        · exact Or.inl (by rw [if_neg hb, if_neg hb2])
    · exact Or.inl (Or.inr ⟨{ cls := .type "list", data := .seq vs.toArray }, if_pos rfl⟩)
    · intro b u z
      have z2 : (if b = a then some (HO.frz { cls := .type "list", data := .seq vs.toArray } (.lst (ns.map V.int))) else if b ∈ cs.map (·.2) then some (.tbl #[]) else none) = some u := z
      by_cases hb : b = a
      · rw [if_pos hb] at z2
        cases z2
        subst hb
        exact ⟨ha, by rw [List.length_map]; exact hl, vs, _, rel, ha⟩
      · rw [if_neg hb] at z2
        by_cases hb2 : b ∈ cs.map (·.2)
        · rw [if_pos hb2] at z2
          cases z2
          exact tabs b hb2
        · rw [if_neg hb2] at z2
          cases z2
    · intro b z
      by_cases hb : b = a
      · exact Or.inl hb
      · by_cases hb2 : b ∈ cs.map (·.2)
        · exact Or.inr hb2
        · exact absurd (show (if b = a then _ else _) = none by rw [if_neg hb, if_neg hb2]) z
    · exact fun _ => hk
  · obtain ⟨o, hk⟩ := Option.ne_none_iff_exists'.mp hk
    have e := KX a o hk
    rw [ha] at e
    cases e
    refine ⟨fun b => if b ∈ cs.map (·.2) then some (.tbl #[]) else none, ?_⟩
    constructor
    · exact fun q hq => if_pos (mem q hq)
    · intro b
      by_cases hb : b ∈ cs.map (·.2)
      · exact Or.inr (Or.inl hb)
      · exact Or.inl (if_neg hb)
    · exact Or.inr ⟨_, vs.toArray, _, hk, rfl, rfl, rfl, by rw [List.size_toArray, len]; exact hl, by simpa using rel⟩
    · intro b u z
      by_cases hb : b ∈ cs.map (·.2)
      · have z2 := (if_pos hb).symm.trans z
        cases z2
        exact tabs b hb
      · have z2 := (if_neg hb).symm.trans z
        cases z2
    · intro b z
      by_cases hb : b ∈ cs.map (·.2)
      · exact Or.inr hb
      · exact absurd (if_neg hb) z
    · intro z
      exact absurd (show (if a ∈ cs.map (·.2) then some (HO.tbl #[]) else none) = none from if_neg notTab) z
theorem lawG_call (KX : K.In s₁.heap) (hns : s₁.heap.Ns mainGlobals mg) (hb : s₁.heap.Ns builtinsNs mb) (hbb : ∀ x : Str, x ≠ "__name__" → mb x = bootBuiltins x) (hlim : s₁.heap.NoLimit) (hg : s₁.gens = #[])
    (hT : ∀ q ∈ cs, s₁.heap.get? q.2 = some { cls := .none, data := .fields #[] }) (nT : ∀ q ∈ cs, K.lookup q.2 = none) (C : ∀ q ∈ cs, PySem.W.CodeHd s₁.heap q.1 q.2)
    (hbm : ∃ (bm : Addr) (ob : Obj), mg "__builtins__" = some (.ref bm) ∧ bm ≠ builtinsNs ∧ s₁.heap.get? bm = some ob ∧ ob.cls = .type "module" ∧ ob.dict = some builtinsNs ∧ ob.data = .plain)
    (ha : s₁.heap.get? a = some { cls := .type "list", data := .seq vs.toArray }) (hi : IntsAre vs ns) (hl : ns.length ≤ sizeLine) (hr : Room k callerA)
    (F : ∀ base : Heap, K.In base → base.Ns mainGlobals mg → (∀ q ∈ cs, TabB base mg q.1 q.2) → FnG P w K mg base k fa fd [x] sp) (hbind : ∀ (s : Shared) (u : Value), BindsTo s fd ⟨[u], []⟩ [(x, u)])
    (hsp : ∀ H : Hp, (∀ q ∈ cs, H q.2 = some (.tbl #[])) → SqL K H a (ns.map V.int) → sp [.ref a] H (fun v _ => v = .bl true) fun _ _ _ => False) :
    codeAny (model P w) callerA (.call (.ref fa) ⟨[.ref a], []⟩) (fun r s' => r = .ok (.ret (.bool true)) ∧ OldK s₁.heap s'.heap ∧ s'.os = s₁.os ∧ AllBare s'.gens) s₁ := by
  obtain ⟨H, EN⟩ := entry_of (P := P) (w := w) (cs := cs) KX hT ha hi hl
  have tabs : ∀ b : Addr, b ∈ cs.map (·.2) → s₁.heap.get? b = some { cls := .none, data := .fields #[] } := by
    intro b hb
    obtain ⟨q, hq, rfl⟩ := List.mem_map.mp hb
    exact hT q hq
  have plain : ∀ {b : Addr} {o : Obj}, s₁.heap.get? b = some o → (∀ vs n, o.data ≠ .seq vs n) → o.data ≠ .fields #[] → (hidT s₁.heap H).get? b = some o := by
    intro b o e h1 h2
    apply hidT_get e
    cases q : H b with
    | none => rfl
    | some u =>
      exfalso
      rcases EN.at_ b (by rw [q]; simp) with e' | e'
      · rw [e', ha] at e
        cases e
        exact h1 _ _ rfl
      · rw [tabs b e'] at e
        cases e
        exact h2 rfl
  have nsT : ∀ {b : Addr} {m : Str → Option Value}, s₁.heap.Ns b m → (hidT s₁.heap H).Ns b m := by
    rintro b m ⟨o, es, ep, e, d, r⟩
    refine ⟨o, es, ep, plain e ?_ ?_, d, r⟩
    · intro vs n z; rw [d] at z; cases z
    · intro z; rw [d] at z; cases z
  have kinB : K.In (hidT s₁.heap H) := by
    intro b o e
    apply hidT_get (KX b o e)
    cases q : H b with
    | none => rfl
    | some u =>
      exfalso
      rcases EN.at_ b (by rw [q]; simp) with e' | e'
      · rw [e'] at e q
        rw [EN.notK (by rw [q]; simp)] at e
        cases e
      · obtain ⟨r, hr, er⟩ := List.mem_map.mp e'
        rw [← er, nT r hr] at e
        cases e
  have md : L2.Mod K mg (hidT s₁.heap H) := by
    obtain ⟨mc, h1, h2⟩ := hlim
    exact ⟨kinB, nsT hns, ⟨mb, nsT hb, hbb⟩, ⟨mc, nsT h1, h2⟩⟩
  have tb : ∀ q ∈ cs, TabB (hidT s₁.heap H) mg q.1 q.2 := by
    intro q hq
    have hTq := hT q hq
    constructor
    · obtain ⟨o, us, file, tf, flags, tg, inF, text, tt, e1, r1, r2, r3, r4⟩ := C q hq
      refine ⟨o, us, file, tf, flags, tg, inF, text, tt, plain e1 ?_ ?_, r1, r2, r3, r4⟩
      · intro vs n z; rw [r2] at z; cases z
      · intro z; rw [r2] at z; cases z; simp at r3
    · obtain ⟨bm, ob, b1, b2, b3, b4, b5, b6⟩ := hbm
      refine ⟨bm, ob, b1, b2, ?_, ?_, plain b3 ?_ ?_, b4, b5, b6⟩
      · intro z
        obtain ⟨o, es, ep, e, hd, _⟩ := hns
        rw [z, e] at b3; cases b3
        rw [hd] at b6; cases b6
      · intro z
        rw [z, hTq] at b3; cases b3; cases b6
      · intro vs n z; rw [b6] at z; cases z
      · intro z; rw [b6] at z; cases z
    · intro z
      obtain ⟨o, es, ep, e, hd, _⟩ := hns
      rw [z, hTq] at e; cases e; cases hd
  have env : Env0 P w K mg (hidT s₁.heap H) callerA [] s₁ H := by
    refine ⟨rfl, md, fun b o e => of_hidT e, Nat.le_of_eq (hidT_size _ _), trivial, ?_, EN.ok, .of_eq hg⟩
    intro b z
    exact absurd (show b ∈ ([] : List Addr) from z) (by simp)
  have go := (F _ kinB (nsT hns) tb).run callerA [] s₁ H ⟨[.ref a], []⟩ [.ref a] [.ref a] (fun v _ => v = .bl true) (fun _ _ _ => False) hr rfl env (hbind s₁ (.ref a)) (.cons rfl .nil) (hsp H EN.tab EN.sq)
  apply codeAny_mono go
  intro r s' z
  cases r with
  | error e =>
    obtain ⟨_, _, _, _, _, _, _, _, _, _, _, _, q⟩ := z
    exact q.elim
  | ok fl =>
    cases fl with
    | next => exact z.elim
    | brk => exact z.elim
    | cont => exact z.elim
    | ret u =>
      obtain ⟨v, H', os, bare, un, ok', rv, q⟩ := z
      have q2 : v = .bl true := q
      subst q2
      cases (show u = Value.bool true from rv)
      have kept : ∀ b o, b ∉ cs.map (·.2) → s₁.heap.get? b = some o → s'.heap.get? b = some o := by
        intro b o nb e
        rcases EN.only b with y | y | ⟨ob, xs, y⟩
        · apply un.keep b o e y
          · intro y2; exact absurd (show b ∈ ([] : List Addr) from y2) (by simp)
          · simp
        · exact absurd y nb
        · obtain ⟨e1, _⟩ := EN.ok b _ y
          obtain ⟨e2, _⟩ := ok' b _ (un.frzs b ob _ y)
          rw [e] at e1; cases e1
          exact e2
      have grown : ∀ q ∈ cs, ∃ more : Array Value, s'.heap.get? q.2 = some { cls := .none, data := .fields more } := by
        intro q hq
        obtain ⟨more, y⟩ := un.tbls q.2 #[] (EN.tab q hq)
        exact ⟨_, ok' q.2 _ y⟩
      refine ⟨rfl, ⟨?_, ?_⟩, os, bare⟩
      · intro b o e
        by_cases hb : b ∈ cs.map (·.2)
        · obtain ⟨q, hq, rfl⟩ := List.mem_map.mp hb
          obtain ⟨more, hm⟩ := grown q hq
          rw [hT q hq] at e
          cases e
          exact Or.inr (Or.inl ⟨((C q hq).tab (hT q hq)).isCodeTable, rfl, #[], more, rfl, by rw [Array.empty_append]; exact hm⟩)
        · exact Or.inl (kept b o hb e)
      · intro b o e
        by_cases hb : b ∈ cs.map (·.2)
        · obtain ⟨q, hq, rfl⟩ := List.mem_map.mp hb
          obtain ⟨more, hm⟩ := grown q hq
          exact ⟨_, hm⟩
        · exact ⟨o, kept b o hb e⟩
end
def LawG (l : PySem.W.OpenLaw) (w : World) (K : PySem.W.Frag) (k n : Nat) (x : Str) (mg : Str → Option Value) (fa : Addr) (h : Heap) : Prop :=
  ∃ (fd : FuncData) (cs : List (Addr × Addr)) (sp : Sp), (∀ q ∈ cs, h.get? q.2 = some { cls := .none, data := .fields #[] }) ∧ (∀ q ∈ cs, K.lookup q.2 = none) ∧ (∀ q ∈ cs, PySem.W.CodeHd h q.1 q.2) ∧
    (∀ (s : Shared) (u : Value), BindsTo s fd ⟨[u], []⟩ [(x, u)]) ∧
    (∀ (H : Hp) (a : Addr) (ns : List Int), ns.length ≤ n → (∀ q ∈ cs, H q.2 = some (.tbl #[])) → SqL K H a (ns.map V.int) → sp [.ref a] H (fun v _ => v = .bl true) fun _ _ _ => False) ∧
    ∀ base : Heap, K.In base → base.Ns mainGlobals mg → (∀ q ∈ cs, TabB base mg q.1 q.2) → FnG l.prog w K mg base k fa fd [x] sp
theorem walkG {l : PySem.W.OpenLaw} {n k : Nat} {q : Program} {loose : List Str} {XP : (Str → Option Value) → Heap → Prop} {YP : World → Heap → Prop} {d : DefRec} {x : Str}
    (hn : l.most = some n) (hn2 : n ≤ sizeLine) (hdf : d.params.defaults = []) (hr : Room k callerA)
    (F : ∀ (w : World) (mg : Str → Option Value) (fa : Addr) (h : Heap), YP w h → h.Ns mainGlobals mg → mg d.name = some (.ref fa) → ∃ K : PySem.W.Frag, K.In h ∧ LawG l w K k n x mg fa h) :
    PySem.W.WalkO q loose XP YP l.row.toRowW d [] (fun f vs => PySem.call f vs) := by
  apply Att.attach_callB hn hdf
  intro w s₀ s₁ mg mb fa o pm cd doc a vs ns G Y ho hd hcd hmg hobj hints hlen _ hg
  obtain ⟨K, KX, fd, cs, sp, hT, nT, C, hb, hsp, hF⟩ := F w mg fa _ Y G.T.g hmg
  exact lawG_call KX G.T.g G.T.b G.T.builtins G.T.nolimit hg hT nT C G.T.bmain hobj hints (Nat.le_trans hlen hn2) hr hF hb (fun H hH hS => hsp H a ns hlen hH hS)
def seenAt (g : Addr → Option Obj) (n : Nat) : PySem.W.Frag := He.frT g (sysModules :: He.asD g n)
structure Told (fn : List He.DefD) (tf : List He.Defn) (ex : PySem.W.Frag → Bool) (h : Heap) (K : PySem.W.Frag) : Prop where
  d : He.SaysD [] fn K
  more : ex K = true
  hd : ∀ q ∈ tf, PySem.W.codeHdIn K (He.cT K q).1 (He.cT K q).2 = true
  out : ∀ q ∈ tf, K.lookup (He.cT K q).2 = none
  empty : ∀ q ∈ tf, h.get? (He.cT K q).2 = some { cls := .none, data := .fields #[] }
abbrev AlZ : Type := He.AlD × Bool
def obsZ (n : Nat) (fn : List He.DefD) (tf : List He.Defn) (ex : PySem.W.Frag → Bool) (g : Addr → Option Obj) : AlZ := (He.obsD [] fn (seenAt g n), ex (seenAt g n) && He.tabsB g tf (seenAt g n))
def valZ (fn : List He.DefD) : AlZ := (He.valD fn, true)
theorem told_of {n : Nat} {fn : List He.DefD} {tf : List He.Defn} {ex : PySem.W.Frag → Bool} {h : Heap} (e : obsZ n fn tf ex h.get? = valZ fn) : Told fn tf ex h (seenAt h.get? n) := by
  have e1 : He.obsD [] fn (seenAt h.get? n) = He.valD fn := congrArg (fun z : AlZ => z.1) e
  have e2 : (ex (seenAt h.get? n) && He.tabsB h.get? tf (seenAt h.get? n)) = true := congrArg (fun z : AlZ => z.2) e
  obtain ⟨h1, h2⟩ := Bool.and_eq_true_iff.mp e2
  have one : ∀ q ∈ tf, PySem.W.codeHdIn (seenAt h.get? n) (He.cT (seenAt h.get? n) q).1 (He.cT (seenAt h.get? n) q).2 = true ∧ ∃ o, h.get? (He.cT (seenAt h.get? n) q).2 = some o ∧ He.emptyTab o = true := by
    intro q hq
    obtain ⟨h3, h4⟩ := Bool.and_eq_true_iff.mp (List.all_eq_true.mp h2 q hq)
    refine ⟨h3, ?_⟩
    cases z : h.get? (He.cT (seenAt h.get? n) q).2 with
    | none => rw [z] at h4; cases h4
    | some o => rw [z] at h4; exact ⟨o, rfl, h4⟩
  constructor
  · exact e1
  · exact h1
  · exact fun q hq => (one q hq).1
  · intro q hq
    obtain ⟨_, o, z, y⟩ := one q hq
    exact He.frT_none z y
  · intro q hq
    obtain ⟨_, o, z, y⟩ := one q hq
    rw [z, He.emptyTab_eq y]
def hookZ (n : Nat) (fn : List He.DefD) (tf : List He.Defn) (ex : PySem.W.Frag → Bool) : PySem.W.Hook where
  α := AlZ
  obs := fun s => obsZ n fn tf ex s.heap.get?
  val := fun _ => valZ fn
  says := fun _ h => ∃ K : PySem.W.Frag, K.In h ∧ Told fn tf ex h K
  of := fun _ _ e => ⟨_, He.frT_in, told_of e⟩
  keeps := fun _ _ _ ⟨K, hK, c⟩ kp => ⟨K, PySem.W.Frag.In.keeps hK kp, ⟨c.d, c.more, c.hd, c.out, fun q hq => kp _ _ (c.empty q hq)⟩⟩
theorem obsZ_eq {n : Nat} {fn : List He.DefD} {tf : List He.Defn} {ex : PySem.W.Frag → Bool} {g : Addr → Option Obj} {s : Shared} (h : ∀ a, g a = s.heap.get? a) : obsZ n fn tf ex g = (hookZ n fn tf ex).obs s := by
  have e : g = s.heap.get? := funext h
  subst e
  rfl
end OZ
set_option maxRecDepth 100000
set_option maxHeartbeats 1000000
namespace OZ
open PySem PySem.Spec PyProof.Rows L2
def FncK (P : Program) (w : World) (K : PySem.W.Frag) (mg : Str → Option Value) (base : Heap) (k : Nat) (x : Str) (ps ks : List Str) (gV : List V → List V → List V) (sp : Sp) : Prop :=
  ∃ (f : Addr) (fd : FuncData) (g : List Value → List Value → List Value), mg x = some (.ref f) ∧ PySem.W.keepIn K (.ref f) = true ∧ KBn K fd ps 0 ks g gV ∧ FnOk P w K mg base (L2.CX P w) k f fd ps sp
def tCallKw (m : Nat) (sp : Sp) (gV : List V → List V → List V) (E : L2.St → XK) (tk : TA) : TE := fun σ H Q => tk σ H fun zs H2 => zs.length = m ∧ sp (gV [] zs) H2 Q (E σ)
theorem y_callKw {m : Nat} {sp : Sp} {gV : List V → List V → List V} {E : L2.St → XK} {tk : TA} {σ : L2.St} {H : Hp} {Q : VK} (h : tk σ H fun zs H2 => zs.length = m ∧ sp (gV [] zs) H2 Q (E σ)) : tCallKw m sp gV E tk σ H Q := h
section
variable {X : Cx} {k : Nat} {x : Str} {ps ks : List Str} {gV : List V → List V → List V} {sp : Sp} {kws : List Keyword} {tk : TA} {p pos : Pos}
theorem ock0E {E : L2.St → XK} (F : FncK X.prog X.w X.K X.mg X.base k x ps ks gV sp) (hr : Room k X.A) (hx : ∀ σ, PassesAt (L2.CX X.prog X.w) X σ (E σ)) (hkw : PK X kws tk) (hg : Gl X x)
    (hall : (backToKw pos (keywordEach kws X.env)).all (·.1.isSome) = true) (hks : (backToKw pos (keywordEach kws X.env)).filterMap (·.1) = ks)
    (hdb : (x == ("__debug__" : Str)) = false) (hpl : ((backTo pos (starEach [] X.env)).any (·.1) || (backToKw pos (keywordEach kws X.env)).any (·.1.isNone)) = false) :
    PE X (.Call (.Name x p) [] kws pos) (tCallKw ks.length sp gV E tk) := by
  obtain ⟨f, fd, g, hm, hk, hb, G⟩ := F
  constructor
  intro pins s σ H Q I h
  apply wpAny_Call_Name_kw (ld_glob I hg hm ?_ hdb)
  apply PySem.W.callWith_KW0 (h₀ := X.base) I.ok.mod.kin hk hall ?_ hpl
  apply thn (hkw.run pos pins s σ H _ I h)
  rintro ws s2 ⟨zs, H2, I2, rz, l2, q2⟩
  refine ⟨I2.kIn, ?_⟩
  rw [hks]
  have r2 := hb.rel (vs := []) (us := []) .nil rz
  show wpAny (model X.prog X.w) X.A (call (.ref f) [] (ks.zip ws)) _ _ _
  apply wpAny_call
  apply codeAny_mono (G.run X.A X.stack s2 H2 ⟨[], ks.zip ws⟩ _ _ Q (E σ) hr I2.env0 (hb.to s2 [] ws I2.kIn rfl (rz.length.symm.trans l2)) r2 q2)
  intro r s' z
  cases r with
  | error e => exact hx σ pins H2 s2 e s' I2 z
  | ok fl =>
    cases fl with
    | ret u => exact I2.after z
    | next => exact z.elim
    | brk => exact z.elim
    | cont => exact z.elim
theorem ock0 (F : FncK X.prog X.w X.K X.mg X.base k x ps ks gV sp) (hr : Room k X.A) (hkw : PK X kws tk) (hg : Gl X x := by rfl)
    (hall : (backToKw pos (keywordEach kws X.env)).all (·.1.isSome) = true := by rfl) (hks : (backToKw pos (keywordEach kws X.env)).filterMap (·.1) = ks := by rfl)
    (hdb : (x == ("__debug__" : Str)) = false := by decide) (hpl : ((backTo pos (starEach [] X.env)).any (·.1) || (backToKw pos (keywordEach kws X.env)).any (·.1.isNone)) = false := by rfl) :
    PE X (.Call (.Name x p) [] kws pos) (tCallKw ks.length sp gV (fun _ => E0) tk) :=
  ock0E F hr (fun σ pins H s e s' I c => passL pins σ H s e s' I c) hkw hg hall hks hdb hpl
theorem ock0X {W : WX} (F : FncK X.prog X.w X.K X.mg X.base k x ps ks gV sp) (hr : Room k X.A) (tks : Takes X W) (hkw : PK X kws tk) (hg : Gl X x := by rfl)
    (hall : (backToKw pos (keywordEach kws X.env)).all (·.1.isSome) = true := by rfl) (hks : (backToKw pos (keywordEach kws X.env)).filterMap (·.1) = ks := by rfl)
    (hdb : (x == ("__debug__" : Str)) = false := by decide) (hpl : ((backTo pos (starEach [] X.env)).any (·.1) || (backToKw pos (keywordEach kws X.env)).any (·.1.isNone)) = false := by rfl) :
    PE X (.Call (.Name x p) [] kws pos) (tCallKw ks.length sp gV (WE W) tk) :=
  ock0E F hr (fun σ => passAt tks σ) hkw hg hall hks hdb hpl
end
theorem ob_ty {X : Cx} {x : Str} {T : String} {pos : Pos} (hm : X.mg x = none) (hv : bootBuiltins x = some (.type T)) (hg : Gl X x := by rfl) (hn : x ≠ "__name__" := by decide) (hd : (x == ("__debug__" : Str)) = false := by decide) :
    PE X (.Name x pos) (tC (.ty T)) := pe_bltn hg hm hv rfl hn hd
def XMk (P : Program) (w : World) (K : PySem.W.Frag) (mg : Str → Option Value) (base : Heap) (x : Str) (C : Addr) (ps : List Str) (sp : Sp) : Prop :=
  mg x = some (.ref C) ∧ XC K C ∧ ∃ (fI : Addr) (fd : FuncData), PySem.W.findIn K (.ref C) "__init__" = some (some (.ref fI)) ∧ PySem.W.typeIn K (.ref fI) = some (.type "function") ∧ Binds K fd ps [] ∧ FnOk P w K mg base (L2.CX P w) 1 fI fd ps sp
theorem raiseX {X : Cx} {W : WX} {x : Str} {C : Addr} {ps : List Str} {sp : Sp} {e : Expr} {es : List Expr} {ta : TA} {p pos pos2 : Pos} (M : XMk X.prog X.w X.K X.mg X.base x C ps sp) (hr : Room 2 X.A) (hc : X.calm = true) (tk : Takes X W) (ha : PA X (e :: es) ta)
    (hg : Gl X x := by rfl) (hdb : (x == ("__debug__" : Str)) = false := by decide) (he : starEach (e :: es) X.env = (false, eval e X.env) :: starEach es X.env := by rfl) (hpl : (backTo pos (starEach es X.env)).any (·.1) = false := by rfl) :
    PS X (.Raise (some (.Call (.Name x p) (e :: es) [] pos)) none pos2) (fun _ σ H => tMkO C sp [] ta σ H fun cls d H' => W cls d σ H') := by
  obtain ⟨hm, xc, fI, fd, iC, tI, hb, G⟩ := M
  exact ps_raise hc tk (pmk_oex xc.oex iC tI G hr hb .nil passL hg hm ha hdb he hpl)
def spX1 (f : Str) (C : Addr) : Sp := fun vs H Q _ => ∃ (a : Addr) (v : V), vs = [.ref a, v] ∧ H a = some (exo a C none) ∧ ∀ dx, H dx = none → dx ≠ a → Q .non (upd (upd H dx (exd dx [(f, v)])) a (exo a C (some dx)))
def spX2 (f g : Str) (C : Addr) : Sp := fun vs H Q _ => ∃ (a : Addr) (v u : V), vs = [.ref a, v, u] ∧ H a = some (exo a C none) ∧
  ∀ dx, H dx = none → dx ≠ a → Q .non (upd (upd (upd H dx (exd dx [(f, v)])) a (exo a C (some dx))) dx (exd dx [(g, u), (f, v)]))
section
variable {P : Program} {w : World} {K : PySem.W.Frag} {mg : Str → Option Value} {base : Heap}
def iBody1 (f : Str) (q1 q2 q3 q4 : Pos) : List Stmt := [.Assign [.Attribute (.Name "self" q1) f q2] (.Name f q3) q4]
def iBody2 (f g : Str) (q1 q2 q3 q4 r1 r2 r3 r4 : Pos) : List Stmt := [.Assign [.Attribute (.Name "self" q1) f q2] (.Name f q3) q4, .Assign [.Attribute (.Name "self" r1) g r2] (.Name g r3) r4]
end
theorem del_upds {H : Hp} {a d : Addr} {o u v w : HO} (ha : H a = none) : upd (del (upd (upd (upd H a o) d u) a v) a) d w = upd H d w := by
  funext b
  by_cases hb : b = d
  · rw [hb, upd_same, upd_same]
  · rw [upd_ne hb, upd_ne hb]
    by_cases hba : b = a
    · rw [hba, del_same, ha]
    · rw [del_ne hba, upd_ne hba, upd_ne hb, upd_ne hba]
theorem y_mk1 {f : Str} {C : Addr} {H : Hp} {v : V} {Q : XK} (h : ∀ d, H d = none → Q (.ref C) (some d) (upd H d (.xd [(f, v)]))) :
    [v].length ≤ 1000 ∧ ∀ a, H a = none → spX1 f C (.ref a :: ([v] ++ [])) (upd H a (exo a C none)) (fun v H2 => v = .non ∧ ∃ (d : Addr) (fs : List (Str × V)), H2 a = some (exo a C (some d)) ∧ H2 d = some (exd d fs) ∧ H d = none ∧ Q (.ref C) (some d) (upd (del H2 a) d (.xd fs))) (fun _ _ _ => False) := by
  refine ⟨by show 1 ≤ 1000; decide, fun a ha => ⟨a, v, rfl, upd_same, fun d hd nda => ⟨rfl, d, [(f, v)], upd_same, ?_, free_upd hd, ?_⟩⟩⟩
  · rw [upd_ne nda, upd_same]
  · rw [del_upds ha]
    exact h d (free_upd hd)
theorem y_mkO {C : Addr} {sp : Sp} {dvs : List V} {ta : TA} {σ : L2.St} {H : Hp} {Q : XK} (h : ta σ H fun vs H1 => vs.length ≤ 1000 ∧ ∀ a, H1 a = none → sp (.ref a :: (vs ++ dvs)) (upd H1 a (exo a C none))
  (fun v H2 => v = .non ∧ ∃ (d : Addr) (fs : List (Str × V)), H2 a = some (exo a C (some d)) ∧ H2 d = some (exd d fs) ∧ H1 d = none ∧ Q (.ref C) (some d) (upd (del H2 a) d (.xd fs))) (fun _ _ _ => False)) : tMkO C sp dvs ta σ H Q := h
theorem take_more {α : Type} {l : List α} {i : Nat} {x : α} (h : l[i]? = some x) : l.take (i + 1) = l.take i ++ [x] := by
  rw [List.take_add_one, h]
  rfl
theorem ix_ltN {xs : List Nat} {i : Int} {v : Nat} {j : Nat} (h : xs[j]? = some v) (e : i = (j : Int)) : atI xs i = some v := by rw [e]; exact atI_nat h
theorem kb_of {K : PySem.W.Frag} {x qual : Str} {params : Arguments} {body : List Stmt} {scope : Scope} {f : Addr} {fd : FuncData} {ps ks : List Str} (F : FunD K x qual params body scope [] [] f fd)
    (h : ∀ (kV doc pm : Value) (an : Option Addr) (cdv ct : Value) (ws : List Value), ws.length = ks.length → bindArgs (PySem.W.fnOf x qual params body scope .none kV doc pm an cdv ct) ⟨[], ks.zip ws⟩ = pure (ps.zip ws)) : KBn K fd ps 0 ks (fun _ ws => ws) (fun _ zs => zs) := by
  obtain ⟨oc, od, dV, kV, doc, pm, an, cdv, ct, osl, rfl, lk, hcd, hD, hK⟩ := F.ex
  rcases hD with ⟨_, rfl⟩ | ⟨z, _⟩
  · constructor
    · intro s us ws _ hu hw
      cases us with
      | nil => exact .of_eq (h kV doc pm an cdv ct ws hw)
      | cons a r => cases hu
    · intro vs us zs ws r1 r2
      exact r2
  · exact absurd rfl z
end OZ
set_option maxRecDepth 100000
set_option maxHeartbeats 4000000
namespace PySem
namespace OZX
open PySem.W PySem.Calls PyProof.Rows PySem.HandSPX
section
variable {M : Model} {A : Around} {E : Value → Shared → Prop} {h : Heap} {g : Array GenState} {d : Drawn} {t : Nat} {os : OsState}
variable {nm q : Str} {C N : Addr} {bs bm bmB : List Value} {hdct : Bool} {sn : List Str} {sub : List Value} {ab : Bool} {col : Option Bool} {dd : Option Addr} {k0 k1 k2 k3 k5 : Option Value} {B newId initId : String} {kw : List (Str × Value)}
theorem ckn (F : ExcBaseFacts B newId initId bmB) (hT : ∀ X : String, bm.contains (.type X) = bmB.contains (.type X)) {rest : List Value} {Q : Unit → Shared → Prop} (hC : h.get? C = some (excClassObj nm q C N bs bm hdct sn sub ab col dd k0 k1 k2 k3 k5 newId))
    (hq : Q () ⟨h, g, d, t, os⟩) : wpAny M A (checkBuiltinCall newId ⟨.ref C :: rest, kw⟩) Q E ⟨h, g, d, t, os⟩ := by
  have c1 : (Value.ref C :: bm).contains (.type B) = true := by rw [List.contains_cons, hT, F.hasB, Bool.or_true]
  have c2 := F.noStar
  simp only [checkBuiltinCall, F.newKind, F.newSplit, F.newRow]
  repeat (first
    | refine wpAny_loadPart_at hC ?_
    | (refine wpAny_isSubtype_exc hC ?_; rw [c1])
    | refine wpAny_staticBase_exc hC ?_
    | refine wpAny_madeBy_exc hC ?_
    | simp only [bne_self_eq_false, Bool.false_eq_true, if_false]
    | wp_step)
  exact hq
theorem ctc {rest : List Value} {Q : Unit → Shared → Prop} (hC : h.get? C = some (excClassObj nm q C N bs bm hdct sn sub ab col dd k0 k1 k2 k3 k5 newId)) (hq : Q () ⟨h, g, d, t, os⟩) :
    wpAny M A (checkBuiltinCall "type.__call__" ⟨.ref C :: rest, kw⟩) Q E ⟨h, g, d, t, os⟩ := by
  have f3 := tc_sub
  have h1 : (⟨h, g, d, t, os⟩ : Shared).TypeIs (.ref C) "type" := ⟨_, hC, rfl⟩
  simp only [checkBuiltinCall, tc_kind, tc_split]
  repeat (any_goals (first
    | assumption
    | with_reducible refine wpAny_loadPart_at hC ?_
    | with_reducible refine wpAny_onRaise ?_
    | with_reducible refine wpAny_map ?_
    | wp_step))
end
section
variable {prog : Program} {w : World} {A : Around} {E : Value → Shared → Prop} {R : Result → Shared → Prop} {h : Heap} {g : Array GenState} {d : Drawn} {t : Nat} {os : OsState}
variable {nm q : Str} {C N : Addr} {bs bm bmB : List Value} {hdct : Bool} {sn : List Str} {sub : List Value} {ab : Bool} {col : Option Bool} {dd : Option Addr} {k0 k1 k2 k3 k5 : Option Value} {B newId initId : String} {kw : List (Str × Value)}
theorem newk (F : ExcBaseFacts B newId initId bmB) (hT : ∀ X : String, bm.contains (.type X) = bmB.contains (.type X)) {rest : List Value} (hC : h.get? C = some (excClassObj nm q C N bs bm hdct sn sub ab col dd k0 k1 k2 k3 k5 newId))
    (hq : R (.ok (.ret (.ref (h.objs.size + 1)))) ⟨(h.push (W.kdv_tup rest)).push (excO C h.objs.size), g, d, t, os⟩) (hrest : rest.length ≤ sizeLine) : codeAny (model prog w) A (.builtin newId ⟨.ref C :: rest, kw⟩) R ⟨h, g, d, t, os⟩ := by
  have c0 := F.ends
  have c1 : (Value.ref C :: bm).contains (.type B) = true := by rw [List.contains_cons, hT, F.hasB, Bool.or_true]
  have c2 : (Value.ref C :: bm).contains (.type "AttributeError") = false := by rw [List.contains_cons, hT, F.noAttr]; rfl
  have c3 : (Value.ref C :: bm).contains (.type "NameError") = false := by rw [List.contains_cons, hT, F.noName]; rfl
  apply codeAny_builtinAt F.entry
  unfold Builtin.«BaseException.__new__»
  apply wpAt_bind
  show wpAt _ _ _ (stack >>= _) _ _ _
  apply wpAt_bind
  refine wpAt_stack fun p below => wpAt_of_wpAny ?_
  wp_walk
  apply wpAt_of_wpAny
  rw [F.owner]
  repeat (first
    | with_reducible refine wpAny_madeHere_exc F.canon hC ?_
    | with_reducible refine wpAny_loadPart_at hC ?_
    | (with_reducible refine wpAny_isSubtype_exc hC ?_; first | rw [c1] | rw [c2] | rw [c3])
    | wp_step)
  show R _ _
  rw [Heap.size_push]
  exact hq
theorem typk (F : ExcBaseFacts B newId initId bmB) (hT : ∀ X : String, bm.contains (.type X) = bmB.contains (.type X)) {rest : List Value} {fI : Addr} {Q : Fin → Shared → Prop} (hC : h.get? C = some (excClassObj nm q C N bs bm hdct sn sub ab col dd k0 k1 k2 k3 k5 newId))
    (hi : W.Looks (model prog w) h (typeLookup (.ref C) "__init__") (some (.ref fI))) (hb : ∀ self, W.Looks (model prog w) h (bindSpecial (.ref fI) self) (.ref fI, [self])) (hrest : rest.length ≤ sizeLine)
    (hq : codeAny (model prog w) A (.call (.ref fI) ⟨.ref (h.objs.size + 1) :: rest, kw⟩) (fun r s' => match r with | .ok (.ret v) => v = .none ∧ Q (.done (.ret (.ref (h.objs.size + 1)))) s' | .ok _ => False | .error e => E e s') ⟨(h.push (W.kdv_tup rest)).push (excO C h.objs.size), g, d, t, os⟩) :
    wpAny (model prog w) A (Builtin.«type.__call__» ⟨.ref C :: rest, kw⟩) Q E ⟨h, g, d, t, os⟩ := by
  repeat (first
    | with_reducible refine wpAny_loadPart_at hC ?_
    | with_reducible refine wpAny_madeBy_exc hC ?_
    | wp_step)
  apply codeAny_call_builtin_code (Code.quiet_builtin _ F.quiet) (ckn F hT hC ?_)
  refine newk F hT hC ?_ hrest
  show wpAny _ _ _ _ _ _
  have k : ∀ b o, h.get? b = some o → ((h.push (W.kdv_tup rest)).push (excO C h.objs.size)).get? b = some o := fun b o e => Heap.get?_push_of_some _ (Heap.get?_push_of_some _ e)
  have hC1 := k _ _ hC
  have hg : ((h.push (W.kdv_tup rest)).push (excO C h.objs.size)).get? (h.objs.size + 1) = some (excO C h.objs.size) := by heap_get
  have c1 : (Value.ref C :: bm).contains (.ref C) = true := by simp
  have i1 := hi.keeps k
  have b1 := (hb (.ref (h.objs.size + 1))).keeps k
  unfold isInstance
  repeat (first
    | with_reducible refine wpAny_loadPart_at hg ?_
    | (with_reducible refine wpAny_isSubtype_exc hC1 ?_; rw [c1])
    | wp_step)
  show wpAny _ _ (typeLookup (.ref C) _) _ _ _
  apply i1.at
  apply wpAny_holding
  apply wpAny_bind
  apply b1.at
  apply wpAny_bind
  apply wpAny_call
  refine codeAny_mono hq fun r s' z => ?_
  rcases r with e | (v | _ | _ | _) <;> first | exact z | exact z.elim | skip
  obtain ⟨rfl, z⟩ := z
  first
    | exact wpAny_pure (wpAny_pure z)
    | (wp_walk; exact z)
theorem callk (F : ExcBaseFacts B newId initId bmB) (hT : ∀ X : String, bm.contains (.type X) = bmB.contains (.type X)) {rest : List Value} {fI : Addr} (hC : h.get? C = some (excClassObj nm q C N bs bm hdct sn sub ab col dd k0 k1 k2 k3 k5 newId))
    (hi : W.Looks (model prog w) h (typeLookup (.ref C) "__init__") (some (.ref fI))) (hb : ∀ self, W.Looks (model prog w) h (bindSpecial (.ref fI) self) (.ref fI, [self])) (hrest : rest.length ≤ sizeLine)
    (hq : codeAny (model prog w) (A.under (.builtin "type.__call__" ⟨.ref C :: rest, kw⟩)) (.call (.ref fI) ⟨.ref (h.objs.size + 1) :: rest, kw⟩) (W.InitBack (h.objs.size + 1) R) ⟨(h.push (W.kdv_tup rest)).push (excO C h.objs.size), g, d, t, os⟩) :
    codeAny (model prog w) A (.call (.ref C) ⟨rest, kw⟩) R ⟨h, g, d, t, os⟩ := by
  have f1 := tc_lookup
  have f2 := tc_bind (.ref C)
  have h1 : (⟨h, g, d, t, os⟩ : Shared).TypeIs (.ref C) "type" := ⟨_, hC, rfl⟩
  apply codeAny_of_tree
  show wpAny _ _ (callAny (.ref C) _) _ _ _
  repeat (any_goals (first
    | assumption
    | with_reducible refine wpAny_loadPart_at hC ?_
    | wp_step))
  refine ⟨rfl, ?_⟩
  apply codeAny_call_builtin_at (Code.quiet_builtin _ (by decide +kernel)) entry_typeCall
  apply ctc hC
  apply typk F hT hC hi hb hrest
  refine codeAny_mono hq fun r s' z => ?_
  rcases r with e | (v | _ | _ | _) <;> exact z
end
end OZX
end PySem
set_option maxRecDepth 100000
set_option maxHeartbeats 4000000
namespace OZ
open PySem PySem.Spec PyProof.Rows L2
def NewX (C : Addr) (fs : List (Str × V)) (H : Hp) (Q : VK) : Prop := ∀ (a : Addr) (H' : Hp), H a = none → Same H H' → ExAt H' a C fs → Q (.ref a) H'
def tXv (C : Addr) (g : List V → List (Str × V)) (n : Nat) (ta : TA) : TE := fun σ H Q => ta σ H fun vs H1 => vs.length = n ∧ NewX C (g vs) H1 Q
def tXv0 (C : Addr) : TE := fun _ H Q => NewX C [] H Q
structure Xv (P : Program) (w : World) (K : PySem.W.Frag) (mg : Str → Option Value) (base : Heap) (x : Str) (C : Addr) (n : Nat) (ks : List Str) (g : List V → List (Str × V)) : Prop where
  nm : mg x = some (.ref C)
  xc : XC K C
  mkd : ∃ (fI : Addr) (fd : FuncData) (ps : List Str) (sp : Sp) (pm : List Value → List Value) (pV : List V → List V), PySem.W.findIn K (.ref C) "__init__" = some (some (.ref fI)) ∧ PySem.W.typeIn K (.ref fI) = some (.type "function") ∧ FnOk P w K mg base (L2.CX P w) 1 fI fd ps sp ∧
    (∀ (s : Shared) (a : Value) (us ws : List Value), K.In s.heap → (us.length = n ∧ ks = [] ∧ ws = []) ∨ (us = [] ∧ ks ≠ [] ∧ ws.length = n ∧ ks.length = n) → BindsTo s fd ⟨a :: us, ks.zip ws⟩ (ps.zip (a :: pm (us ++ ws)))) ∧
    (∀ vs us, Vals vs us → Vals (pV vs) (pm us)) ∧
    (∀ (vs : List V) (H : Hp) (a : Addr) (Q : VK), vs.length = n → H a = none → (∀ H', Same H H' → ExAt H' a C (g vs) → Q .non H') → sp (.ref a :: pV vs) (upd H a (exo a C none)) Q fun _ _ _ => False)
section
variable {X : Cx} {x : Str} {C : Addr} {n : Nat} {ks : List Str} {g : List V → List (Str × V)} {e : Expr} {es : List Expr} {ta tk : TA} {kws : List Keyword} {p pos : Pos}
theorem run_xv {pins : List (Addr × Obj)} {σ : L2.St} {H : Hp} {s : Shared} {Q : VK} {us ws : List Value} {vs : List V} (M : Xv X.prog X.w X.K X.mg X.base x C n ks g) (hr : Room 2 X.A) (I : Inv X pins σ H s) (r : Vals vs (us ++ ws))
    (hl : (us.length = n ∧ ks = [] ∧ ws = []) ∨ (us = [] ∧ ks ≠ [] ∧ ws.length = n ∧ ks.length = n)) (hz : us.length ≤ 1000) (h : NewX C (g vs) H Q) : wpAny (model X.prog X.w) X.A (call (.ref C) us (ks.zip ws)) (EP X pins σ Q) X.xe s := by
  obtain ⟨nmx, xc, fI, fd, ps, sp, pm, pV, iC, tI, G, hb, hp, hs⟩ := M
  obtain ⟨nm, q, N, bs, bm, sn, sub, ab, col, dd, k0, k1, k2, k3, k5, hC, hbm⟩ := xc.oex.cls
  obtain ⟨hp0, g0, dr, tk0, os⟩ := s
  have lv : vs.length = n := by
    have e := r.length
    rw [List.length_append] at e
    rcases hl with ⟨e1, _, e3⟩ | ⟨e1, _, e3, _⟩
    · rw [e3] at e; simp only [List.length_nil] at e; omega
    · rw [e1] at e; simp only [List.length_nil] at e; omega
  have hsz : hp0.objs.size ≤ hp0.objs.size + 1 := Nat.le_succ _
  have hn : H (hp0.objs.size + 1) = none := I.hok.fresh hsz
  have hq := hs vs H (hp0.objs.size + 1) (fun v H2 => v = .non ∧ Q (.ref (hp0.objs.size + 1)) H2) lv hn (fun H' s1 e1 => ⟨rfl, h _ H' hn s1 e1⟩)
  have kk : ∀ b o, hp0.get? b = some o → ((hp0.push (PySem.W.kdv_tup us)).push (PySem.HandSPX.excO C hp0.objs.size)).get? b = some o := fun b o e => Heap.get?_push_of_some _ (Heap.get?_push_of_some _ e)
  have hget : ((hp0.push (PySem.W.kdv_tup us)).push (PySem.HandSPX.excO C hp0.objs.size)).get? (hp0.objs.size + 1) = some (PySem.HandSPX.excO C hp0.objs.size) := by heap_get
  have I2 : Inv X pins σ (upd H (hp0.objs.size + 1) (exo (hp0.objs.size + 1) C none)) ⟨(hp0.push (PySem.W.kdv_tup us)).push (PySem.HandSPX.excO C hp0.objs.size), g0, dr, tk0, os⟩ :=
    I.laid (t' := tk0) (a := hp0.objs.size + 1) (o := exo (hp0.objs.size + 1) C none) (h' := (hp0.push (PySem.W.kdv_tup us)).push (PySem.HandSPX.excO C hp0.objs.size)) kk hsz (exo_ok hget)
  have r2 : Vals (V.ref (hp0.objs.size + 1) :: pV vs) (Value.ref (hp0.objs.size + 1) :: pm (us ++ ws)) := .cons rfl (hp _ _ r)
  have hus : us.length ≤ sizeLine := by
    rw [sizeLine_eq]
    omega
  apply wpAny_call
  refine PySem.OZX.callk F.excBase_ValueError (fun Y => PySem.HandSPX.refsVE_contains Y bm hbm) (I.kIn _ _ hC) (PySem.W.looks_findIn I.kIn iC) (fun self => PySem.W.bind_fn I.kIn self tI) hus ?_
  apply codeAny_mono (G.run _ X.stack _ _ ⟨Value.ref (hp0.objs.size + 1) :: us, ks.zip ws⟩ (Value.ref (hp0.objs.size + 1) :: pm (us ++ ws)) _ _ (fun _ _ _ => False) (hr.make C us (ks.zip ws)) (I2.env0.make C us (ks.zip ws)) (hb _ _ us ws I2.kIn hl) r2 hq)
  intro r s' hq'
  cases r with
  | error er => exact passL pins σ _ _ er s' I2 hq'
  | ok fl =>
    cases fl with
    | ret u =>
      obtain ⟨v, H', I3, rv, ev, q3⟩ := I2.after hq'
      subst ev
      exact ⟨rv, ⟨V.ref (hp0.objs.size + 1), H', I3, rfl, q3⟩⟩
    | next => exact hq'.elim
    | brk => exact hq'.elim
    | cont => exact hq'.elim
theorem xv (M : Xv X.prog X.w X.K X.mg X.base x C n [] g) (hr : Room 2 X.A) (ha : PA X (e :: es) ta) (hz : n ≤ 1000 := by decide) (hg : Gl X x := by rfl) (hdb : (x == ("__debug__" : Str)) = false := by decide)
    (he : starEach (e :: es) X.env = (false, eval e X.env) :: starEach es X.env := by rfl) (hpl : (backTo pos (starEach es X.env)).any (·.1) = false := by rfl) : PE X (.Call (.Name x p) (e :: es) [] pos) (tXv C g n ta) := by
  constructor
  intro pins s σ H Q I h
  apply wpAny_Call_Name_kw (ld_glob I hg M.nm ?_ hdb)
  refine PySem.W.callWith_K (h₀ := X.base) I.ok.mod.kin M.xc.oex.kC (thn (ha.run pos pins s σ H _ I h) ?_) he hpl
  rintro us s1 ⟨vs, H1, I1, r1, hl, q1⟩
  have el : us.length = n := r1.length.symm.trans hl
  exact ⟨I1.kIn, run_xv (ws := []) M hr I1 (by rw [List.append_nil]; exact r1) (.inl ⟨el, rfl, rfl⟩) (Nat.le_trans (Nat.le_of_eq el) hz) q1⟩
theorem xvK (M : Xv X.prog X.w X.K X.mg X.base x C n ks g) (hr : Room 2 X.A) (hkw : PK X kws tk) (hks : (backToKw pos (keywordEach kws X.env)).filterMap (·.1) = ks := by rfl) (h1 : ks ≠ [] := by decide) (h2 : ks.length = n := by decide) (hg : Gl X x := by rfl)
    (hall : (backToKw pos (keywordEach kws X.env)).all (·.1.isSome) = true := by rfl) (hdb : (x == ("__debug__" : Str)) = false := by decide)
    (hpl : ((backTo pos (starEach [] X.env)).any (·.1) || (backToKw pos (keywordEach kws X.env)).any (·.1.isNone)) = false := by rfl) : PE X (.Call (.Name x p) [] kws pos) (tXv C g n tk) := by
  constructor
  intro pins s σ H Q I h
  apply wpAny_Call_Name_kw (ld_glob I hg M.nm ?_ hdb)
  apply PySem.W.callWith_KW0 (h₀ := X.base) I.ok.mod.kin M.xc.oex.kC hall ?_ hpl
  apply thn (hkw.run pos pins s σ H _ I h)
  rintro ws s2 ⟨zs, H2, I2, rz, l2, q2⟩
  refine ⟨I2.kIn, ?_⟩
  rw [hks]
  exact run_xv (us := []) M hr I2 rz (.inr ⟨rfl, h1, rz.length.symm.trans l2, h2⟩) (by decide) q2
theorem xv0 (q : PySem.W.excIn X.K C [.type "ValueError", .type "Exception", .type "BaseException", .type "object"] "ValueError.__new__" = true) (gC : X.mg x = some (.ref C)) (kC : PySem.W.keepIn X.K (.ref C) = true) (hg : Gl X x := by rfl) (hdb : (x == ("__debug__" : Str)) = false := by decide) :
    PE X (.Call (.Name x p) [] [] pos) (tXv0 C) := by
  constructor
  intro pins s σ H Q I h
  apply wpAny_Call_Name_kw (ld_glob I hg gC ?_ hdb)
  apply PySem.W.callWith_K0 I.kIn kC
  obtain ⟨bm, N, nm, qn, bs, hdct, sn, sub, ab, col, dd, k0, k1, k2, k3, k5, mN, hC, hN, hni, T⟩ := exc_obj I.kIn q
  show wpAny _ _ (call (.ref C) []) _ _ _
  refine wpAny_call_exc_subT F.excBase_ValueError T hC hN hni (fun h' a hm => ?_) (by decide)
  have hn : H a = none := I.hok.gone hm.new
  obtain ⟨t, ht, _, _⟩ := hm.there
  exact ⟨.ref a, upd H a (exk a (.ref C) none), I.laidN hm.keeps hm.new hn (exk_ok ht ⟨rfl, rfl⟩ rfl), rfl, h a _ hn (fun b o e => upd_old hn e) (.inr (.inl ⟨rfl, upd_same⟩))⟩
end
section
variable {σ : L2.St} {H : Hp} {Q : VK} {K : PySem.W.Frag}
theorem y_xv {C : Addr} {g : List V → List (Str × V)} {n : Nat} {ta : TA} (h : ta σ H fun vs H1 => vs.length = n ∧ NewX C (g vs) H1 Q) : tXv C g n ta σ H Q := h
theorem y_xv0 {C : Addr} (h : NewX C [] H Q) : tXv0 C σ H Q := h
theorem y_bm {T : String} {r : V → List V → Hp → VK → Prop} {to : TE} {t : TA} (h : to σ H fun x H1 => tyV K T x H1 ∧ t σ H1 fun xs H2 => r x xs H2 Q) : tBM K T r to t σ H Q := h
theorem y_tyL {p : Addr} {xs : List V} {A : Prop} (hp : H p = some (.lst xs)) (h : A) : tyV K "list" (.ref p) H ∧ A := ⟨.inl ⟨rfl, xs, SqL.of hp⟩, h⟩
theorem y_app {l : Addr} {xs : List V} {y : V} (hp : H l = some (.lst xs)) (hz : xs.length ≤ 1000) (h : Q .non (upd H l (.lst (xs ++ [y])))) : rAppend (.ref l) [y] H Q := ⟨l, xs, y, rfl, rfl, hp, Nat.lt_of_le_of_lt hz (by decide), h⟩
theorem y_cat {l b : Addr} {xs zs : List V} (h1 : H l = some (.lst xs)) (h2 : H b = some (.lst zs)) (hz : xs.length + zs.length ≤ 1000) (h : ∀ p, H p = none → Q (.ref p) (upd H p (.lst (xs ++ zs)))) : rCat (.ref l) (.ref b) H Q := ⟨l, b, xs, zs, rfl, rfl, h1, h2, Nat.le_trans hz (by decide), h⟩
theorem y_slL {a : Addr} {xs : List V} {lo hi : Option Int} (h1 : H a = some (.lst xs)) (h : ∀ p, H p = none → Q (.ref p) (upd H p (.lst (cutV xs lo hi)))) : rSlL K (.ref a) lo hi H Q := ⟨a, xs, rfl, SqL.of h1, h⟩
theorem y_in {x : V} {p : Addr} {xs : List V} {neg : Bool} (hp : H p = some (.tup xs)) (fx : flatV x = true) (fs : xs.all flatV = true) (h : Q (.bl (if neg then !inV x xs else inV x xs)) H) : rIn K neg x (.ref p) H Q := ⟨p, xs, rfl, .inr (SqT.of hp), fx, fs, h⟩
theorem ExAt.same {H' : Hp} {a C : Addr} {fs : List (Str × V)} (s : Same H H') (h : ExAt H a C fs) : ExAt H' a C fs := by
  rcases h with ⟨d, h1, h2⟩ | ⟨h0, h1⟩ | ⟨d, h1, h2⟩
  · exact .inl ⟨d, s _ _ h1, s _ _ h2⟩
  · exact .inr (.inl ⟨h0, s _ _ h1⟩)
  · exact .inr (.inr ⟨d, s _ _ h1, s _ _ h2⟩)
theorem ExAt.new {a C p : Addr} {o : HO} {fs : List (Str × V)} (n : H p = none) (h : ExAt H a C fs) : ExAt (upd H p o) a C fs := h.same fun b o e => upd_old n e
theorem ExAt.lst {a C l : Addr} {o : HO} {xs : List V} {fs : List (Str × V)} (hl : H l = some (.lst xs)) (h : ExAt H a C fs) : ExAt (upd H l o) a C fs := by
  have ne : ∀ {b : Addr} {φ : Heap → Prop}, H b = some (.ext φ) → b ≠ l := fun {b φ} e z => by
    rw [z, hl] at e; cases e
  have ne2 : ∀ {b : Addr} {gs : List (Str × V)}, H b = some (.xd gs) → b ≠ l := fun {b gs} e z => by
    rw [z, hl] at e; cases e
  rcases h with ⟨d, h1, h2⟩ | ⟨h0, h1⟩ | ⟨d, h1, h2⟩
  · exact .inl ⟨d, upd_oth (ne h1) h1, upd_oth (ne2 h2) h2⟩
  · exact .inr (.inl ⟨h0, upd_oth (ne h1) h1⟩)
  · exact .inr (.inr ⟨d, upd_oth (ne h1) h1, upd_oth (ne h2) h2⟩)
theorem same_new {p : Addr} {o : HO} {H0 : Hp} (s : Same H0 H) (n : H p = none) : Same H0 (upd H p o) := fun b u e => upd_old n (s b u e)
end
def rReprE : List V → Hp → VK → Prop := fun xs H Q => ∃ p, rRepr p xs H Q
theorem c_reprE {X : Cx} {k : Nat} (gd : X.A.guards = some []) (hr : Room k X.A) (sm : ∃ o, X.K.lookup sysModules = some o) : CallR X (.builtin "repr") rReprE := by
  intro pins s σ H xs us Q I r h
  obtain ⟨p, h⟩ := h
  exact c_repr (p := p) gd hr sm pins s σ H xs us Q I r h
theorem same0 {H : Hp} : Same H H := fun _ _ e => e
theorem y_chI {σ : L2.St} {H : Hp} {Q : VK} {i : Nat} {a b c : Int} (hv : σ[i]? = some (some (.int b))) (h : Q (.bl (decide (a ≤ b ∧ b < c))) H) :
    tChain (rI0 fun i j => .bl (decide (i ≤ j))) (rI0 fun i j => .bl (decide (i < j))) (tC (.int a)) (tVar i) (tC (.int c)) σ H Q := by
  refine ⟨_, hv, a, b, rfl, rfl, _, rfl, ?_⟩
  by_cases h1 : a ≤ b
  · rw [decide_eq_true h1]
    refine iteT ⟨b, c, rfl, rfl, ?_⟩
    have e : decide (b < c) = decide (a ≤ b ∧ b < c) := decide_eq_decide.mpr ⟨fun z => ⟨h1, z⟩, fun z => z.2⟩
    show Q (.bl (decide (b < c))) H
    rw [e]; exact h
  · rw [decide_eq_false h1]
    refine iteF ?_
    have e : decide (a ≤ b ∧ b < c) = false := decide_eq_false fun z => h1 z.1
    rw [e] at h; exact h
section
variable {σ : L2.St} {H H' : Hp} {Q : VK} {K : PySem.W.Frag}
def NewL (xs : List V) (H : Hp) (Q : VK) : Prop := xs.length ≤ sizeLine ∧ ∀ p, H p = none → Q (.ref p) (upd H p (.lst xs))
def NewT (xs : List V) (H : Hp) (Q : VK) : Prop := xs.length ≤ sizeLine ∧ ∀ p, H p = none → Q (.ref p) (upd H p (.tup xs))
theorem z_lst {tA : TA} (h : tA σ H fun xs H1 => NewL xs H1 Q) : tLst tA σ H Q := h
theorem z_tup {tA : TA} (h : tA σ H fun xs H1 => NewT xs H1 Q) : tTup tA σ H Q := h
theorem z_newL {xs : List V} (hl : xs.length ≤ 1000) (h : ∀ p H', H p = none → Same H H' → H' p = some (.lst xs) → Q (.ref p) H') : NewL xs H Q := ⟨Nat.le_trans hl (by decide), fun p n => h p _ n (fun b o e => upd_old n e) upd_same⟩
theorem z_newT {xs : List V} (hl : xs.length ≤ 1000) (h : ∀ p H', H p = none → Same H H' → H' p = some (.tup xs) → Q (.ref p) H') : NewT xs H Q := ⟨Nat.le_trans hl (by decide), fun p n => h p _ n (fun b o e => upd_old n e) upd_same⟩
theorem z_cat {l b : Addr} {xs zs : List V} (h1 : H l = some (.lst xs)) (h2 : H b = some (.lst zs)) (hz : xs.length + zs.length ≤ 1000) (h : ∀ p H', H p = none → Same H H' → H' p = some (.lst (xs ++ zs)) → Q (.ref p) H') : rCat (.ref l) (.ref b) H Q :=
  y_cat h1 h2 hz fun p n => h p _ n (fun b o e => upd_old n e) upd_same
theorem z_slL {a : Addr} {xs : List V} {lo hi : Option Int} (h1 : H a = some (.lst xs)) (h : ∀ p H', H p = none → Same H H' → H' p = some (.lst (cutV xs lo hi)) → Q (.ref p) H') : rSlL K (.ref a) lo hi H Q :=
  y_slL h1 fun p n => h p _ n (fun b o e => upd_old n e) upd_same
theorem z_slT {a : Addr} {xs : List V} {lo hi : Option Int} (h1 : H a = some (.tup xs)) (h2 : ¬ (HT.sIx xs.length 0 lo = 0 ∧ HT.sIx xs.length xs.length hi = xs.length)) (h : ∀ p H', H p = none → Same H H' → H' p = some (.tup (cutV xs lo hi)) → Q (.ref p) H') : rSlT K (.ref a) lo hi H Q :=
  ⟨a, xs, rfl, SqT.of h1, h2, fun p n => h p _ n (fun b o e => upd_old n e) upd_same⟩
theorem sat {a : Addr} {o : HO} (s : Same H H') (h : H a = some o) : H' a = some o := s a o h
theorem sfree {a : Addr} (s : Same H H') (h : H' a = none) : H a = none := s.free h
end
theorem y_pp {tk tv : TE} {r : List (TE × TE)} {σ : L2.St} {H : Hp} {Q : List (V × V) → Hp → Prop} (h : tk σ H fun x H1 => tv σ H1 fun y H2 => tPairs r σ H2 fun ps H3 => Q ((x, y) :: ps) H3) : tPairs ((tk, tv) :: r) σ H Q := h
theorem y_pp0 {σ : L2.St} {H : Hp} {Q : List (V × V) → Hp → Prop} (h : Q [] H) : tPairs [] σ H Q := h
theorem Kp.same {p : Addr} {H H1 H2 : Hp} (a : Kp p H H1) (b : Same H1 H2) : Kp p H H2 := a.trans (Kp.of b)
end OZ
set_option maxRecDepth 100000
namespace OZ
open PySem PySem.Spec PyProof.Rows L2
section
variable {σ : L2.St} {H : Hp} {D : Ends} {K : PySem.W.Frag} {wi : TI} {g : TG} {tb : TS} {tl : TE} {ta : TA} {R : It → Hp → Prop}
def ForB (J : It) (g : TG) (tb : TS) (D : Ends) (σ : L2.St) (H1 : Hp) : Prop := ∃ W : Nat → Nat → L2.St → Hp → Prop, (∃ m, W 0 m σ H1) ∧ ∀ i m σ H, W i m σ H →
  (J.stop i H ∧ D.nx σ H) ∨ (J.go i H ∧ ∃ N : L2.St → Hp → Prop, (∀ σ' H', N σ' H' → ∃ m', m' < m ∧ W (i + 1) m' σ' H') ∧ ∀ x H', J.yld i H x H' → g x σ H' fun σ2 H2 => tb { D with nx := N, ct := N, bk := D.nx } σ2 H2)
theorem y_for (h : wi σ H fun J H1 => ForB J g tb D σ H1) : tFor wi g tb D σ H := h
theorem y_iList (h : tl σ H fun x H1 => ∃ a, x = .ref a ∧ (∃ xs, SqL K H1 a xs) ∧ R (Itl K a) H1) : iList K tl σ H R := h
theorem y_iTup (h : tl σ H fun x H1 => ∃ a, x = .ref a ∧ (∃ xs, SqT K H1 a xs) ∧ R (Itt K a) H1) : iTup K tl σ H R := h
theorem y_iEnum (h : ta σ H fun vs H1 => ∃ a xs, vs = [.ref a] ∧ SqL K H1 a xs ∧ R (Ite K a) H1) : iEnum K ta σ H R := h
theorem y_itL {a : Addr} {xs : List V} (hp : H a = some (.lst xs)) (h : ForB (Itl K a) g tb D σ H) : ∃ a', V.ref a = .ref a' ∧ (∃ xs, SqL K H a' xs) ∧ ForB (Itl K a') g tb D σ H := ⟨a, rfl, ⟨xs, SqL.of hp⟩, h⟩
theorem y_itT {a : Addr} {xs : List V} (hp : H a = some (.tup xs)) (h : ForB (Itt K a) g tb D σ H) : ∃ a', V.ref a = .ref a' ∧ (∃ xs, SqT K H a' xs) ∧ ForB (Itt K a') g tb D σ H := ⟨a, rfl, ⟨xs, SqT.of hp⟩, h⟩
theorem y_itE {a : Addr} {xs : List V} (hp : H a = some (.lst xs)) (h : ForB (Ite K a) g tb D σ H) : ∃ a' xs, [V.ref a] = [.ref a'] ∧ SqL K H a' xs ∧ ForB (Ite K a') g tb D σ H := ⟨a, xs, rfl, SqL.of hp, h⟩
theorem f_enum {a : Addr} {xs : List V} (Pv : Nat → L2.St → Hp → Prop) (h0 : Pv 0 σ H) (hl : ∀ i σ H, i ≤ xs.length → Pv i σ H → H a = some (.lst xs))
    (hs : ∀ i x σ H q H', xs[i]? = some x → Pv i σ H → H q = none → Same H H' → H' q = some (.tup [.int (i : Nat), x]) → g (.ref q) σ H' fun σ2 H2 => tb { D with nx := Pv (i + 1), ct := Pv (i + 1), bk := D.nx } σ2 H2) (hd : ∀ σ H, Pv xs.length σ H → D.nx σ H) : ForB (Ite K a) g tb D σ H := by
  refine for_it walk_enum Pv h0 (fun i σ H hi p => SqL.of (hl i σ H hi p)) (fun i x σ H H' hi p y => ?_) hd
  obtain ⟨q, u, v, rfl, n, rfl, e1, e2⟩ := y
  cases e1
  exact hs i v σ H q _ e2 p n (fun b o e => upd_old n e) upd_same
theorem f_tup {a : Addr} {xs : List V} (Pv : Nat → L2.St → Hp → Prop) (h0 : Pv 0 σ H) (hl : ∀ i σ H, i ≤ xs.length → Pv i σ H → H a = some (.tup xs))
    (hs : ∀ i x σ H, xs[i]? = some x → Pv i σ H → g x σ H fun σ2 H2 => tb { D with nx := Pv (i + 1), ct := Pv (i + 1), bk := D.nx } σ2 H2) (hd : ∀ σ H, Pv xs.length σ H → D.nx σ H) : ForB (Itt K a) g tb D σ H :=
  for_tup Pv h0 (fun i σ H hi p => SqT.of (hl i σ H hi p)) hs hd
theorem f_list {a : Addr} {xs : List V} (Pv : Nat → L2.St → Hp → Prop) (h0 : Pv 0 σ H) (hl : ∀ i σ H, i ≤ xs.length → Pv i σ H → H a = some (.lst xs))
    (hs : ∀ i x σ H, xs[i]? = some x → Pv i σ H → g x σ H fun σ2 H2 => tb { D with nx := Pv (i + 1), ct := Pv (i + 1), bk := D.nx } σ2 H2) (hd : ∀ σ H, Pv xs.length σ H → D.nx σ H) : ForB (Itl K a) g tb D σ H :=
  for_list Pv h0 (fun i σ H hi p => SqL.of (hl i σ H hi p)) hs hd
end
theorem Dq.same {p : Addr} {H H' : Hp} {v : V} {d : PyData} (h : Dq p H v d) (s : Same H H') : Dq p H' v d := h.kp (Kp.of s)
theorem y_m0 {r : V → List V → Hp → VK → Prop} {to : TE} {σ : L2.St} {H : Hp} {Q : VK} (h : to σ H fun x H1 => (∃ a, x = .str a) ∧ r x [] H1 Q) : tM0 r to σ H Q := h
end OZ
set_option maxRecDepth 100000
namespace OZ
open PySem PySem.Spec PyProof.Rows L2
theorem kbS {K : PySem.W.Frag} {x qual : Str} {params : Arguments} {body : List Stmt} {scope : Scope} {f : Addr} {fd : FuncData} {ps ks : List Str} {pw : List Value → List Value} (F : FunD K x qual params body scope [] [] f fd)
    (h : ∀ (kV doc pm : Value) (an : Option Addr) (cdv ct : Value) (a : Value) (ws : List Value), ws.length = ks.length → bindArgs (PySem.W.fnOf x qual params body scope .none kV doc pm an cdv ct) ⟨[a], ks.zip ws⟩ = pure (ps.zip (a :: pw ws))) (s : Shared) (a : Value) (ws : List Value) (hw : ws.length = ks.length) :
    BindsTo s fd ⟨[a], ks.zip ws⟩ (ps.zip (a :: pw ws)) := by
  obtain ⟨oc, od, dV, kV, doc, pm, an, cdv, ct, osl, rfl, lk, hcd, hD, hK⟩ := F.ex
  rcases hD with ⟨_, rfl⟩ | ⟨z, _⟩
  · exact .of_eq (h kV doc pm an cdv ct a ws hw)
  · exact absurd rfl z
def sw2 {α : Type} : List α → List α
  | [a, b] => [b, a]
  | l => l
theorem sw2_vals {vs : List V} {us : List Value} (h : Vals vs us) : Vals (sw2 vs) (sw2 us) := by
  cases h with
  | nil => exact .nil
  | cons r1 t =>
    cases t with
    | nil => exact .cons r1 .nil
    | cons r2 t2 =>
      cases t2 with
      | nil => exact .cons r2 (.cons r1 .nil)
      | cons r3 t3 => exact .cons r1 (.cons r2 (.cons r3 t3))
section
variable {P : Program} {w : World} {K : PySem.W.Frag} {mg : Str → Option Value} {base : Heap} {x f g : Str} {C fI : Addr} {fd : FuncData}
theorem spX1_use {v : V} {H : Hp} {a : Addr} {Q : VK} {E : XK} (hn : H a = none) (h : ∀ H', Same H H' → ExAt H' a C [(f, v)] → Q .non H') : spX1 f C [.ref a, v] (upd H a (exo a C none)) Q E := by
  refine ⟨a, v, rfl, upd_same, fun dx h1 h2 => h _ (fun b o e => ?_) (.inr (.inr ⟨dx, upd_same, ?_⟩))⟩
  · rw [upd_ne (ne_of_none e hn)]
    exact upd_old h1 (upd_old hn e)
  · rw [upd_ne h2, upd_same]
theorem spX2_use {v u : V} {H : Hp} {a : Addr} {Q : VK} {E : XK} (hn : H a = none) (h : ∀ H', Same H H' → ExAt H' a C [(g, u), (f, v)] → Q .non H') : spX2 f g C [.ref a, v, u] (upd H a (exo a C none)) Q E := by
  refine ⟨a, v, u, rfl, upd_same, fun dx h1 h2 => h _ (fun b o e => ?_) (.inr (.inr ⟨dx, ?_, upd_same⟩))⟩
  · have nd : b ≠ dx := ne_of_none e (free_upd h1)
    rw [upd_ne nd, upd_ne (ne_of_none e hn)]
    exact upd_old h1 (upd_old hn e)
  · rw [upd_ne (Ne.symm h2), upd_same]
theorem Xv.one (nm : mg x = some (.ref C)) (xc : XC K C) (iC : PySem.W.findIn K (.ref C) "__init__" = some (some (.ref fI))) (tI : PySem.W.typeIn K (.ref fI) = some (.type "function")) (G : FnOk P w K mg base (L2.CX P w) 1 fI fd ["self", f] (spX1 f C)) (hb : Binds K fd ["self", f] [])
    (kb : ∀ (s : Shared) (a : Value) (ws : List Value), ws.length = 1 → BindsTo s fd ⟨[a], [f].zip ws⟩ ((["self", f] : List Str).zip (a :: ws))) : Xv P w K mg base x C 1 [] (fun vs => [(f, vs.headD .non)]) ∧ Xv P w K mg base x C 1 [f] (fun vs => [(f, vs.headD .non)]) := by
  refine ⟨⟨nm, xc, fI, fd, _, _, fun l => l, fun l => l, iC, tI, G, fun s a us ws kin h => ?_, fun _ _ r => r, fun vs H a Q hl hn h => ?_⟩, ⟨nm, xc, fI, fd, _, _, fun l => l, fun l => l, iC, tI, G, fun s a us ws kin h => ?_, fun _ _ r => r, fun vs H a Q hl hn h => ?_⟩⟩
  · rcases h with ⟨h1, _, rfl⟩ | ⟨_, h2, _⟩
    · have b := hb s (a :: us) kin (by rw [List.append_nil]; simp [h1])
      exact b
    · exact absurd rfl h2
  · match vs, hl with
    | [v], _ => exact spX1_use hn h
  · rcases h with ⟨_, h2, _⟩ | ⟨rfl, _, h3, _⟩
    · cases h2
    · exact kb s a ws h3
  · match vs, hl with
    | [v], _ => exact spX1_use hn h
theorem Xv.two (nm : mg x = some (.ref C)) (xc : XC K C) (iC : PySem.W.findIn K (.ref C) "__init__" = some (some (.ref fI))) (tI : PySem.W.typeIn K (.ref fI) = some (.type "function")) (G : FnOk P w K mg base (L2.CX P w) 1 fI fd ["self", f, g] (spX2 f g C)) (hb : Binds K fd ["self", f, g] [])
    (kb : ∀ (s : Shared) (a : Value) (ws : List Value), ws.length = 2 → BindsTo s fd ⟨[a], [g, f].zip ws⟩ ((["self", f, g] : List Str).zip (a :: sw2 ws))) :
    Xv P w K mg base x C 2 [] (fun vs => [(g, vs.getD 1 .non), (f, vs.headD .non)]) ∧ Xv P w K mg base x C 2 [g, f] (fun vs => [(g, vs.headD .non), (f, vs.getD 1 .non)]) := by
  refine ⟨⟨nm, xc, fI, fd, _, _, fun l => l, fun l => l, iC, tI, G, fun s a us ws kin h => ?_, fun _ _ r => r, fun vs H a Q hl hn h => ?_⟩, ⟨nm, xc, fI, fd, _, _, sw2, sw2, iC, tI, G, fun s a us ws kin h => ?_, fun _ _ r => sw2_vals r, fun vs H a Q hl hn h => ?_⟩⟩
  · rcases h with ⟨h1, _, rfl⟩ | ⟨_, h2, _⟩
    · have b := hb s (a :: us) kin (by rw [List.append_nil]; simp [h1])
      exact b
    · exact absurd rfl h2
  · match vs, hl with
    | [v, u], _ => exact spX2_use hn h
  · rcases h with ⟨_, h2, _⟩ | ⟨rfl, _, h3, _⟩
    · cases h2
    · exact kb s a ws h3
  · match vs, hl with
    | [v, u], _ => exact spX2_use hn h
end
end OZ
set_option maxRecDepth 100000
namespace LW
open PySem PySem.Spec PyProof.Rows L2 OZ
def topS (i : Nat) : Stmt := PySem.Challenge.pw_ownzeros_k01_errors_kept.main.body.getD i (.Pass ⟨0, 0, 0, 0⟩)
abbrev FnP (K : PySem.W.Frag) (x : Str) (st : Stmt) (f : Addr) (fd : FuncData) : Prop := FunD K x x (defArgs st) (defBody st) (defScope st) [] [] f fd
structure TopP (K : PySem.W.Frag) (mg : Str → Option Value) : Prop where
  n_len : mg "len" = none
  n_int : mg "int" = none
  n_abs : mg "abs" = none
  n_list : mg "list" = none
local macro_rules | `(tactic| walk_at "ex") => `(tactic| first
  | assumption
  | (refine ExAt.new ?_ ?_; assumption; walk_at "ex"))
local macro_rules | `(tactic| walk_at "same") => `(tactic| first
  | assumption
  | exact same0
  | (refine same_new ?_ ?_; walk_at "same"; assumption))
local macro_rules | `(tactic| walk_at "free") => `(tactic| first
  | assumption
  | exact free_upd (by walk_at "free"))
local macro_rules | `(tactic| walk_at "hp") => `(tactic| first
  | assumption
  | exact upd_same
  | (refine upd_old ?_ ?_; (first | assumption | exact free_upd (by assumption)); walk_at "hp")
  | (refine upd_oth ?_ ?_; (first | assumption | exact Ne.symm (by assumption)); walk_at "hp"))
local macro_rules | `(tactic| walk_at "side") => `(tactic| first
  | assumption
  | decide
  | omega
  | exact ⟨by omega, by omega, by omega⟩
  | exact Or.inl ⟨by omega, by omega⟩
  | exact Or.inr ⟨by omega, by omega⟩
  | (show (_ : Int) ≠ 0; omega)
  | exact wide_div (b := 64) (by omega) (by omega) (by decide) (by decide)
  | exact wide_div (b := 4000) (by assumption) (by assumption) (by decide) (by decide))
local macro_rules | `(tactic| walk_at "y") => `(tactic| first
  | ((with_reducible refine y_var ?_); refine ⟨_, rfl, ?_⟩)
  | with_reducible refine y_c ?_
  | with_reducible refine y_op ?_
  | with_reducible refine y_cb ?_
  | with_reducible refine y_cons ?_
  | with_reducible refine y_nil ?_
  | with_reducible refine y_seq ?_
  | with_reducible refine y_asg ?_
  | with_reducible refine y_gn ?_
  | with_reducible refine y_gsub ?_
  | with_reducible refine y_ret ?_
  | with_reducible refine y_drop ?_
  | with_reducible refine y_next ?_
  | with_reducible refine y_ifS ?_
  | with_reducible refine y_test ?_
  | with_reducible refine y_B ?_
  | with_reducible refine y_ex ?_
  | with_reducible refine y_not ?_
  | with_reducible refine y_and ?_
  | with_reducible refine y_or ?_
  | with_reducible refine y_notV ?_
  | with_reducible refine y_andV ?_
  | with_reducible refine y_orV ?_
  | with_reducible refine y_ifE ?_
  | with_reducible refine y_un ?_
  | with_reducible refine y_par ?_
  | with_reducible refine y_ex2 ?_
  | with_reducible refine y_call ?_
  | with_reducible refine y_callS ?_
  | with_reducible refine y_I0 ?_
  | ((with_reducible refine y_I ?_ ?_); (walk_at "side"))
  | with_reducible refine y_U ?_
  | ((with_reducible refine y_eq ?_ ?_); (exact rfl))
  | ((with_reducible refine y_ne ?_ ?_); (exact rfl))
  | ((with_reducible refine' y_ixL ?k1 ?k2 ?k3); (case k1 => walk_at "hp"); (case k2 => exact rfl))
  | ((with_reducible refine' y_ixT ?k1 ?k2 ?k3); (case k1 => walk_at "hp"); (case k2 => exact rfl))
  | ((with_reducible refine' y_setL ?k1 ?k2 ?k3); (case k1 => walk_at "hp"); (case k2 => exact rfl))
  | with_reducible refine y_int ?_
  | with_reducible refine y_intB ?_
  | with_reducible refine y_abs ?_
  | ((with_reducible refine' y_lenL ?k1 ?k3); (case k1 => walk_at "hp"))
  | ((with_reducible refine' y_lenT ?k1 ?k3); (case k1 => walk_at "hp"))
  | ((with_reducible refine y_lenS ?_ ?_); (walk_at "side"))
  | with_reducible refine y_isN ?_
  | with_reducible refine y_notN ?_
  | ((with_reducible refine y_addS ?_ ?_); (walk_at "side"))
  | with_reducible refine y_inC ?_
  | with_reducible refine y_notInC ?_
  | with_reducible refine y_sl ?_
  | with_reducible refine y_part ?_
  | with_reducible refine y_nopart ?_
  | with_reducible refine y_exI ?_
  | ((with_reducible refine y_slS ?_ ?_); (walk_at "side"))
  | with_reducible refine y_lst ?_
  | with_reducible refine y_tup ?_
  | ((with_reducible refine' y_chI ?k1 ?k2); (case k1 => exact rfl))
  | with_reducible refine y_chain ?_
  | with_reducible refine y_yes ?_
  | with_reducible refine y_att ?_
  | ((with_reducible refine y_disp ?_ ?_); (exact Nat.le_of_ble_eq_true rfl); (intro pp hpp))
  | ((with_reducible refine' y_gtup ?k1 ?k2 ?k3); (case k1 => walk_at "hp"); (case k2 => exact rfl))
  | with_reducible refine y_gcons ?_
  | with_reducible refine y_gnil ?_
  | with_reducible refine y_mkO ?_
  | with_reducible refine y_callKw ?_
  | with_reducible refine y_xv ?_
  | with_reducible refine y_xv0 ?_
  | with_reducible refine y_bm ?_
  | ((with_reducible refine' y_tyL ?k1 ?k2); (case k1 => walk_at "hp"))
  | ((with_reducible refine' y_app ?k1 ?k2 ?k3); (case k1 => walk_at "hp"); (case k2 => (first | exact Nat.le_of_ble_eq_true rfl | walk_at "side")))
  | ((with_reducible refine' y_cat ?k1 ?k2 ?k3 ?k4); (case k1 => walk_at "hp"); (case k2 => walk_at "hp"); (case k3 => (first | exact Nat.le_of_ble_eq_true rfl | walk_at "side")); (intro pp hpp))
  | ((with_reducible refine' y_slL ?k1 ?k2); (case k1 => walk_at "hp"); (intro pp hpp))
  | ((with_reducible refine' y_in ?k1 ?k2 ?k3 ?k4); (case k1 => walk_at "hp"); (case k2 => exact rfl); (case k3 => exact rfl))
  | with_reducible refine y_iteT ?_
  | with_reducible refine y_iteF ?_
  | with_reducible refine y_iteNT ?_
  | with_reducible refine y_iteNF ?_
  | ((with_reducible refine y_iteY ?_ ?_); (first | exact rfl | assumption | omega))
  | ((with_reducible refine y_iteX ?_ ?_); (first | focus (intro zz; cases zz; done) | assumption | omega))
  | ((with_reducible refine y_iteNY ?_ ?_); (first | exact rfl | assumption | omega))
  | ((with_reducible refine y_iteNX ?_ ?_); (first | focus (intro zz; cases zz; done) | assumption | omega))
  | ((with_reducible refine y_ite ?_ ?_) <;> intro hh)
  | ((with_reducible refine y_iteN ?_ ?_) <;> intro hh)
  | dsimp only)
section
variable {P : Program} {w : World} {K : PySem.W.Frag} {mg : Str → Option Value} {base : Heap}
abbrev s_draw : Stmt := topS 30
theorem sc_draw : FnScope ["_law_pen_here", "_law_many", "_law_digit", "_law_begun", "_law_lone_here", "_law_great", "_law_mixed"] ["_law_pen_here", "_law_many"] (defScope s_draw) := ⟨rfl, rfl, rfl, by decide +kernel, rfl, by decide +kernel, by decide +kernel⟩
theorem ok_draw {f : Addr} {fd : FuncData} (F : FnP K "_law_draw" s_draw f fd) (T : TopP K mg) : FnOk P w K mg base (L2.CX P w) 1 f fd ["_law_pen_here", "_law_many"] spDraw := by
  have nd := sc_draw.nd
  refine F.ok sc_draw (fun vs H Q E h => ?_) (fun cdv A outer s H vs Q E hr h => ?_)
  · obtain ⟨p, c, n, m, rfl, _⟩ := h
    rfl
  · obtain ⟨p, c, n, m, rfl, ⟨ns, b, l, hp, hc, hb0, hbn, hl0⟩, hn, hm0, hm1, k⟩ := h
    have hu64 := hr.units
    refine ⟨_, PSs.nox (pss_cons (ps_if (pt_cmpR op_gt (pe_ix ix_list (pv 0) pe_int (fun _ _ => rfl)) pe_int (nomark _))
        (pss_cons (ps_set (i := 2) nd rfl (Or.inl rfl) (pe_op op_modN (pe_callTy c_int (by rfl) T.n_int (by decide +kernel) (pa_cons (pe_ix ix_list (pv 0) pe_int (fun _ _ => rfl)) pa_nil)) (pv 1)))
        (pss_cons (ps_asg (pe_op op_fdivW (pe_callTy c_int (by rfl) T.n_int (by decide +kernel) (pa_cons (pe_ix ix_list (pv 0) pe_int (fun _ _ => rfl)) pa_nil)) (pv 1)) (pg_sub (pv 0) pe_int set_list))
        (pss_one (ps_ret (pv 2)))))
        pss_nil)
      (pss_cons (ps_set (i := 3) nd rfl (Or.inl rfl) (pe_ix ix_list (pv 0) pe_int (fun _ _ => rfl)))
      (pss_cons (ps_asg (pe_op op_add (pv 3) pe_int) (pg_sub (pv 0) pe_int set_list))
      (pss_cons (ps_set (i := 4) nd rfl (Or.inl rfl) (pe_op op_add (pe_op op_mul pe_int (pv 3)) pe_int))
      (Evl.pss_cut (ps_if (pt_cmpR (op_neD hu64) (pe_ix ix_list (pv 0) pe_int (fun _ _ => rfl)) (pe_lst pa_nil) (nomark _))
        (pss_one (ps_set (i := 4) nd rfl (Or.inl rfl) (pe_ix ix_list (pe_ix ix_list (pv 0) pe_int (fun _ _ => rfl)) (pe_op op_modN (pe_callTy c_int (by rfl) T.n_int (by decide +kernel) (pa_cons (pv 3) pa_nil)) (pe_callB c_len (by rfl) T.n_len (by decide +kernel) (pa_cons (pe_ix ix_list (pv 0) pe_int (fun _ _ => rfl)) pa_nil))) (fun _ _ => rfl))))
        pss_nil)
      (pss_cons (ps_if (PW.pt (pw_and (pt_cmpR op_lt (pv 3) (pe_callB c_len (by rfl) T.n_len (by decide +kernel) (pa_cons (pe_ix ix_list (pv 0) pe_int (fun _ _ => rfl)) pa_nil)) (nomark _)) (pw_and1 (pt_cmpR op_ge (pe_callB c_abs (by rfl) T.n_abs (by decide +kernel) (pa_cons (pv 4) pa_nil)) (pe_op op_pow pe_int pe_int) (nomark _)))))
        (pss_cons (ps_set (i := 5) nd rfl (Or.inl rfl) (pe_op op_add (pe_op op_mul pe_int (pe_op op_sub (pe_callB c_abs (by rfl) T.n_abs (by decide +kernel) (pa_cons (pv 4) pa_nil)) (pe_op op_pow pe_int pe_int))) (pe_callTy c_int (by rfl) T.n_int (by decide +kernel) (pa_cons (pe_cmpR op_lt (pv 4) pe_int (nomark _)) pa_nil))))
        (pss_cons (ps_asg (pe_op op_fdivW (pe_callTy c_int (by rfl) T.n_int (by decide +kernel) (pa_cons (pv 5) pa_nil)) (pv 1)) (pg_sub (pv 0) pe_int set_list))
        (pss_one (ps_ret (pe_op op_modN (pe_callTy c_int (by rfl) T.n_int (by decide +kernel) (pa_cons (pv 5) pa_nil)) (pv 1))))))
        pss_nil)
      (pss_cons (ps_set (i := 6) nd rfl (Or.inl rfl) (pe_op op_modN (pe_callTy c_int (by rfl) T.n_int (by decide +kernel) (pa_cons (pe_op op_pow (pe_op op_add (pe_op op_add (pe_op op_modN (pe_callTy c_int (by rfl) T.n_int (by decide +kernel) (pa_cons (pv 4) pa_nil)) pe_int) (pe_op op_mul pe_int (pv 3))) pe_int) pe_int) pa_nil)) pe_int))
      (pss_cons (ps_set (i := 6) nd rfl (Or.inl rfl) (pe_op op_modN (pe_callTy c_int (by rfl) T.n_int (by decide +kernel) (pa_cons (pe_op op_pow (pe_op op_add (pe_op op_add (pe_op op_mul (pv 6) (pe_op op_add (pe_op op_mul pe_int (pv 3)) pe_int)) (pe_op op_mul (pe_op op_mul pe_int (pv 3)) (pv 3))) pe_int) pe_int) pa_nil)) pe_int))
      (pss_one (ps_ret (pe_op op_modN (pe_callTy c_int (by rfl) T.n_int (by decide +kernel) (pa_cons (pe_op op_fdivW (pv 6) pe_int) pa_nil)) (pv 1)))))))))))), ?_⟩
    have ncp : c ≠ p := ne_of hc hp (Ne.symm (lst_ne ns))
    have dv : ∀ a : Int, CDivW a m := fun a => wide_div hm0 hm1 (by decide) (by decide)
    repeat walk_at "y"
    · exact k _ _ (fmod_pos hm0).1 (fmod_pos hm0).2 ⟨ns, b, _, upd_same, upd_oth ncp hc, hb0, by omega, ediv_nn hm0 (by omega)⟩ Kp.set
    · repeat walk_at "y"
      refine ⟨fun σ' H' => ∃ z : Int, σ' = [some (.ref p), some (.int m), none, some (.int b), some (.int z), none, none] ∧ H' p = some (.lst [.ref c, .int (b + 1), .int l]) ∧ H' c = some (.lst (ns.map V.int)) ∧ Kp p H H', ?_, ?_⟩
      · repeat walk_at "y"
        rename_i q hq
        have hc1 : (upd H p (.lst [.ref c, .int (b + 1), .int l])) c = some (.lst (ns.map V.int)) := upd_oth ncp hc
        have kp2 : Kp p H (upd (upd H p (.lst [.ref c, .int (b + 1), .int l])) q (.lst [])) := Kp.set.trans (Kp.new hq)
        refine ⟨_, _, .lst (SqL.of (upd_old hq hc1)) (ints_dp ns), .lst (SqL.of upd_same) .nil, PySem.W.ke_shaped_ints ns, rfl, ?_⟩
        repeat walk_at "y"
        refine y_iteB (fun h1 => ?_) (fun h1 => ?_)
        · have hns : 0 < ns.length := by
            cases ns with
            | nil => exact absurd h1 (by decide)
            | cons a r => exact Nat.succ_pos _
          have hfm := fmod_pos (a := b) (m := (ns.length : Int)) (by omega)
          have hlt : (b.fmod (ns.length : Int)).toNat < ns.length := by omega
          have hp2 : (upd (upd H p (.lst [.ref c, .int (b + 1), .int l])) q (.lst [])) p = some (.lst [.ref c, .int (b + 1), .int l]) := upd_old hq upd_same
          have hc2 : (upd (upd H p (.lst [.ref c, .int (b + 1), .int l])) q (.lst [])) c = some (.lst (ns.map V.int)) := upd_old hq hc1
          repeat walk_at "y"
          refine y_I ?_ ?_
          · show ((ns.map V.int).length : Int) ≠ 0
            rw [List.length_map]; omega
          refine y_ixL (v := V.int (ns[(b.fmod (ns.length : Int)).toNat]'hlt)) hc2 (ix_lt (j := (b.fmod (ns.length : Int)).toNat) ?_ ?_) ?_
          · rw [List.getElem?_map, List.getElem?_eq_getElem hlt]; rfl
          · rw [List.length_map]; omega
          · exact ⟨_, rfl, hp2, hc2, kp2⟩
        · exact ⟨_, rfl, upd_old hq upd_same, upd_old hq hc1, kp2⟩
      · rintro σ' H1 ⟨z, rfl, hp1, hc1, kp1⟩
        have fin : ∀ (r : Int) (H' : Hp) (l' : Int), 0 ≤ r → r < m → 0 ≤ l' → H' p = some (.lst [.ref c, .int (b + 1), .int l']) → H' c = some (.lst (ns.map V.int)) → Kp p H H' → Q (.int r) H' := fun r H' l' h1 h2 h3 h4 h5 h6 =>
          k r H' h1 h2 ⟨ns, b + 1, l', h4, h5, by omega, by omega, h3⟩ h6
        have gre : ∀ z : Int, 10 ^ Int.toNat 18 ≤ (if z < 0 then -z else z) → 0 ≤ 2 * ((if z < 0 then -z else z) - 10 ^ Int.toNat 18) + (if decide (z < 0) = true then 1 else 0) := fun z h => by
          have : (0 : Int) ≤ (if decide (z < 0) = true then 1 else 0) := by split <;> decide
          omega
        repeat walk_at "y"
        · exact fin _ _ _ (fmod_pos hm0).1 (fmod_pos hm0).2 (ediv_nn hm0 (gre z ‹_›)) upd_same (upd_oth ncp hc1) (kp1.trans Kp.set)
        all_goals
          have q1 := fmod_pos (a := z) (m := 2147483563) (by decide)
          repeat walk_at "y"
          have q2 := fmod_pos (a := (z.fmod 2147483563 + 76072 * b + 616) ^ Int.toNat 5) (m := 2147483629) (by decide)
          generalize Int.fmod ((z.fmod 2147483563 + 76072 * b + 616) ^ _) 2147483629 = mx at *
          have q3 := mul_bd (x := mx) (y := 2 * b + 83) (A := 2147483648) (B := 2010000) q2.1 (by omega) (by omega) (by omega)
          have q4 := mul_bd (x := 57060 * b) (y := b) (A := 100000000000) (B := 1000001) (by omega) (by omega) (by omega) (by omega)
          repeat walk_at "y"
          exact fin _ _ _ (fmod_pos hm0).1 (fmod_pos hm0).2 hl0 hp1 hc1 kp1
def spPen (K : PySem.W.Frag) : Sp := fun vs H Q _ => ∃ (a : Addr) (ns : List Int), vs = [.ref a] ∧ SqL K H a (ns.map V.int) ∧ ns.length ≤ 63 ∧ ∀ p c H', Same H H' → H p = none → H c = none → PenAt H' p c 0 → Q (.ref p) H'
abbrev s_pen : Stmt := topS 29
theorem sc_pen : FnScope ["_law_script"] ["_law_script"] (defScope s_pen) := ⟨rfl, rfl, rfl, by decide +kernel, rfl, by decide +kernel, by decide +kernel⟩
theorem ok_pen {f : Addr} {fd : FuncData} (F : FnP K "_law_pen" s_pen f fd) (T : TopP K mg) : FnOk P w K mg base (L2.CX P w) 1 f fd ["_law_script"] (spPen K) := by
  have nd := sc_pen.nd
  refine F.ok sc_pen (fun vs H Q E h => ?_) (fun cdv A outer s H vs Q E hr h => ?_)
  · obtain ⟨a, ns, rfl, _⟩ := h
    rfl
  · obtain ⟨a, ns, rfl, hS, hl, k⟩ := h
    refine ⟨_, PSs.nox (pss_one (ps_ret (pe_lst (pa_cons (pe_callTy c_list (by rfl) T.n_list (by decide +kernel) (pa_cons (pe_slice sl_list (pv 0) po_none (po_some pe_int)) pa_nil)) (pa_cons pe_int (pa_cons pe_int pa_nil)))))), ?_⟩
    repeat walk_at "y"
    refine ⟨a, _, rfl, hS, fun q hq => ?_⟩
    repeat walk_at "y"
    refine ⟨q, _, rfl, .inl (SqL.of upd_same), fun c hc => ?_⟩
    repeat walk_at "y"
    rename_i p hp
    refine k p c _ (fun b o e => upd_old hp (upd_old hc (upd_old hq e))) (free_upd (free_upd hp)) (free_upd hc) ⟨(ns.take 63), 0, 0, upd_same, upd_old hp ?_, by decide, by decide, by decide⟩
    rw [upd_same]
    have e : cutV (ns.map V.int) none (some 63) = (ns.take 63).map V.int := by
      unfold cutV
      have h1 : HT.sIx (ns.map V.int).length 0 none = 0 := rfl
      have h2 : HT.sIx (ns.map V.int).length (ns.map V.int).length (some 63) = min 63 (ns.map V.int).length := HT.sIx_nat _ _ 63
      rw [h1, h2, List.drop_zero, List.map_take, Nat.sub_zero]
      rw [← List.take_take, List.take_length]
    rw [e]
def spPick : Sp := fun vs H Q _ => ∃ (p c : Addr) (n : Nat) (v : V), vs = [.ref p, v] ∧ PenAt H p c n ∧ n ≤ 1000000 ∧
  ((∃ (l : Addr) (xs : List V), v = .ref l ∧ l ≠ p ∧ H l = some (.lst xs) ∧ 0 < xs.length ∧ xs.length ≤ 1000 ∧ ∀ (i : Nat) x H', xs[i]? = some x → PenAt H' p c (n + 1) → Kp p H H' → Q x H') ∨
   ∃ z : Str, v = .str z ∧ 0 < z.length ∧ z.length ≤ 1000 ∧ ∀ (i : Nat) j H', z.cps.toList[i]? = some j → PenAt H' p c (n + 1) → Kp p H H' → Q (.str ⟨#[j]⟩) H')
abbrev s_pick : Stmt := topS 31
theorem sc_pick : FnScope ["_law_pen_here", "_law_some"] ["_law_pen_here", "_law_some"] (defScope s_pick) := ⟨rfl, rfl, rfl, by decide +kernel, rfl, by decide +kernel, by decide +kernel⟩
theorem ok_pick {f : Addr} {fd : FuncData} (F : FnP K "_law_pick" s_pick f fd) (T : TopP K mg) (F_law_draw : Fnc P w K mg base 1 "_law_draw" ["_law_pen_here", "_law_many"] spDraw) : FnOk P w K mg base (L2.CX P w) 2 f fd ["_law_pen_here", "_law_some"] spPick := by
  have nd := sc_pick.nd
  refine F.ok sc_pick (fun vs H Q E h => ?_) (fun cdv A outer s H vs Q E hr h => ?_)
  · obtain ⟨p, c, n, v, rfl, _⟩ := h
    rfl
  · obtain ⟨p, c, n, v, rfl, hP, hn, h⟩ := h
    refine ⟨_, PSs.nox (pss_one (ps_ret (pe_ix ix_seq (pv 1) (oc F_law_draw (hr.mono (by decide)) (pa_cons (pv 0) (pa_cons (pe_callB call_len (by rfl) T.n_len (by decide +kernel) (pa_cons (pv 1) pa_nil)) pa_nil))) (fun _ _ => rfl)))), ?_⟩
    rcases h with ⟨l, xs, rfl, nl, hl, h0, h1, k⟩ | ⟨z, rfl, h0, h1, k⟩
    · repeat walk_at "y"
      refine ⟨_, _, rfl, .inl ⟨xs, SqL.of hl, rfl⟩, ?_⟩
      repeat walk_at "y"
      refine ⟨p, c, n, _, rfl, hP, hn, by omega, ?_, fun r H1 r0 r1 P1 k1 => ?_⟩
      · exact Nat.lt_of_le_of_lt (show _ ≤ 1000 by omega) (by decide)
      · have hlt : r.toNat < xs.length := by omega
        exact .inl ⟨l, xs, r, xs[r.toNat]'hlt, rfl, rfl, SqL.of (k1 _ _ nl hl), ix_lt (j := r.toNat) (List.getElem?_eq_getElem hlt) (by omega), k r.toNat _ H1 (List.getElem?_eq_getElem hlt) P1 k1⟩
    · have hsz : z.length ≤ sizeLine := by rw [sizeLine_eq]; omega
      repeat walk_at "y"
      refine ⟨_, _, rfl, ⟨hsz, rfl⟩, ?_⟩
      repeat walk_at "y"
      refine ⟨p, c, n, _, rfl, hP, hn, by omega, ?_, fun r H1 r0 r1 P1 k1 => ?_⟩
      · exact Nat.lt_of_le_of_lt (show _ ≤ 1000 by omega) (by decide)
      · have hlen : z.cps.toList.length = z.length := by simp [Str.length]
        have hlt : r.toNat < z.cps.toList.length := by omega
        exact .inr (.inr ⟨z, r, z.cps.toList[r.toNat]'hlt, rfl, rfl, hsz, ix_ltN (j := r.toNat) (List.getElem?_eq_getElem hlt) (by omega), k r.toNat _ H1 (List.getElem?_eq_getElem hlt) P1 k1⟩)
end
end LW
set_option maxRecDepth 100000
namespace LW
open PySem PySem.Spec PyProof.Rows L2 OZ
local macro_rules | `(tactic| walk_at "ex") => `(tactic| first
  | assumption
  | (refine ExAt.same (by assumption) ?_; walk_at "ex"))
local macro_rules | `(tactic| walk_at "same") => `(tactic| first
  | assumption
  | exact same0
  | (refine Same.trans ?_ (by assumption); walk_at "same"))
local macro_rules | `(tactic| walk_at "free") => `(tactic| first
  | assumption
  | (refine sfree (by assumption) ?_; walk_at "free"))
local macro_rules | `(tactic| walk_at "hp") => `(tactic| first
  | assumption
  | exact upd_same
  | (refine sat (by assumption) ?_; walk_at "hp")
  | (refine upd_old ?_ ?_; (first | assumption | exact free_upd (by assumption)); walk_at "hp")
  | (refine upd_oth ?_ ?_; (first | assumption | exact Ne.symm (by assumption)); walk_at "hp"))
local macro_rules | `(tactic| walk_at "side") => `(tactic| first
  | assumption
  | decide
  | omega
  | exact ⟨by omega, by omega, by omega⟩
  | exact Or.inl ⟨by omega, by omega⟩
  | exact Or.inr ⟨by omega, by omega⟩
  | (show (_ : Int) ≠ 0; omega)
  | exact wide_div (b := 64) (by omega) (by omega) (by decide) (by decide)
  | exact wide_div (b := 4000) (by assumption) (by assumption) (by decide) (by decide))
local macro_rules | `(tactic| walk_at "y") => `(tactic| first
  | ((with_reducible refine y_var ?_); refine ⟨_, rfl, ?_⟩)
  | with_reducible refine y_c ?_
  | with_reducible refine y_op ?_
  | with_reducible refine y_cb ?_
  | with_reducible refine y_cons ?_
  | with_reducible refine y_nil ?_
  | with_reducible refine y_seq ?_
  | with_reducible refine y_asg ?_
  | with_reducible refine y_gn ?_
  | with_reducible refine y_gsub ?_
  | with_reducible refine y_ret ?_
  | with_reducible refine y_drop ?_
  | with_reducible refine y_next ?_
  | with_reducible refine y_ifS ?_
  | with_reducible refine y_test ?_
  | with_reducible refine y_B ?_
  | with_reducible refine y_ex ?_
  | with_reducible refine y_not ?_
  | with_reducible refine y_and ?_
  | with_reducible refine y_or ?_
  | with_reducible refine y_notV ?_
  | with_reducible refine y_andV ?_
  | with_reducible refine y_orV ?_
  | with_reducible refine y_ifE ?_
  | with_reducible refine y_un ?_
  | with_reducible refine y_par ?_
  | with_reducible refine y_ex2 ?_
  | with_reducible refine y_call ?_
  | with_reducible refine y_callS ?_
  | with_reducible refine y_I0 ?_
  | ((with_reducible refine y_I ?_ ?_); (walk_at "side"))
  | with_reducible refine y_U ?_
  | ((with_reducible refine y_eq ?_ ?_); (exact rfl))
  | ((with_reducible refine y_ne ?_ ?_); (exact rfl))
  | ((with_reducible refine' y_ixL ?k1 ?k2 ?k3); (case k1 => walk_at "hp"); (case k2 => exact rfl))
  | ((with_reducible refine' y_ixT ?k1 ?k2 ?k3); (case k1 => walk_at "hp"); (case k2 => exact rfl))
  | ((with_reducible refine' y_setL ?k1 ?k2 ?k3); (case k1 => walk_at "hp"); (case k2 => exact rfl))
  | with_reducible refine y_int ?_
  | with_reducible refine y_intB ?_
  | with_reducible refine y_abs ?_
  | ((with_reducible refine' y_lenL ?k1 ?k3); (case k1 => walk_at "hp"))
  | ((with_reducible refine' y_lenT ?k1 ?k3); (case k1 => walk_at "hp"))
  | ((with_reducible refine y_lenS ?_ ?_); (walk_at "side"))
  | with_reducible refine y_isN ?_
  | with_reducible refine y_notN ?_
  | ((with_reducible refine y_addS ?_ ?_); (walk_at "side"))
  | with_reducible refine y_inC ?_
  | with_reducible refine y_notInC ?_
  | with_reducible refine y_sl ?_
  | with_reducible refine y_part ?_
  | with_reducible refine y_nopart ?_
  | with_reducible refine y_exI ?_
  | ((with_reducible refine y_slS ?_ ?_); (walk_at "side"))
  | with_reducible refine z_lst ?_
  | with_reducible refine z_tup ?_
  | ((with_reducible refine z_newL ?_ ?_); (exact Nat.le_of_ble_eq_true rfl); (intro pp HH npp spp opp))
  | ((with_reducible refine z_newT ?_ ?_); (exact Nat.le_of_ble_eq_true rfl); (intro pp HH npp spp opp))
  | ((with_reducible refine' y_chI ?k1 ?k2); (case k1 => exact rfl))
  | with_reducible refine y_chain ?_
  | with_reducible refine y_yes ?_
  | with_reducible refine y_att ?_
  | ((with_reducible refine y_disp ?_ ?_); (exact Nat.le_of_ble_eq_true rfl); (intro pp hpp))
  | ((with_reducible refine' y_gtup ?k1 ?k2 ?k3); (case k1 => walk_at "hp"); (case k2 => exact rfl))
  | with_reducible refine y_gcons ?_
  | with_reducible refine y_gnil ?_
  | with_reducible refine y_mkO ?_
  | with_reducible refine y_callKw ?_
  | with_reducible refine y_pp ?_
  | with_reducible refine y_pp0 ?_
  | with_reducible refine y_xv ?_
  | with_reducible refine y_xv0 ?_
  | with_reducible refine y_bm ?_
  | ((with_reducible refine' y_tyL ?k1 ?k2); (case k1 => walk_at "hp"))
  | ((with_reducible refine' y_app ?k1 ?k2 ?k3); (case k1 => walk_at "hp"); (case k2 => (first | exact Nat.le_of_ble_eq_true rfl | walk_at "side")))
  | ((with_reducible refine' z_cat ?k1 ?k2 ?k3 ?k4); (case k1 => walk_at "hp"); (case k2 => walk_at "hp"); (case k3 => (first | exact Nat.le_of_ble_eq_true rfl | walk_at "side")); (intro pp HH npp spp opp))
  | ((with_reducible refine' z_slL ?k1 ?k2); (case k1 => walk_at "hp"); (intro pp HH npp spp opp))
  | ((with_reducible refine' y_in ?k1 ?k2 ?k3 ?k4); (case k1 => walk_at "hp"); (case k2 => exact rfl); (case k3 => exact rfl))
  | with_reducible refine y_iteT ?_
  | with_reducible refine y_iteF ?_
  | with_reducible refine y_iteNT ?_
  | with_reducible refine y_iteNF ?_
  | ((with_reducible refine y_iteY ?_ ?_); (first | exact rfl | assumption | omega))
  | ((with_reducible refine y_iteX ?_ ?_); (first | focus (intro zz; cases zz; done) | assumption | omega))
  | ((with_reducible refine y_iteNY ?_ ?_); (first | exact rfl | assumption | omega))
  | ((with_reducible refine y_iteNX ?_ ?_); (first | focus (intro zz; cases zz; done) | assumption | omega))
  | ((with_reducible refine y_ite ?_ ?_) <;> intro hh)
  | ((with_reducible refine y_iteN ?_ ?_) <;> intro hh)
  | dsimp only)
section
variable {P : Program} {w : World} {K : PySem.W.Frag} {mg : Str → Option Value} {base : Heap}
def cls23 : List Str := ["BadName", "BadAmount", "BadGap", "BadTool", "BadMark", "BadBook", "BadWorld", "BadSaying", "BadPrice", "BadText", "BadLine", "NoThing", "NoTool", "NoMark", "Taken", "Unlike", "TooMany", "NoDivisor", "NoWorld", "NoRange", "NoDeed", "Barred", "Loose"]
def VE : List Value := [.type "ValueError", .type "Exception", .type "BaseException", .type "object"]
structure Top (K : PySem.W.Frag) (mg : Str → Option Value) : Prop extends TopP K mg where
  n_isinstance : mg "isinstance" = none
  n_repr : mg "repr" = none
  n_range : mg "range" = none
  n_enumerate : mg "enumerate" = none
  n_LookupError : mg "LookupError" = none
  n_AttributeError : mg "AttributeError" = none
  n_RuntimeError : mg "RuntimeError" = none
  n_TypeError : mg "TypeError" = none
  n_ArithmeticError : mg "ArithmeticError" = none
  n_ValueError : mg "ValueError" = none
  sm : ∃ o, K.lookup sysModules = some o
  g_OwnError : mg "OwnError" = some (.ref (He.ga K "OwnError"))
  g_BadInput : mg "BadInput" = some (.ref (He.ga K "BadInput"))
  g_Refused : mg "Refused" = some (.ref (He.ga K "Refused"))
  g_NoAnswer : mg "NoAnswer" = some (.ref (He.ga K "NoAnswer"))
  g_BadName : mg "BadName" = some (.ref (He.ga K "BadName"))
  g_BadAmount : mg "BadAmount" = some (.ref (He.ga K "BadAmount"))
  g_BadGap : mg "BadGap" = some (.ref (He.ga K "BadGap"))
  g_BadTool : mg "BadTool" = some (.ref (He.ga K "BadTool"))
  g_BadMark : mg "BadMark" = some (.ref (He.ga K "BadMark"))
  g_BadBook : mg "BadBook" = some (.ref (He.ga K "BadBook"))
  g_BadWorld : mg "BadWorld" = some (.ref (He.ga K "BadWorld"))
  g_BadSaying : mg "BadSaying" = some (.ref (He.ga K "BadSaying"))
  g_BadPrice : mg "BadPrice" = some (.ref (He.ga K "BadPrice"))
  g_BadText : mg "BadText" = some (.ref (He.ga K "BadText"))
  g_BadLine : mg "BadLine" = some (.ref (He.ga K "BadLine"))
  g_NoThing : mg "NoThing" = some (.ref (He.ga K "NoThing"))
  g_NoTool : mg "NoTool" = some (.ref (He.ga K "NoTool"))
  g_NoMark : mg "NoMark" = some (.ref (He.ga K "NoMark"))
  g_Taken : mg "Taken" = some (.ref (He.ga K "Taken"))
  g_Unlike : mg "Unlike" = some (.ref (He.ga K "Unlike"))
  g_TooMany : mg "TooMany" = some (.ref (He.ga K "TooMany"))
  g_NoDivisor : mg "NoDivisor" = some (.ref (He.ga K "NoDivisor"))
  g_NoWorld : mg "NoWorld" = some (.ref (He.ga K "NoWorld"))
  g_NoRange : mg "NoRange" = some (.ref (He.ga K "NoRange"))
  g_NoDeed : mg "NoDeed" = some (.ref (He.ga K "NoDeed"))
  g_Barred : mg "Barred" = some (.ref (He.ga K "Barred"))
  g_Loose : mg "Loose" = some (.ref (He.ga K "Loose"))
  q_NoDivisor : PySem.W.excIn K (He.ga K "NoDivisor") [.type "ValueError", .type "Exception", .type "BaseException", .type "object"] "ValueError.__new__" = true
  k_NoDivisor : PySem.W.keepIn K (.ref (He.ga K "NoDivisor")) = true
  q_NoWorld : PySem.W.excIn K (He.ga K "NoWorld") [.type "ValueError", .type "Exception", .type "BaseException", .type "object"] "ValueError.__new__" = true
  k_NoWorld : PySem.W.keepIn K (.ref (He.ga K "NoWorld")) = true
  q_NoRange : PySem.W.excIn K (He.ga K "NoRange") [.type "ValueError", .type "Exception", .type "BaseException", .type "object"] "ValueError.__new__" = true
  k_NoRange : PySem.W.keepIn K (.ref (He.ga K "NoRange")) = true
  q_NoDeed : PySem.W.excIn K (He.ga K "NoDeed") [.type "ValueError", .type "Exception", .type "BaseException", .type "object"] "ValueError.__new__" = true
  k_NoDeed : PySem.W.keepIn K (.ref (He.ga K "NoDeed")) = true
structure ErrC (K : PySem.W.Frag) (C : Addr) (i : Nat) : Prop where
  xc : XC K C
  k : ∀ j, j < 23 → PySem.W.kitOne K (.ref C) (.ref (He.ga K (cls23.getD j ""))) = some (decide (j = i))
  bi : PySem.W.kitOne K (.ref C) (.ref (He.ga K "BadInput")) = some (decide ((i : Int) < 11))
  re : PySem.W.kitOne K (.ref C) (.ref (He.ga K "Refused")) = some (decide ((11 : Int) ≤ (i : Int) ∧ (i : Int) < 17))
  na : PySem.W.kitOne K (.ref C) (.ref (He.ga K "NoAnswer")) = some (decide ((17 : Int) ≤ (i : Int) ∧ (i : Int) < 21))
  ow : PySem.W.kitOne K (.ref C) (.ref (He.ga K "OwnError")) = some true
  t_LookupError : PySem.W.kitOne K (.ref C) (.type "LookupError") = some false
  t_AttributeError : PySem.W.kitOne K (.ref C) (.type "AttributeError") = some false
  t_RuntimeError : PySem.W.kitOne K (.ref C) (.type "RuntimeError") = some false
  t_TypeError : PySem.W.kitOne K (.ref C) (.type "TypeError") = some false
  t_ArithmeticError : PySem.W.kitOne K (.ref C) (.type "ArithmeticError") = some false
  t_ValueError : PySem.W.kitOne K (.ref C) (.type "ValueError") = some true
def errB (K : PySem.W.Frag) (C : Addr) (i : Nat) : Bool :=
  xcB K C && ((List.range 23).all (fun j => decide (PySem.W.kitOne K (.ref C) (.ref (He.ga K (cls23.getD j ""))) = some (decide (j = i)))) &&
  (decide (PySem.W.kitOne K (.ref C) (.ref (He.ga K "BadInput")) = some (decide ((i : Int) < 11))) && (decide (PySem.W.kitOne K (.ref C) (.ref (He.ga K "Refused")) = some (decide ((11 : Int) ≤ (i : Int) ∧ (i : Int) < 17))) &&
  (decide (PySem.W.kitOne K (.ref C) (.ref (He.ga K "NoAnswer")) = some (decide ((17 : Int) ≤ (i : Int) ∧ (i : Int) < 21))) && (decide (PySem.W.kitOne K (.ref C) (.ref (He.ga K "OwnError")) = some true) &&
  (decide (PySem.W.kitOne K (.ref C) (.type "LookupError") = some false) && (decide (PySem.W.kitOne K (.ref C) (.type "AttributeError") = some false) && (decide (PySem.W.kitOne K (.ref C) (.type "RuntimeError") = some false) && (decide (PySem.W.kitOne K (.ref C) (.type "TypeError") = some false) && (decide (PySem.W.kitOne K (.ref C) (.type "ArithmeticError") = some false) && decide (PySem.W.kitOne K (.ref C) (.type "ValueError") = some true)))))))))))
theorem errB_ok {K : PySem.W.Frag} {C : Addr} {i : Nat} (h : errB K C i = true) : ErrC K C i := by
  unfold errB at h
  simp only [Bool.and_eq_true, decide_eq_true_eq] at h
  obtain ⟨h1, h2, h3, h4, h5, h6, t0, t1, t2, t3, t4, t5⟩ := h
  exact ⟨xcB_ok h1, fun j hj => by simpa using List.all_eq_true.mp h2 j (List.mem_range.mpr hj), h3, h4, h5, h6, t0, t1, t2, t3, t4, t5⟩
def spClasses (K : PySem.W.Frag) : Sp := fun vs H Q _ => ∃ (a C : Addr) (fs : List (Str × V)) (i : Nat), vs = [.ref a] ∧ ExAt H a C fs ∧ ErrC K C i ∧ ∀ l H', Same H H' → H l = none → H' l = some (.lst ((List.range 23).map fun j => V.bl (decide (j = i)))) → Q (.ref l) H'
abbrev s_classes : Stmt := topS 37
theorem sc_classes : FnScope ["_law_error", "_law_found"] ["_law_error"] (defScope s_classes) := ⟨rfl, rfl, rfl, by decide +kernel, rfl, by decide +kernel, by decide +kernel⟩
set_option maxHeartbeats 2000000 in
theorem ok_classes {f : Addr} {fd : FuncData} (F : FnP K "_law_classes" s_classes f fd) (T : Top K mg) : FnOk P w K mg base (L2.CX P w) 1 f fd ["_law_error"] (spClasses K) := by
  have nd := sc_classes.nd
  refine F.ok sc_classes (fun vs H Q E h => ?_) (fun cdv A outer s H vs Q E hr h => ?_)
  · obtain ⟨a, C, fs, i, rfl, _⟩ := h
    rfl
  · obtain ⟨a, C, fs, i, rfl, hx, ec, k⟩ := h
    have S : Same H H := fun _ _ e => e
    refine ⟨_, PSs.nox (pss_cons (ps_set (i := 1) nd rfl (Or.inl rfl) (pe_lst (pa_cons (pe_callB c_isA (by rfl) T.n_isinstance (by decide +kernel) (pa_cons (pv 0) (pa_cons (og_ref T.g_BadName) pa_nil))) (pa_cons (pe_callB c_isA (by rfl) T.n_isinstance (by decide +kernel) (pa_cons (pv 0) (pa_cons (og_ref T.g_BadAmount) pa_nil))) (pa_cons (pe_callB c_isA (by rfl) T.n_isinstance (by decide +kernel) (pa_cons (pv 0) (pa_cons (og_ref T.g_BadGap) pa_nil))) pa_nil)))))
      (pss_cons (ps_set (i := 1) nd rfl (Or.inl rfl) (pe_op op_cat (pv 1) (pe_lst (pa_cons (pe_callB c_isA (by rfl) T.n_isinstance (by decide +kernel) (pa_cons (pv 0) (pa_cons (og_ref T.g_BadTool) pa_nil))) (pa_cons (pe_callB c_isA (by rfl) T.n_isinstance (by decide +kernel) (pa_cons (pv 0) (pa_cons (og_ref T.g_BadMark) pa_nil))) (pa_cons (pe_callB c_isA (by rfl) T.n_isinstance (by decide +kernel) (pa_cons (pv 0) (pa_cons (og_ref T.g_BadBook) pa_nil))) pa_nil))))))
      (pss_cons (ps_set (i := 1) nd rfl (Or.inl rfl) (pe_op op_cat (pv 1) (pe_lst (pa_cons (pe_callB c_isA (by rfl) T.n_isinstance (by decide +kernel) (pa_cons (pv 0) (pa_cons (og_ref T.g_BadWorld) pa_nil))) (pa_cons (pe_callB c_isA (by rfl) T.n_isinstance (by decide +kernel) (pa_cons (pv 0) (pa_cons (og_ref T.g_BadSaying) pa_nil))) (pa_cons (pe_callB c_isA (by rfl) T.n_isinstance (by decide +kernel) (pa_cons (pv 0) (pa_cons (og_ref T.g_BadPrice) pa_nil))) pa_nil))))))
      (pss_cons (ps_set (i := 1) nd rfl (Or.inl rfl) (pe_op op_cat (pv 1) (pe_lst (pa_cons (pe_callB c_isA (by rfl) T.n_isinstance (by decide +kernel) (pa_cons (pv 0) (pa_cons (og_ref T.g_BadText) pa_nil))) (pa_cons (pe_callB c_isA (by rfl) T.n_isinstance (by decide +kernel) (pa_cons (pv 0) (pa_cons (og_ref T.g_BadLine) pa_nil))) (pa_cons (pe_callB c_isA (by rfl) T.n_isinstance (by decide +kernel) (pa_cons (pv 0) (pa_cons (og_ref T.g_NoThing) pa_nil))) pa_nil))))))
      (pss_cons (ps_set (i := 1) nd rfl (Or.inl rfl) (pe_op op_cat (pv 1) (pe_lst (pa_cons (pe_callB c_isA (by rfl) T.n_isinstance (by decide +kernel) (pa_cons (pv 0) (pa_cons (og_ref T.g_NoTool) pa_nil))) (pa_cons (pe_callB c_isA (by rfl) T.n_isinstance (by decide +kernel) (pa_cons (pv 0) (pa_cons (og_ref T.g_NoMark) pa_nil))) (pa_cons (pe_callB c_isA (by rfl) T.n_isinstance (by decide +kernel) (pa_cons (pv 0) (pa_cons (og_ref T.g_Taken) pa_nil))) pa_nil))))))
      (pss_cons (ps_set (i := 1) nd rfl (Or.inl rfl) (pe_op op_cat (pv 1) (pe_lst (pa_cons (pe_callB c_isA (by rfl) T.n_isinstance (by decide +kernel) (pa_cons (pv 0) (pa_cons (og_ref T.g_Unlike) pa_nil))) (pa_cons (pe_callB c_isA (by rfl) T.n_isinstance (by decide +kernel) (pa_cons (pv 0) (pa_cons (og_ref T.g_TooMany) pa_nil))) (pa_cons (pe_callB c_isA (by rfl) T.n_isinstance (by decide +kernel) (pa_cons (pv 0) (pa_cons (og_ref T.g_NoDivisor) pa_nil))) pa_nil))))))
      (pss_cons (ps_set (i := 1) nd rfl (Or.inl rfl) (pe_op op_cat (pv 1) (pe_lst (pa_cons (pe_callB c_isA (by rfl) T.n_isinstance (by decide +kernel) (pa_cons (pv 0) (pa_cons (og_ref T.g_NoWorld) pa_nil))) (pa_cons (pe_callB c_isA (by rfl) T.n_isinstance (by decide +kernel) (pa_cons (pv 0) (pa_cons (og_ref T.g_NoRange) pa_nil))) (pa_cons (pe_callB c_isA (by rfl) T.n_isinstance (by decide +kernel) (pa_cons (pv 0) (pa_cons (og_ref T.g_NoDeed) pa_nil))) pa_nil))))))
      (pss_cons (ps_set (i := 1) nd rfl (Or.inl rfl) (pe_op op_cat (pv 1) (pe_lst (pa_cons (pe_callB c_isA (by rfl) T.n_isinstance (by decide +kernel) (pa_cons (pv 0) (pa_cons (og_ref T.g_Barred) pa_nil))) (pa_cons (pe_callB c_isA (by rfl) T.n_isinstance (by decide +kernel) (pa_cons (pv 0) (pa_cons (og_ref T.g_Loose) pa_nil))) pa_nil)))))
      (pss_one (ps_ret (pv 1))))))))))), ?_⟩
    repeat walk_at "y"
    refine .inr ⟨a, C, fs, _, _, _, rfl, (by walk_at "ex"), ec.xc, .own _, ec.k 0 (by decide), ?_⟩
    repeat walk_at "y"
    refine .inr ⟨a, C, fs, _, _, _, rfl, (by walk_at "ex"), ec.xc, .own _, ec.k 1 (by decide), ?_⟩
    repeat walk_at "y"
    refine .inr ⟨a, C, fs, _, _, _, rfl, (by walk_at "ex"), ec.xc, .own _, ec.k 2 (by decide), ?_⟩
    repeat walk_at "y"
    refine .inr ⟨a, C, fs, _, _, _, rfl, (by walk_at "ex"), ec.xc, .own _, ec.k 3 (by decide), ?_⟩
    repeat walk_at "y"
    refine .inr ⟨a, C, fs, _, _, _, rfl, (by walk_at "ex"), ec.xc, .own _, ec.k 4 (by decide), ?_⟩
    repeat walk_at "y"
    refine .inr ⟨a, C, fs, _, _, _, rfl, (by walk_at "ex"), ec.xc, .own _, ec.k 5 (by decide), ?_⟩
    repeat walk_at "y"
    refine .inr ⟨a, C, fs, _, _, _, rfl, (by walk_at "ex"), ec.xc, .own _, ec.k 6 (by decide), ?_⟩
    repeat walk_at "y"
    refine .inr ⟨a, C, fs, _, _, _, rfl, (by walk_at "ex"), ec.xc, .own _, ec.k 7 (by decide), ?_⟩
    repeat walk_at "y"
    refine .inr ⟨a, C, fs, _, _, _, rfl, (by walk_at "ex"), ec.xc, .own _, ec.k 8 (by decide), ?_⟩
    repeat walk_at "y"
    refine .inr ⟨a, C, fs, _, _, _, rfl, (by walk_at "ex"), ec.xc, .own _, ec.k 9 (by decide), ?_⟩
    repeat walk_at "y"
    refine .inr ⟨a, C, fs, _, _, _, rfl, (by walk_at "ex"), ec.xc, .own _, ec.k 10 (by decide), ?_⟩
    repeat walk_at "y"
    refine .inr ⟨a, C, fs, _, _, _, rfl, (by walk_at "ex"), ec.xc, .own _, ec.k 11 (by decide), ?_⟩
    repeat walk_at "y"
    refine .inr ⟨a, C, fs, _, _, _, rfl, (by walk_at "ex"), ec.xc, .own _, ec.k 12 (by decide), ?_⟩
    repeat walk_at "y"
    refine .inr ⟨a, C, fs, _, _, _, rfl, (by walk_at "ex"), ec.xc, .own _, ec.k 13 (by decide), ?_⟩
    repeat walk_at "y"
    refine .inr ⟨a, C, fs, _, _, _, rfl, (by walk_at "ex"), ec.xc, .own _, ec.k 14 (by decide), ?_⟩
    repeat walk_at "y"
    refine .inr ⟨a, C, fs, _, _, _, rfl, (by walk_at "ex"), ec.xc, .own _, ec.k 15 (by decide), ?_⟩
    repeat walk_at "y"
    refine .inr ⟨a, C, fs, _, _, _, rfl, (by walk_at "ex"), ec.xc, .own _, ec.k 16 (by decide), ?_⟩
    repeat walk_at "y"
    refine .inr ⟨a, C, fs, _, _, _, rfl, (by walk_at "ex"), ec.xc, .own _, ec.k 17 (by decide), ?_⟩
    repeat walk_at "y"
    refine .inr ⟨a, C, fs, _, _, _, rfl, (by walk_at "ex"), ec.xc, .own _, ec.k 18 (by decide), ?_⟩
    repeat walk_at "y"
    refine .inr ⟨a, C, fs, _, _, _, rfl, (by walk_at "ex"), ec.xc, .own _, ec.k 19 (by decide), ?_⟩
    repeat walk_at "y"
    refine .inr ⟨a, C, fs, _, _, _, rfl, (by walk_at "ex"), ec.xc, .own _, ec.k 20 (by decide), ?_⟩
    repeat walk_at "y"
    refine .inr ⟨a, C, fs, _, _, _, rfl, (by walk_at "ex"), ec.xc, .own _, ec.k 21 (by decide), ?_⟩
    repeat walk_at "y"
    refine .inr ⟨a, C, fs, _, _, _, rfl, (by walk_at "ex"), ec.xc, .own _, ec.k 22 (by decide), ?_⟩
    repeat walk_at "y"
    refine k _ _ (by walk_at "same") (by walk_at "free") (by assumption)
end
end LW
set_option maxRecDepth 100000
namespace LW
open PySem PySem.Spec PyProof.Rows L2 OZ
local macro_rules | `(tactic| walk_at "ex") => `(tactic| first
  | assumption
  | (refine ExAt.same (by assumption) ?_; walk_at "ex"))
local macro_rules | `(tactic| walk_at "same") => `(tactic| first
  | assumption
  | exact same0
  | (refine Same.trans ?_ (by assumption); walk_at "same"))
local macro_rules | `(tactic| walk_at "free") => `(tactic| first
  | assumption
  | (refine sfree (by assumption) ?_; walk_at "free"))
local macro_rules | `(tactic| walk_at "hp") => `(tactic| first
  | assumption
  | exact upd_same
  | (refine sat (by assumption) ?_; walk_at "hp")
  | (refine upd_old ?_ ?_; (first | assumption | exact free_upd (by assumption)); walk_at "hp")
  | (refine upd_oth ?_ ?_; (first | assumption | exact Ne.symm (by assumption)); walk_at "hp"))
local macro_rules | `(tactic| walk_at "side") => `(tactic| first
  | assumption
  | decide
  | omega
  | exact ⟨by omega, by omega, by omega⟩
  | exact Or.inl ⟨by omega, by omega⟩
  | exact Or.inr ⟨by omega, by omega⟩
  | (show (_ : Int) ≠ 0; omega)
  | exact wide_div (b := 64) (by omega) (by omega) (by decide) (by decide)
  | exact wide_div (b := 4000) (by assumption) (by assumption) (by decide) (by decide))
local macro_rules | `(tactic| walk_at "y") => `(tactic| first
  | ((with_reducible refine y_var ?_); refine ⟨_, rfl, ?_⟩)
  | with_reducible refine y_c ?_
  | with_reducible refine y_op ?_
  | with_reducible refine y_cb ?_
  | with_reducible refine y_cons ?_
  | with_reducible refine y_nil ?_
  | with_reducible refine y_seq ?_
  | with_reducible refine y_asg ?_
  | with_reducible refine y_gn ?_
  | with_reducible refine y_gsub ?_
  | with_reducible refine y_ret ?_
  | with_reducible refine y_drop ?_
  | with_reducible refine y_next ?_
  | with_reducible refine y_ifS ?_
  | with_reducible refine y_test ?_
  | with_reducible refine y_B ?_
  | with_reducible refine y_ex ?_
  | with_reducible refine y_not ?_
  | with_reducible refine y_and ?_
  | with_reducible refine y_or ?_
  | with_reducible refine y_notV ?_
  | with_reducible refine y_andV ?_
  | with_reducible refine y_orV ?_
  | with_reducible refine y_ifE ?_
  | with_reducible refine y_un ?_
  | with_reducible refine y_par ?_
  | with_reducible refine y_ex2 ?_
  | with_reducible refine y_call ?_
  | with_reducible refine y_callS ?_
  | with_reducible refine y_I0 ?_
  | ((with_reducible refine y_I ?_ ?_); (walk_at "side"))
  | with_reducible refine y_U ?_
  | ((with_reducible refine y_eq ?_ ?_); (exact rfl))
  | ((with_reducible refine y_ne ?_ ?_); (exact rfl))
  | ((with_reducible refine' y_ixL ?k1 ?k2 ?k3); (case k1 => walk_at "hp"); (case k2 => exact rfl))
  | ((with_reducible refine' y_ixT ?k1 ?k2 ?k3); (case k1 => walk_at "hp"); (case k2 => exact rfl))
  | ((with_reducible refine' y_setL ?k1 ?k2 ?k3); (case k1 => walk_at "hp"); (case k2 => exact rfl))
  | with_reducible refine y_int ?_
  | with_reducible refine y_intB ?_
  | with_reducible refine y_abs ?_
  | ((with_reducible refine' y_lenL ?k1 ?k3); (case k1 => walk_at "hp"))
  | ((with_reducible refine' y_lenT ?k1 ?k3); (case k1 => walk_at "hp"))
  | ((with_reducible refine y_lenS ?_ ?_); (walk_at "side"))
  | with_reducible refine y_isN ?_
  | with_reducible refine y_notN ?_
  | ((with_reducible refine y_addS ?_ ?_); (walk_at "side"))
  | with_reducible refine y_inC ?_
  | with_reducible refine y_notInC ?_
  | with_reducible refine y_sl ?_
  | with_reducible refine y_part ?_
  | with_reducible refine y_nopart ?_
  | with_reducible refine y_exI ?_
  | ((with_reducible refine y_slS ?_ ?_); (walk_at "side"))
  | with_reducible refine z_lst ?_
  | with_reducible refine z_tup ?_
  | ((with_reducible refine z_newL ?_ ?_); (exact Nat.le_of_ble_eq_true rfl); (intro pp HH npp spp opp))
  | ((with_reducible refine z_newT ?_ ?_); (exact Nat.le_of_ble_eq_true rfl); (intro pp HH npp spp opp))
  | ((with_reducible refine' y_chI ?k1 ?k2); (case k1 => exact rfl))
  | with_reducible refine y_chain ?_
  | with_reducible refine y_yes ?_
  | with_reducible refine y_att ?_
  | ((with_reducible refine y_disp ?_ ?_); (exact Nat.le_of_ble_eq_true rfl); (intro pp hpp))
  | ((with_reducible refine' y_gtup ?k1 ?k2 ?k3); (case k1 => walk_at "hp"); (case k2 => exact rfl))
  | with_reducible refine y_gcons ?_
  | with_reducible refine y_gnil ?_
  | with_reducible refine y_mkO ?_
  | with_reducible refine y_callKw ?_
  | with_reducible refine y_pp ?_
  | with_reducible refine y_pp0 ?_
  | with_reducible refine y_xv ?_
  | with_reducible refine y_xv0 ?_
  | with_reducible refine y_bm ?_
  | ((with_reducible refine' y_tyL ?k1 ?k2); (case k1 => walk_at "hp"))
  | ((with_reducible refine' y_app ?k1 ?k2 ?k3); (case k1 => walk_at "hp"); (case k2 => (first | exact Nat.le_of_ble_eq_true rfl | walk_at "side")))
  | ((with_reducible refine' z_cat ?k1 ?k2 ?k3 ?k4); (case k1 => walk_at "hp"); (case k2 => walk_at "hp"); (case k3 => (first | exact Nat.le_of_ble_eq_true rfl | walk_at "side")); (intro pp HH npp spp opp))
  | ((with_reducible refine' z_slL ?k1 ?k2); (case k1 => walk_at "hp"); (intro pp HH npp spp opp))
  | ((with_reducible refine' y_in ?k1 ?k2 ?k3 ?k4); (case k1 => walk_at "hp"); (case k2 => exact rfl); (case k3 => exact rfl))
  | with_reducible refine y_iteT ?_
  | with_reducible refine y_iteF ?_
  | with_reducible refine y_iteNT ?_
  | with_reducible refine y_iteNF ?_
  | ((with_reducible refine y_iteY ?_ ?_); (first | exact rfl | assumption | omega))
  | ((with_reducible refine y_iteX ?_ ?_); (first | focus (intro zz; cases zz; done) | assumption | omega))
  | ((with_reducible refine y_iteNY ?_ ?_); (first | exact rfl | assumption | omega))
  | ((with_reducible refine y_iteNX ?_ ?_); (first | focus (intro zz; cases zz; done) | assumption | omega))
  | ((with_reducible refine y_ite ?_ ?_) <;> intro hh)
  | ((with_reducible refine y_iteN ?_ ?_) <;> intro hh)
  | dsimp only)
section
variable {P : Program} {w : World} {K : PySem.W.Frag} {mg : Str → Option Value} {base : Heap}
def spStrange (K : PySem.W.Frag) : Sp := fun vs H Q _ => ∃ (a C : Addr) (fs : List (Str × V)) (i : Nat), vs = [.ref a] ∧ ExAt H a C fs ∧ ErrC K C i ∧ Q (.bl false) H
abbrev s_strange : Stmt := topS 38
theorem sc_strange : FnScope ["_law_error"] ["_law_error"] (defScope s_strange) := ⟨rfl, rfl, rfl, by decide +kernel, rfl, by decide +kernel, by decide +kernel⟩
theorem ok_strange {f : Addr} {fd : FuncData} (F : FnP K "_law_is_strange" s_strange f fd) (T : Top K mg) : FnOk P w K mg base (L2.CX P w) 1 f fd ["_law_error"] (spStrange K) := by
  have nd := sc_strange.nd
  refine F.ok sc_strange (fun vs H Q E h => ?_) (fun cdv A outer s H vs Q E hr h => ?_)
  · obtain ⟨a, C, fs, i, rfl, _⟩ := h
    rfl
  · obtain ⟨a, C, fs, i, rfl, hx, ec, k⟩ := h
    refine ⟨_, PSs.nox (pss_cons (ps_if (PW.pt (pw_or (pt_val (pe_callB c_isA (by rfl) T.n_isinstance (by decide +kernel) (pa_cons (pv 0) (pa_cons (ob_ty (T := "LookupError") T.n_LookupError (by decide +kernel)) pa_nil)))) (pw_or (pt_val (pe_callB c_isA (by rfl) T.n_isinstance (by decide +kernel) (pa_cons (pv 0) (pa_cons (ob_ty (T := "AttributeError") T.n_AttributeError (by decide +kernel)) pa_nil)))) (pw_or1 (pt_val (pe_callB c_isA (by rfl) T.n_isinstance (by decide +kernel) (pa_cons (pv 0) (pa_cons (ob_ty (T := "RuntimeError") T.n_RuntimeError (by decide +kernel)) pa_nil))))))))
        (pss_one (ps_ret pe_bl))
        pss_nil)
      (pss_one (ps_ret (pe_or (pe_callB c_isA (by rfl) T.n_isinstance (by decide +kernel) (pa_cons (pv 0) (pa_cons (ob_ty (T := "TypeError") T.n_TypeError (by decide +kernel)) pa_nil))) (pe_one (pe_callB c_isA (by rfl) T.n_isinstance (by decide +kernel) (pa_cons (pv 0) (pa_cons (ob_ty (T := "ArithmeticError") T.n_ArithmeticError (by decide +kernel)) pa_nil)))))))), ?_⟩
    repeat walk_at "y"
    refine .inr ⟨a, C, fs, _, _, _, rfl, hx, ec.xc, .ty _, ec.t_LookupError, ?_⟩
    repeat walk_at "y"
    refine .inr ⟨a, C, fs, _, _, _, rfl, hx, ec.xc, .ty _, ec.t_AttributeError, ?_⟩
    repeat walk_at "y"
    refine .inr ⟨a, C, fs, _, _, _, rfl, hx, ec.xc, .ty _, ec.t_RuntimeError, ?_⟩
    repeat walk_at "y"
    refine .inr ⟨a, C, fs, _, _, _, rfl, hx, ec.xc, .ty _, ec.t_TypeError, ?_⟩
    repeat walk_at "y"
    refine .inr ⟨a, C, fs, _, _, _, rfl, hx, ec.xc, .ty _, ec.t_ArithmeticError, ?_⟩
    repeat walk_at "y"
    exact k
def ones : List Str := ["value", "part", "name", "word", "sheets", "world"]
def spLone (K : PySem.W.Frag) : Sp := fun vs H Q _ => ∃ (f : Str) (a C : Addr) (fs : List (Str × V)) (v : V), vs = [.str f, .ref a] ∧ f ∈ ones ∧ ExAt H a C fs ∧ XC K C ∧ NoAttr K C f ∧ fs.lookup f = some v ∧ ∀ H', Same H H' → Q v H'
abbrev s_lone : Stmt := topS 35
theorem sc_lone : FnScope ["_law_kind", "_law_error"] ["_law_kind", "_law_error"] (defScope s_lone) := ⟨rfl, rfl, rfl, by decide +kernel, rfl, by decide +kernel, by decide +kernel⟩
theorem ok_lone {f : Addr} {fd : FuncData} (F : FnP K "_law_lone" s_lone f fd) (T : Top K mg) : FnOk P w K mg base (L2.CX P w) 1 f fd ["_law_kind", "_law_error"] (spLone K) := by
  have nd := sc_lone.nd
  refine F.ok sc_lone (fun vs H Q E h => ?_) (fun cdv A outer s H vs Q E hr h => ?_)
  · obtain ⟨f, a, C, fs, v, rfl, _⟩ := h
    rfl
  · obtain ⟨f, a, C, fs, v, rfl, hf, hx, xc, na, hv, k⟩ := h
    refine ⟨_, PSs.nox (pss_cons (ps_if (pt_cmpR op_in_seq (pv 0) (pe_tup (pa_cons pe_str (pa_cons pe_str pa_nil))) (by rfl))
        (pss_one (ps_ret (pe_ifExp (pt_cmpR op_eq (pv 0) pe_str (nomark _)) (pe_att (pv 1)) (pe_att (pv 1)))))
        pss_nil)
      (pss_cons (ps_if (pt_cmpR op_in_seq (pv 0) (pe_tup (pa_cons pe_str (pa_cons pe_str pa_nil))) (by rfl))
        (pss_one (ps_ret (pe_ifExp (pt_cmpR op_eq (pv 0) pe_str (nomark _)) (pe_att (pv 1)) (pe_att (pv 1)))))
        pss_nil)
      (pss_one (ps_ret (pe_ifExp (pt_cmpR op_eq (pv 0) pe_str (nomark _)) (pe_att (pv 1)) (pe_att (pv 1))))))), ?_⟩
    simp only [ones, List.mem_cons, List.not_mem_nil, or_false] at hf
    rcases hf with rfl | rfl | rfl | rfl | rfl | rfl
    all_goals
      repeat (first | walk_at "y" | (with_reducible refine y_iteB ?_ ?_ <;> intro hb <;> first | exact absurd hb (by decide) | skip))
      exact y_attX (by walk_at "ex") xc na hv (k _ (by walk_at "same"))
def twos : List (Str × Str × Str) := [("line word", "line", "word"), ("tool thing", "tool", "thing"), ("what most", "what", "most")]
inductive KindOk (K : PySem.W.Frag) (C : Addr) (fs : List (Str × V)) : Str → List V → Prop
  | no : KindOk K C fs "" []
  | one {f : Str} {v : V} : f ∈ ones → NoAttr K C f → fs.lookup f = some v → KindOk K C fs f [v]
  | two {k f g : Str} {v u : V} : (k, f, g) ∈ twos → NoAttr K C f → NoAttr K C g → fs.lookup f = some v → fs.lookup g = some u → KindOk K C fs k [v, u]
def spKept (K : PySem.W.Frag) : Sp := fun vs H Q _ => ∃ (k : Str) (a C : Addr) (fs : List (Str × V)) (xs : List V), vs = [.str k, .ref a] ∧ ExAt H a C fs ∧ XC K C ∧ KindOk K C fs k xs ∧ ∀ l H', Same H H' → H l = none → H' l = some (.lst xs) → Q (.ref l) H'
abbrev s_kept : Stmt := topS 36
theorem sc_kept : FnScope ["_law_kind", "_law_error"] ["_law_kind", "_law_error"] (defScope s_kept) := ⟨rfl, rfl, rfl, by decide +kernel, rfl, by decide +kernel, by decide +kernel⟩
theorem ok_kept {f : Addr} {fd : FuncData} (F : FnP K "_law_kept" s_kept f fd) (T : Top K mg) (F_law_lone : Fnc P w K mg base 1 "_law_lone" ["_law_kind", "_law_error"] (spLone K)) : FnOk P w K mg base (L2.CX P w) 2 f fd ["_law_kind", "_law_error"] (spKept K) := by
  have nd := sc_kept.nd
  refine F.ok sc_kept (fun vs H Q E h => ?_) (fun cdv A outer s H vs Q E hr h => ?_)
  · obtain ⟨k, a, C, fs, xs, rfl, _⟩ := h
    rfl
  · obtain ⟨k, a, C, fs, xs, rfl, hx, xc, ko, kk⟩ := h
    refine ⟨_, PSs.nox (pss_cons (ps_if (pt_cmpR op_eq (pv 0) pe_str (nomark _))
        (pss_one (ps_ret (pe_lst pa_nil)))
        pss_nil)
      (pss_cons (ps_if (pt_cmpR op_eq (pv 0) pe_str (nomark _))
        (pss_one (ps_ret (pe_lst (pa_cons (pe_att (pv 1)) (pa_cons (pe_att (pv 1)) pa_nil)))))
        pss_nil)
      (pss_cons (ps_if (pt_cmpR op_eq (pv 0) pe_str (nomark _))
        (pss_one (ps_ret (pe_lst (pa_cons (pe_att (pv 1)) (pa_cons (pe_att (pv 1)) pa_nil)))))
        pss_nil)
      (pss_one (ps_ret (pe_ifExp (pt_cmpR op_eq (pv 0) pe_str (nomark _)) (pe_lst (pa_cons (pe_att (pv 1)) (pa_cons (pe_att (pv 1)) pa_nil))) (pe_lst (pa_cons (oc F_law_lone (hr.mono (by decide)) (pa_cons (pv 0) (pa_cons (pv 1) pa_nil))) pa_nil)))))))), ?_⟩
    cases ko with
    | no =>
      repeat walk_at "y"
      exact kk _ _ (by walk_at "same") (by walk_at "free") (by assumption)
    | one hf na hv =>
      have hf0 := hf
      simp only [ones, List.mem_cons, List.not_mem_nil, or_false] at hf
      rcases hf with rfl | rfl | rfl | rfl | rfl | rfl
      all_goals
        repeat walk_at "y"
        refine ⟨_, a, C, fs, _, rfl, hf0, hx, xc, na, hv, fun H1 s1 => ?_⟩
        repeat walk_at "y"
        exact kk _ _ (by walk_at "same") (by walk_at "free") (by assumption)
    | two hk na nb hv hu =>
      simp only [twos, List.mem_cons, List.not_mem_nil, or_false, Prod.mk.injEq] at hk
      rcases hk with ⟨rfl, rfl, rfl⟩ | ⟨rfl, rfl, rfl⟩ | ⟨rfl, rfl, rfl⟩
      all_goals
        repeat walk_at "y"
        refine y_attX hx xc na hv ?_
        repeat walk_at "y"
        refine y_attX hx xc nb hu ?_
        repeat walk_at "y"
        exact kk _ _ (by walk_at "same") (by walk_at "free") (by assumption)
end
end LW
set_option maxRecDepth 100000
namespace LW
open PySem PySem.Spec PyProof.Rows L2 OZ
local macro_rules | `(tactic| walk_at "ex") => `(tactic| first
  | assumption
  | (refine ExAt.same (by assumption) ?_; walk_at "ex"))
local macro_rules | `(tactic| walk_at "same") => `(tactic| first
  | assumption
  | exact same0
  | (refine Same.trans ?_ (by assumption); walk_at "same"))
local macro_rules | `(tactic| walk_at "free") => `(tactic| first
  | assumption
  | (refine sfree (by assumption) ?_; walk_at "free"))
local macro_rules | `(tactic| walk_at "hp") => `(tactic| first
  | assumption
  | exact upd_same
  | (refine sat (by assumption) ?_; walk_at "hp")
  | (refine upd_old ?_ ?_; (first | assumption | exact free_upd (by assumption)); walk_at "hp")
  | (refine upd_oth ?_ ?_; (first | assumption | exact Ne.symm (by assumption)); walk_at "hp"))
local macro_rules | `(tactic| walk_at "side") => `(tactic| first
  | assumption
  | decide
  | omega
  | exact ⟨by omega, by omega, by omega⟩
  | exact Or.inl ⟨by omega, by omega⟩
  | exact Or.inr ⟨by omega, by omega⟩
  | (show (_ : Int) ≠ 0; omega)
  | exact wide_div (b := 64) (by omega) (by omega) (by decide) (by decide)
  | exact wide_div (b := 4000) (by assumption) (by assumption) (by decide) (by decide))
local macro_rules | `(tactic| walk_at "y") => `(tactic| first
  | ((with_reducible refine y_var ?_); refine ⟨_, rfl, ?_⟩)
  | with_reducible refine y_c ?_
  | with_reducible refine y_op ?_
  | with_reducible refine y_cb ?_
  | with_reducible refine y_cons ?_
  | with_reducible refine y_nil ?_
  | with_reducible refine y_seq ?_
  | with_reducible refine y_asg ?_
  | with_reducible refine y_gn ?_
  | with_reducible refine y_gsub ?_
  | with_reducible refine y_ret ?_
  | with_reducible refine y_drop ?_
  | with_reducible refine y_next ?_
  | with_reducible refine y_ifS ?_
  | with_reducible refine y_test ?_
  | with_reducible refine y_B ?_
  | with_reducible refine y_ex ?_
  | with_reducible refine y_not ?_
  | with_reducible refine y_and ?_
  | with_reducible refine y_or ?_
  | with_reducible refine y_notV ?_
  | with_reducible refine y_andV ?_
  | with_reducible refine y_orV ?_
  | with_reducible refine y_ifE ?_
  | with_reducible refine y_un ?_
  | with_reducible refine y_par ?_
  | with_reducible refine y_ex2 ?_
  | with_reducible refine y_call ?_
  | with_reducible refine y_callS ?_
  | with_reducible refine y_I0 ?_
  | ((with_reducible refine y_I ?_ ?_); (walk_at "side"))
  | with_reducible refine y_U ?_
  | ((with_reducible refine y_eq ?_ ?_); (exact rfl))
  | ((with_reducible refine y_ne ?_ ?_); (exact rfl))
  | ((with_reducible refine' y_ixL ?k1 ?k2 ?k3); (case k1 => walk_at "hp"); (case k2 => exact rfl))
  | ((with_reducible refine' y_ixT ?k1 ?k2 ?k3); (case k1 => walk_at "hp"); (case k2 => exact rfl))
  | ((with_reducible refine' y_setL ?k1 ?k2 ?k3); (case k1 => walk_at "hp"); (case k2 => exact rfl))
  | with_reducible refine y_int ?_
  | with_reducible refine y_intB ?_
  | with_reducible refine y_abs ?_
  | ((with_reducible refine' y_lenL ?k1 ?k3); (case k1 => walk_at "hp"))
  | ((with_reducible refine' y_lenT ?k1 ?k3); (case k1 => walk_at "hp"))
  | ((with_reducible refine y_lenS ?_ ?_); (walk_at "side"))
  | with_reducible refine y_isN ?_
  | with_reducible refine y_notN ?_
  | ((with_reducible refine y_addS ?_ ?_); (walk_at "side"))
  | with_reducible refine y_inC ?_
  | with_reducible refine y_notInC ?_
  | with_reducible refine y_sl ?_
  | with_reducible refine y_part ?_
  | with_reducible refine y_nopart ?_
  | with_reducible refine y_exI ?_
  | ((with_reducible refine y_slS ?_ ?_); (walk_at "side"))
  | with_reducible refine z_lst ?_
  | with_reducible refine z_tup ?_
  | ((with_reducible refine z_newL ?_ ?_); (exact Nat.le_of_ble_eq_true rfl); (intro pp HH npp spp opp))
  | ((with_reducible refine z_newT ?_ ?_); (exact Nat.le_of_ble_eq_true rfl); (intro pp HH npp spp opp))
  | ((with_reducible refine' y_chI ?k1 ?k2); (case k1 => exact rfl))
  | with_reducible refine y_chain ?_
  | with_reducible refine y_yes ?_
  | with_reducible refine y_att ?_
  | ((with_reducible refine y_disp ?_ ?_); (exact Nat.le_of_ble_eq_true rfl); (intro pp hpp))
  | ((with_reducible refine' y_gtup ?k1 ?k2 ?k3); (case k1 => walk_at "hp"); (case k2 => exact rfl))
  | with_reducible refine y_gcons ?_
  | with_reducible refine y_gnil ?_
  | with_reducible refine y_mkO ?_
  | with_reducible refine y_callKw ?_
  | with_reducible refine y_pp ?_
  | with_reducible refine y_pp0 ?_
  | with_reducible refine y_xv ?_
  | with_reducible refine y_xv0 ?_
  | with_reducible refine y_bm ?_
  | ((with_reducible refine' y_tyL ?k1 ?k2); (case k1 => walk_at "hp"))
  | ((with_reducible refine' y_app ?k1 ?k2 ?k3); (case k1 => walk_at "hp"); (case k2 => (first | exact Nat.le_of_ble_eq_true rfl | walk_at "side")))
  | ((with_reducible refine' z_cat ?k1 ?k2 ?k3 ?k4); (case k1 => walk_at "hp"); (case k2 => walk_at "hp"); (case k3 => (first | exact Nat.le_of_ble_eq_true rfl | walk_at "side")); (intro pp HH npp spp opp))
  | ((with_reducible refine' z_slL ?k1 ?k2); (case k1 => walk_at "hp"); (intro pp HH npp spp opp))
  | ((with_reducible refine' y_in ?k1 ?k2 ?k3 ?k4); (case k1 => walk_at "hp"); (case k2 => exact rfl); (case k3 => exact rfl))
  | with_reducible refine y_iteT ?_
  | with_reducible refine y_iteF ?_
  | with_reducible refine y_iteNT ?_
  | with_reducible refine y_iteNF ?_
  | ((with_reducible refine y_iteY ?_ ?_); (first | exact rfl | assumption | omega))
  | ((with_reducible refine y_iteX ?_ ?_); (first | focus (intro zz; cases zz; done) | assumption | omega))
  | ((with_reducible refine y_iteNY ?_ ?_); (first | exact rfl | assumption | omega))
  | ((with_reducible refine y_iteNX ?_ ?_); (first | focus (intro zz; cases zz; done) | assumption | omega))
  | ((with_reducible refine y_ite ?_ ?_) <;> intro hh)
  | ((with_reducible refine y_iteN ?_ ?_) <;> intro hh)
  | dsimp only)
section
variable {P : Program} {w : World} {K : PySem.W.Frag} {mg : Str → Option Value} {base : Heap}
theorem fit_int {i : Int} (h : i.natAbs < 10 ^ 60) : Fit (.int i) 10 3000 := by
  have e := int_text_length_le10 (k := 60) (by decide) h
  have hl : i.natAbs.log2 < 300 := by
    by_cases z : i.natAbs = 0
    · rw [z]; decide
    · exact (Nat.log2_lt z).mpr (Nat.lt_trans h (by decide))
  refine ⟨?_, ?_, by simp [PyData.depth], ?_⟩
  · simp only [PyData.showable, decide_eq_true_eq]; omega
  · simp only [PyData.leavesShort, decide_eq_true_eq]
    show (Str.ofString (toString i)).length ≤ 1000
    rw [PySem.ofString_length]; omega
  · simp only [PyData.weight]
    split <;> omega
def spThing : Sp := fun vs H Q _ => ∃ (p c : Addr) (n : Nat), vs = [.ref p] ∧ PenAt H p c n ∧ n ≤ 100000 ∧ ∀ v d H', Dq p H' v d → Fit d 10 3000 → PenAt H' p c (n + 2) → Kp p H H' → Q v H'
abbrev s_thing : Stmt := topS 32
theorem sc_thing : FnScope ["_law_pen_here", "_law_some"] ["_law_pen_here"] (defScope s_thing) := ⟨rfl, rfl, rfl, by decide +kernel, rfl, by decide +kernel, by decide +kernel⟩
set_option maxHeartbeats 1000000 in
theorem ok_thing {f : Addr} {fd : FuncData} (F : FnP K "_law_thing" s_thing f fd) (T : Top K mg) (F_law_draw : Fnc P w K mg base 1 "_law_draw" ["_law_pen_here", "_law_many"] spDraw) (F_law_pick : Fnc P w K mg base 2 "_law_pick" ["_law_pen_here", "_law_some"] spPick) :
    FnOk P w K mg base (L2.CX P w) 3 f fd ["_law_pen_here"] spThing := by
  have nd := sc_thing.nd
  refine F.ok sc_thing (fun vs H Q E h => ?_) (fun cdv A outer s H vs Q E hr h => ?_)
  · obtain ⟨p, c, n, rfl, _⟩ := h
    rfl
  · obtain ⟨p, c, n, rfl, hP, hn, k⟩ := h
    refine ⟨_, PSs.nox (pss_cons (ps_set (i := 1) nd rfl (Or.inl rfl) (pe_lst (pa_cons pe_non (pa_cons pe_bl (pa_cons pe_bl (pa_cons pe_int (pa_cons (pe_un un_neg pe_int) (pa_cons (pe_op op_pow pe_int pe_int) (pa_cons pe_str (pa_cons pe_str (pa_cons (pe_tup (pa_cons pe_int (pa_cons pe_str pa_nil))) (pa_cons (pe_lst (pa_cons pe_non pa_nil)) (pa_cons (pe_disp (pps_cons pe_str (pe_tup pa_nil) pps_nil) (by rfl) (by rfl) (fun z => by cases z) (by decide)) (pa_cons (pe_tup pa_nil) (pa_cons (pe_op op_sub pe_int (pe_op op_pow pe_int pe_int)) pa_nil)))))))))))))))
      (pss_one (ps_ret (oc F_law_pick (hr.mono (by decide)) (pa_cons (pv 0) (pa_cons (pe_op op_cat (pv 1) (pe_lst (pa_cons (oc F_law_draw (hr.mono (by decide)) (pa_cons (pv 0) (pa_cons (pe_op op_pow pe_int pe_int) pa_nil))) pa_nil))) pa_nil)))))), ?_⟩
    repeat walk_at "y"
    rename_i t1 H1 n1 s1 o1 l1 H2 n2 s2 o2
    intro d1 hd1
    repeat walk_at "y"
    rename_i t3 H3 n3 s3 o3
    have o3d := s3 _ _ (upd_same (H := H2) (a := d1) (o := HO.dK []))
    refine ⟨o3d, [(Sum.inr "c", .ref t3)], rfl, Nat.le_of_ble_eq_true rfl, ?_⟩
    have nt3 : t3 ≠ d1 := fun z => by rw [z, upd_same] at n3; cases n3
    have o4 : (upd H3 d1 (.dK (mergeK [] [(Sum.inr "c", V.ref t3)]))) d1 = some (.dK (mergeK [] [(Sum.inr "c", V.ref t3)])) := upd_same
    have o4t : (upd H3 d1 (.dK (mergeK [] [(Sum.inr "c", V.ref t3)]))) t3 = some (.tup []) := upd_oth nt3 o3
    have s4 : Same H2 (upd H3 d1 (.dK (mergeK [] [(Sum.inr "c", V.ref t3)]))) := fun b o e => upd_oth (ne_of_none e hd1) (s3 _ _ (upd_old hd1 e))
    generalize (upd H3 d1 (.dK (mergeK [] [(Sum.inr "c", V.ref t3)]))) = H4 at o4 o4t s4 ⊢
    repeat walk_at "y"
    rename_i t5 H5 n5 s5 o5 l6 H6 n6 s6 o6
    have P6 : PenAt H6 p c n := ((((hP.same s1).same s2).same s4).same s5).same s6
    refine ⟨p, c, n, _, rfl, P6, by omega, by decide, by decide, fun r H7 r0 r1 P7 k7 => ?_⟩
    have ns : ∀ {q : Addr} {J : Hp}, Same H J → J q = none → q ≠ p := fun {q J} sj e => hP.p_ne (sj.free e)
    have a2 := s1.trans s2
    have a4 := a2.trans s4
    have a5 := a4.trans s5
    have a6 := a5.trans s6
    have m1 : t1 ≠ p := ns same0 n1
    have m2 : l1 ≠ p := ns s1 n2
    have m3 : d1 ≠ p := ns a2 hd1
    have m4 : t3 ≠ p := fun z => by
      have e := hP.p_ne (q := t3) (a2.free (free_upd n3))
      exact e z
    have m5 : t5 ≠ p := ns a4 n5
    have m6 : l6 ≠ p := ns a5 n6
    have b6 := k7 _ _ m6 o6
    have b5 := k7 _ _ m5 (s6 _ _ o5)
    have b3 := k7 _ _ m4 (s6 _ _ (s5 _ _ o4t))
    have b4 := k7 _ _ m3 (s6 _ _ (s5 _ _ o4))
    have b2 := k7 _ _ m2 (s6 _ _ (s5 _ _ (s4 _ _ o2)))
    have b1 := k7 _ _ m1 (s6 _ _ (s5 _ _ (s4 _ _ (s2 _ _ o1))))
    have k6 : Kp p H H7 := (Kp.of a6).trans k7
    repeat walk_at "y"
    rename_i l8 H8 n8 s8 o8 l9 H9 n9 s9 o9
    have P9 := (P7.same s8).same s9
    have q9 : l9 ≠ p := P7.p_ne (s8.free n9)
    refine ⟨p, c, _, _, rfl, P9, by omega, .inl ⟨l9, _, rfl, q9, o9, Nat.le_of_ble_eq_true rfl, Nat.le_of_ble_eq_true rfl, fun j v H10 hj P10 k10 => ?_⟩⟩
    have u : ∀ {b : Addr} {o : HO}, b ≠ p → H7 b = some o → H10 b = some o := fun {b o} hb e => k10 _ _ hb (s9 _ _ (s8 _ _ e))
    have kf : Kp p H H10 := (k6.same (s8.trans s9)).trans k10
    have m := List.mem_of_getElem? hj
    simp only [List.cons_append, List.nil_append, List.mem_cons, List.not_mem_nil, or_false] at m
    have fi : ∀ i : Int, i.natAbs < 10 ^ 60 → Fit (.int i) 10 3000 := fun i hi => fit_int hi
    rcases m with rfl | rfl | rfl | rfl | rfl | rfl | rfl | rfl | rfl | rfl | rfl | rfl | rfl | rfl
    · exact k _ _ _ .non ⟨rfl, rfl, by decide, by decide⟩ P10 kf
    · exact k _ _ _ (.bl true) ⟨rfl, rfl, by decide, by decide⟩ P10 kf
    · exact k _ _ _ (.bl false) ⟨rfl, rfl, by decide, by decide⟩ P10 kf
    · exact k _ _ _ (.int _) (fi _ (by decide)) P10 kf
    · exact k _ _ _ (.int _) (fi _ (by decide)) P10 kf
    · exact k _ _ _ (.int _) (fi _ (by decide)) P10 kf
    · exact k _ _ _ (.str _) ⟨rfl, rfl, by decide, by decide⟩ P10 kf
    · exact k _ _ _ (.str _) ⟨rfl, rfl, by decide, by decide⟩ P10 kf
    · exact k _ _ _ (.tup m1 (u m1 b1) (.cons (.int _) (.cons (.str _) .nil))) ⟨rfl, rfl, by decide, by decide⟩ P10 kf
    · exact k _ _ _ (.lst m2 (u m2 b2) (.cons .non .nil)) ⟨rfl, rfl, by decide, by decide⟩ P10 kf
    · exact k _ _ _ (.dic (ds := [(.str "c", .tuple [])]) m3 (u m3 b4) (.cons (.tup m4 (u m4 b3) .nil) .nil)) ⟨rfl, rfl, by decide, by decide⟩ P10 kf
    · exact k _ _ _ (.tup m5 (u m5 b5) .nil) ⟨rfl, rfl, by decide, by decide⟩ P10 kf
    · exact k _ _ _ (.int _) (fi _ (by decide)) P10 kf
    · have e7 : (10 : Int) ^ Int.toNat 7 = 10000000 := rfl
      have e8 : r.natAbs < 10000000 := by omega
      exact k _ _ _ (.int _) (fi _ (Nat.lt_of_lt_of_le e8 (by decide))) P10 kf
end
end LW
set_option maxRecDepth 100000
namespace LW
open PySem PySem.Spec PyProof.Rows L2 OZ
local macro_rules | `(tactic| walk_at "ex") => `(tactic| first
  | assumption
  | (refine ExAt.same (by assumption) ?_; walk_at "ex"))
local macro_rules | `(tactic| walk_at "same") => `(tactic| first
  | assumption
  | exact same0
  | (refine Same.trans ?_ (by assumption); walk_at "same"))
local macro_rules | `(tactic| walk_at "free") => `(tactic| first
  | assumption
  | (refine sfree (by assumption) ?_; walk_at "free"))
local macro_rules | `(tactic| walk_at "hp") => `(tactic| first
  | assumption
  | exact upd_same
  | (refine sat (by assumption) ?_; walk_at "hp")
  | (refine upd_old ?_ ?_; (first | assumption | exact free_upd (by assumption)); walk_at "hp")
  | (refine upd_oth ?_ ?_; (first | assumption | exact Ne.symm (by assumption)); walk_at "hp"))
local macro_rules | `(tactic| walk_at "side") => `(tactic| first
  | assumption
  | decide
  | omega
  | exact ⟨by omega, by omega, by omega⟩
  | exact Or.inl ⟨by omega, by omega⟩
  | exact Or.inr ⟨by omega, by omega⟩
  | (show (_ : Int) ≠ 0; omega)
  | exact wide_div (b := 64) (by omega) (by omega) (by decide) (by decide)
  | exact wide_div (b := 4000) (by assumption) (by assumption) (by decide) (by decide))
local macro_rules | `(tactic| walk_at "y") => `(tactic| first
  | ((with_reducible refine y_var ?_); refine ⟨_, rfl, ?_⟩)
  | with_reducible refine y_c ?_
  | with_reducible refine y_op ?_
  | with_reducible refine y_cb ?_
  | with_reducible refine y_cons ?_
  | with_reducible refine y_nil ?_
  | with_reducible refine y_seq ?_
  | with_reducible refine y_asg ?_
  | with_reducible refine y_gn ?_
  | with_reducible refine y_gsub ?_
  | with_reducible refine y_ret ?_
  | with_reducible refine y_drop ?_
  | with_reducible refine y_next ?_
  | with_reducible refine y_ifS ?_
  | with_reducible refine y_test ?_
  | with_reducible refine y_B ?_
  | with_reducible refine y_ex ?_
  | with_reducible refine y_not ?_
  | with_reducible refine y_and ?_
  | with_reducible refine y_or ?_
  | with_reducible refine y_notV ?_
  | with_reducible refine y_andV ?_
  | with_reducible refine y_orV ?_
  | with_reducible refine y_ifE ?_
  | with_reducible refine y_un ?_
  | with_reducible refine y_par ?_
  | with_reducible refine y_ex2 ?_
  | with_reducible refine y_call ?_
  | with_reducible refine y_callS ?_
  | with_reducible refine y_I0 ?_
  | ((with_reducible refine y_I ?_ ?_); (walk_at "side"))
  | with_reducible refine y_U ?_
  | ((with_reducible refine y_eq ?_ ?_); (exact rfl))
  | ((with_reducible refine y_ne ?_ ?_); (exact rfl))
  | ((with_reducible refine' y_ixL ?k1 ?k2 ?k3); (case k1 => walk_at "hp"); (case k2 => exact rfl))
  | ((with_reducible refine' y_ixT ?k1 ?k2 ?k3); (case k1 => walk_at "hp"); (case k2 => exact rfl))
  | ((with_reducible refine' y_setL ?k1 ?k2 ?k3); (case k1 => walk_at "hp"); (case k2 => exact rfl))
  | with_reducible refine y_int ?_
  | with_reducible refine y_intB ?_
  | with_reducible refine y_abs ?_
  | ((with_reducible refine' y_lenL ?k1 ?k3); (case k1 => walk_at "hp"))
  | ((with_reducible refine' y_lenT ?k1 ?k3); (case k1 => walk_at "hp"))
  | ((with_reducible refine y_lenS ?_ ?_); (walk_at "side"))
  | with_reducible refine y_isN ?_
  | with_reducible refine y_notN ?_
  | ((with_reducible refine y_addS ?_ ?_); (walk_at "side"))
  | with_reducible refine y_inC ?_
  | with_reducible refine y_notInC ?_
  | with_reducible refine y_sl ?_
  | with_reducible refine y_part ?_
  | with_reducible refine y_nopart ?_
  | with_reducible refine y_exI ?_
  | ((with_reducible refine y_slS ?_ ?_); (walk_at "side"))
  | with_reducible refine z_lst ?_
  | with_reducible refine z_tup ?_
  | ((with_reducible refine z_newL ?_ ?_); (exact Nat.le_of_ble_eq_true rfl); (intro pp HH npp spp opp))
  | ((with_reducible refine z_newT ?_ ?_); (exact Nat.le_of_ble_eq_true rfl); (intro pp HH npp spp opp))
  | ((with_reducible refine' y_chI ?k1 ?k2); (case k1 => exact rfl))
  | with_reducible refine y_chain ?_
  | with_reducible refine y_yes ?_
  | with_reducible refine y_att ?_
  | ((with_reducible refine y_disp ?_ ?_); (exact Nat.le_of_ble_eq_true rfl); (intro pp hpp))
  | ((with_reducible refine' y_gtup ?k1 ?k2 ?k3); (case k1 => walk_at "hp"); (case k2 => exact rfl))
  | with_reducible refine y_gcons ?_
  | with_reducible refine y_gnil ?_
  | with_reducible refine y_mkO ?_
  | with_reducible refine y_callKw ?_
  | with_reducible refine y_pp ?_
  | with_reducible refine y_pp0 ?_
  | with_reducible refine y_xv ?_
  | with_reducible refine y_xv0 ?_
  | with_reducible refine y_bm ?_
  | ((with_reducible refine' y_tyL ?k1 ?k2); (case k1 => walk_at "hp"))
  | ((with_reducible refine' y_app ?k1 ?k2 ?k3); (case k1 => walk_at "hp"); (case k2 => (first | exact Nat.le_of_ble_eq_true rfl | walk_at "side")))
  | ((with_reducible refine' z_cat ?k1 ?k2 ?k3 ?k4); (case k1 => walk_at "hp"); (case k2 => walk_at "hp"); (case k3 => (first | exact Nat.le_of_ble_eq_true rfl | walk_at "side")); (intro pp HH npp spp opp))
  | ((with_reducible refine' z_slL ?k1 ?k2); (case k1 => walk_at "hp"); (intro pp HH npp spp opp))
  | ((with_reducible refine' y_in ?k1 ?k2 ?k3 ?k4); (case k1 => walk_at "hp"); (case k2 => exact rfl); (case k3 => exact rfl))
  | with_reducible refine y_iteT ?_
  | with_reducible refine y_iteF ?_
  | with_reducible refine y_iteNT ?_
  | with_reducible refine y_iteNF ?_
  | ((with_reducible refine y_iteY ?_ ?_); (first | exact rfl | assumption | omega))
  | ((with_reducible refine y_iteX ?_ ?_); (first | focus (intro zz; cases zz; done) | assumption | omega))
  | ((with_reducible refine y_iteNY ?_ ?_); (first | exact rfl | assumption | omega))
  | ((with_reducible refine y_iteNX ?_ ?_); (first | focus (intro zz; cases zz; done) | assumption | omega))
  | ((with_reducible refine y_ite ?_ ?_) <;> intro hh)
  | ((with_reducible refine y_iteN ?_ ?_) <;> intro hh)
  | dsimp only)
section
variable {P : Program} {w : World} {K : PySem.W.Frag} {mg : Str → Option Value} {base : Heap}
abbrev Spec := Str × Addr × List (Str × V)
def RowAt (H : Hp) (t : Addr) (s : Spec) : Prop := ∃ a b, H t = some (.tup [.str s.1, .ref a, .ref b]) ∧ ExAt H a s.2.1 s.2.2 ∧ ExAt H b s.2.1 s.2.2
theorem RowAt.same {H H' : Hp} {t : Addr} {s : Spec} (h : Same H H') (r : RowAt H t s) : RowAt H' t s := by
  obtain ⟨a, b, h1, h2, h3⟩ := r
  exact ⟨a, b, h _ _ h1, h2.same h, h3.same h⟩
theorem RowAt.lst {H : Hp} {t l : Addr} {o : HO} {xs : List V} {s : Spec} (hl : H l = some (.lst xs)) (r : RowAt H t s) : RowAt (upd H l o) t s := by
  obtain ⟨a, b, h1, h2, h3⟩ := r
  refine ⟨a, b, upd_oth (fun z => ?_) h1, h2.lst hl, h3.lst hl⟩
  rw [z, hl] at h1; cases h1
inductive Rows (H : Hp) : List Addr → List Spec → Prop
  | nil : Rows H [] []
  | cons {t : Addr} {s : Spec} {ts : List Addr} {ss : List Spec} : RowAt H t s → Rows H ts ss → Rows H (t :: ts) (s :: ss)
theorem Rows.imp {H H' : Hp} (f : ∀ t s, RowAt H t s → RowAt H' t s) : ∀ {ts : List Addr} {ss : List Spec}, Rows H ts ss → Rows H' ts ss
  | _, _, .nil => .nil
  | _, _, .cons h r => .cons (f _ _ h) (Rows.imp f r)
theorem Rows.same {H H' : Hp} (h : Same H H') {ts : List Addr} {ss : List Spec} (r : Rows H ts ss) : Rows H' ts ss := r.imp fun _ _ x => x.same h
theorem Rows.append {H : Hp} : ∀ {ts : List Addr} {ss : List Spec} {ts' : List Addr} {ss' : List Spec}, Rows H ts ss → Rows H ts' ss' → Rows H (ts ++ ts') (ss ++ ss')
  | _, _, _, _, .nil, r => r
  | _, _, _, _, .cons h a, r => .cons h (Rows.append a r)
theorem Rows.len {H : Hp} : ∀ {ts : List Addr} {ss : List Spec}, Rows H ts ss → ts.length = ss.length
  | _, _, .nil => rfl
  | _, _, .cons _ r => congrArg Nat.succ (Rows.len r)
theorem Rows.get {H : Hp} : ∀ {ts : List Addr} {ss : List Spec} {i : Nat} {t : Addr}, Rows H ts ss → ts[i]? = some t → ∃ s, ss[i]? = some s ∧ RowAt H t s
  | _, _, 0, _, .cons h r, e => by cases e; exact ⟨_, rfl, h⟩
  | _, _, i + 1, _, .cons h r, e => Rows.get (i := i) r e
structure RS (H0 H : Hp) (l : Addr) (ts : List Addr) (ss : List Spec) : Prop where
  new : H0 l = none
  lst : H l = some (.lst (ts.map V.ref))
  row : Rows H ts ss
  sam : Same H0 H
theorem RS.add {H0 H J1 J2 J3 : Hp} {l t a b C : Addr} {ts : List Addr} {ss : List Spec} {k : Str} {fs : List (Str × V)} (R : RS H0 H l ts ss) (s1 : Same H J1) (x1 : ExAt J1 a C fs) (s2 : Same J1 J2) (x2 : ExAt J2 b C fs) (n : J2 t = none) (s3 : Same J2 J3)
    (o : J3 t = some (.tup [.str k, .ref a, .ref b])) : RS H0 (upd J3 l (.lst (ts.map V.ref ++ [.ref t]))) l (ts ++ [t]) (ss ++ [(k, C, fs)]) := by
  have s := (s1.trans s2).trans s3
  have hl := s _ _ R.lst
  refine ⟨R.new, ?_, ?_, ?_⟩
  · rw [upd_same, List.map_append]; rfl
  · refine Rows.append ((R.row.same s).imp fun _ _ x => x.lst hl) (.cons (RowAt.lst hl ⟨a, b, o, x1.same (s2.trans s3), x2.same s3⟩) .nil)
  · exact fun q u e => upd_oth (ne_of_none e R.new) (s _ _ (R.sam _ _ e))
def g1 (f : Str) : List V → List (Str × V) := fun vs => [(f, vs.headD .non)]
def g2 (f g : Str) : List V → List (Str × V) := fun vs => [(g, vs.getD 1 .non), (f, vs.headD .non)]
def g2w (f g : Str) : List V → List (Str × V) := fun vs => [(g, vs.headD .non), (f, vs.getD 1 .non)]
structure MkAll (P : Program) (w : World) (K : PySem.W.Frag) (mg : Str → Option Value) (base : Heap) : Prop where
  M_BadName : Xv P w K mg base "BadName" (He.ga K "BadName") 1 [] (g1 "value")
  N_BadName : Xv P w K mg base "BadName" (He.ga K "BadName") 1 ["value"] (g1 "value")
  M_BadAmount : Xv P w K mg base "BadAmount" (He.ga K "BadAmount") 1 [] (g1 "value")
  N_BadAmount : Xv P w K mg base "BadAmount" (He.ga K "BadAmount") 1 ["value"] (g1 "value")
  M_BadGap : Xv P w K mg base "BadGap" (He.ga K "BadGap") 1 [] (g1 "part")
  N_BadGap : Xv P w K mg base "BadGap" (He.ga K "BadGap") 1 ["part"] (g1 "part")
  M_BadTool : Xv P w K mg base "BadTool" (He.ga K "BadTool") 1 [] (g1 "part")
  N_BadTool : Xv P w K mg base "BadTool" (He.ga K "BadTool") 1 ["part"] (g1 "part")
  M_BadMark : Xv P w K mg base "BadMark" (He.ga K "BadMark") 1 [] (g1 "value")
  N_BadMark : Xv P w K mg base "BadMark" (He.ga K "BadMark") 1 ["value"] (g1 "value")
  M_BadBook : Xv P w K mg base "BadBook" (He.ga K "BadBook") 1 [] (g1 "part")
  N_BadBook : Xv P w K mg base "BadBook" (He.ga K "BadBook") 1 ["part"] (g1 "part")
  M_BadWorld : Xv P w K mg base "BadWorld" (He.ga K "BadWorld") 1 [] (g1 "part")
  N_BadWorld : Xv P w K mg base "BadWorld" (He.ga K "BadWorld") 1 ["part"] (g1 "part")
  M_BadSaying : Xv P w K mg base "BadSaying" (He.ga K "BadSaying") 1 [] (g1 "part")
  N_BadSaying : Xv P w K mg base "BadSaying" (He.ga K "BadSaying") 1 ["part"] (g1 "part")
  M_BadPrice : Xv P w K mg base "BadPrice" (He.ga K "BadPrice") 1 [] (g1 "value")
  N_BadPrice : Xv P w K mg base "BadPrice" (He.ga K "BadPrice") 1 ["value"] (g1 "value")
  M_BadText : Xv P w K mg base "BadText" (He.ga K "BadText") 2 [] (g2 "line" "word")
  N_BadText : Xv P w K mg base "BadText" (He.ga K "BadText") 2 ["word", "line"] (g2w "line" "word")
  M_BadLine : Xv P w K mg base "BadLine" (He.ga K "BadLine") 1 [] (g1 "word")
  N_BadLine : Xv P w K mg base "BadLine" (He.ga K "BadLine") 1 ["word"] (g1 "word")
  M_NoThing : Xv P w K mg base "NoThing" (He.ga K "NoThing") 1 [] (g1 "name")
  N_NoThing : Xv P w K mg base "NoThing" (He.ga K "NoThing") 1 ["name"] (g1 "name")
  M_NoTool : Xv P w K mg base "NoTool" (He.ga K "NoTool") 1 [] (g1 "name")
  N_NoTool : Xv P w K mg base "NoTool" (He.ga K "NoTool") 1 ["name"] (g1 "name")
  M_NoMark : Xv P w K mg base "NoMark" (He.ga K "NoMark") 2 [] (g2 "tool" "thing")
  N_NoMark : Xv P w K mg base "NoMark" (He.ga K "NoMark") 2 ["thing", "tool"] (g2w "tool" "thing")
  M_Taken : Xv P w K mg base "Taken" (He.ga K "Taken") 2 [] (g2 "tool" "thing")
  N_Taken : Xv P w K mg base "Taken" (He.ga K "Taken") 2 ["thing", "tool"] (g2w "tool" "thing")
  M_Unlike : Xv P w K mg base "Unlike" (He.ga K "Unlike") 1 [] (g1 "part")
  N_Unlike : Xv P w K mg base "Unlike" (He.ga K "Unlike") 1 ["part"] (g1 "part")
  M_TooMany : Xv P w K mg base "TooMany" (He.ga K "TooMany") 2 [] (g2 "what" "most")
  N_TooMany : Xv P w K mg base "TooMany" (He.ga K "TooMany") 2 ["most", "what"] (g2w "what" "most")
  M_Barred : Xv P w K mg base "Barred" (He.ga K "Barred") 1 [] (g1 "sheets")
  N_Barred : Xv P w K mg base "Barred" (He.ga K "Barred") 1 ["sheets"] (g1 "sheets")
  M_Loose : Xv P w K mg base "Loose" (He.ga K "Loose") 1 [] (g1 "world")
  N_Loose : Xv P w K mg base "Loose" (He.ga K "Loose") 1 ["world"] (g1 "world")
def specsI (K : PySem.W.Frag) (v u : V) : List Spec := [("value", (He.ga K "BadName"), [("value", v)]), ("value", (He.ga K "BadAmount"), [("value", v)]), ("part", (He.ga K "BadGap"), [("part", v)]), ("part", (He.ga K "BadTool"), [("part", v)]), ("value", (He.ga K "BadMark"), [("value", v)]), ("part", (He.ga K "BadBook"), [("part", v)]), ("part", (He.ga K "BadWorld"), [("part", v)]), ("part", (He.ga K "BadSaying"), [("part", v)]), ("value", (He.ga K "BadPrice"), [("value", v)]), ("line word", (He.ga K "BadText"), [("word", u), ("line", v)]), ("word", (He.ga K "BadLine"), [("word", v)])]
def specsO (K : PySem.W.Frag) (v u : V) : List Spec := [("name", (He.ga K "NoThing"), [("name", v)]), ("name", (He.ga K "NoTool"), [("name", v)]), ("tool thing", (He.ga K "NoMark"), [("thing", u), ("tool", v)]), ("tool thing", (He.ga K "Taken"), [("thing", u), ("tool", v)]), ("part", (He.ga K "Unlike"), [("part", v)]), ("what most", (He.ga K "TooMany"), [("most", u), ("what", v)]), ("", (He.ga K "NoDivisor"), []), ("", (He.ga K "NoWorld"), []), ("", (He.ga K "NoRange"), []), ("", (He.ga K "NoDeed"), []), ("sheets", (He.ga K "Barred"), [("sheets", v)]), ("world", (He.ga K "Loose"), [("world", v)])]
def spI (K : PySem.W.Frag) : Sp := fun vs H Q _ => ∃ v u : V, vs = [v, u] ∧ ∀ l ts H', RS H H' l ts (specsI K v u) → Q (.ref l) H'
abbrev s_inputs : Stmt := topS 33
theorem sc_inputs : FnScope ["_law_one", "_law_two", "_law_found"] ["_law_one", "_law_two"] (defScope s_inputs) := ⟨rfl, rfl, rfl, by decide +kernel, rfl, by decide +kernel, by decide +kernel⟩
set_option maxHeartbeats 4000000 in
theorem ok_inputs {f : Addr} {fd : FuncData} (F : FnP K "_law_inputs" s_inputs f fd) (T : Top K mg) (MK : MkAll P w K mg base) : FnOk P w K mg base (L2.CX P w) 3 f fd ["_law_one", "_law_two"] (spI K) := by
  have nd := sc_inputs.nd
  refine F.ok sc_inputs (fun vs H Q E h => ?_) (fun cdv A outer s H vs Q E hr h => ?_)
  · obtain ⟨v, u, rfl, _⟩ := h
    rfl
  · obtain ⟨v, u, rfl, k⟩ := h
    refine ⟨_, PSs.nox (pss_cons (ps_set (i := 2) nd rfl (Or.inl rfl) (pe_lst pa_nil))
      (pss_cons (ps_expr (pe_bm PySem.F.plainAttrs_list PySem.F.slot_list_append PySem.F.type_list_append mt_append (pv 2) (pa_cons (pe_tup (pa_cons pe_str (pa_cons (xv MK.M_BadName (hr.mono (by decide)) (pa_cons (pv 0) pa_nil)) (pa_cons (xvK MK.N_BadName (hr.mono (by decide)) (pk_cons (pv 0) pk_nil)) pa_nil)))) pa_nil)))
      (pss_cons (ps_expr (pe_bm PySem.F.plainAttrs_list PySem.F.slot_list_append PySem.F.type_list_append mt_append (pv 2) (pa_cons (pe_tup (pa_cons pe_str (pa_cons (xv MK.M_BadAmount (hr.mono (by decide)) (pa_cons (pv 0) pa_nil)) (pa_cons (xvK MK.N_BadAmount (hr.mono (by decide)) (pk_cons (pv 0) pk_nil)) pa_nil)))) pa_nil)))
      (pss_cons (ps_expr (pe_bm PySem.F.plainAttrs_list PySem.F.slot_list_append PySem.F.type_list_append mt_append (pv 2) (pa_cons (pe_tup (pa_cons pe_str (pa_cons (xv MK.M_BadGap (hr.mono (by decide)) (pa_cons (pv 0) pa_nil)) (pa_cons (xvK MK.N_BadGap (hr.mono (by decide)) (pk_cons (pv 0) pk_nil)) pa_nil)))) pa_nil)))
      (pss_cons (ps_expr (pe_bm PySem.F.plainAttrs_list PySem.F.slot_list_append PySem.F.type_list_append mt_append (pv 2) (pa_cons (pe_tup (pa_cons pe_str (pa_cons (xv MK.M_BadTool (hr.mono (by decide)) (pa_cons (pv 0) pa_nil)) (pa_cons (xvK MK.N_BadTool (hr.mono (by decide)) (pk_cons (pv 0) pk_nil)) pa_nil)))) pa_nil)))
      (pss_cons (ps_expr (pe_bm PySem.F.plainAttrs_list PySem.F.slot_list_append PySem.F.type_list_append mt_append (pv 2) (pa_cons (pe_tup (pa_cons pe_str (pa_cons (xv MK.M_BadMark (hr.mono (by decide)) (pa_cons (pv 0) pa_nil)) (pa_cons (xvK MK.N_BadMark (hr.mono (by decide)) (pk_cons (pv 0) pk_nil)) pa_nil)))) pa_nil)))
      (pss_cons (ps_expr (pe_bm PySem.F.plainAttrs_list PySem.F.slot_list_append PySem.F.type_list_append mt_append (pv 2) (pa_cons (pe_tup (pa_cons pe_str (pa_cons (xv MK.M_BadBook (hr.mono (by decide)) (pa_cons (pv 0) pa_nil)) (pa_cons (xvK MK.N_BadBook (hr.mono (by decide)) (pk_cons (pv 0) pk_nil)) pa_nil)))) pa_nil)))
      (pss_cons (ps_expr (pe_bm PySem.F.plainAttrs_list PySem.F.slot_list_append PySem.F.type_list_append mt_append (pv 2) (pa_cons (pe_tup (pa_cons pe_str (pa_cons (xv MK.M_BadWorld (hr.mono (by decide)) (pa_cons (pv 0) pa_nil)) (pa_cons (xvK MK.N_BadWorld (hr.mono (by decide)) (pk_cons (pv 0) pk_nil)) pa_nil)))) pa_nil)))
      (pss_cons (ps_expr (pe_bm PySem.F.plainAttrs_list PySem.F.slot_list_append PySem.F.type_list_append mt_append (pv 2) (pa_cons (pe_tup (pa_cons pe_str (pa_cons (xv MK.M_BadSaying (hr.mono (by decide)) (pa_cons (pv 0) pa_nil)) (pa_cons (xvK MK.N_BadSaying (hr.mono (by decide)) (pk_cons (pv 0) pk_nil)) pa_nil)))) pa_nil)))
      (pss_cons (ps_expr (pe_bm PySem.F.plainAttrs_list PySem.F.slot_list_append PySem.F.type_list_append mt_append (pv 2) (pa_cons (pe_tup (pa_cons pe_str (pa_cons (xv MK.M_BadPrice (hr.mono (by decide)) (pa_cons (pv 0) pa_nil)) (pa_cons (xvK MK.N_BadPrice (hr.mono (by decide)) (pk_cons (pv 0) pk_nil)) pa_nil)))) pa_nil)))
      (pss_cons (ps_expr (pe_bm PySem.F.plainAttrs_list PySem.F.slot_list_append PySem.F.type_list_append mt_append (pv 2) (pa_cons (pe_tup (pa_cons pe_str (pa_cons (xv MK.M_BadText (hr.mono (by decide)) (pa_cons (pv 0) (pa_cons (pv 1) pa_nil))) (pa_cons (xvK MK.N_BadText (hr.mono (by decide)) (pk_cons (pv 1) (pk_cons (pv 0) pk_nil))) pa_nil)))) pa_nil)))
      (pss_cons (ps_expr (pe_bm PySem.F.plainAttrs_list PySem.F.slot_list_append PySem.F.type_list_append mt_append (pv 2) (pa_cons (pe_tup (pa_cons pe_str (pa_cons (xv MK.M_BadLine (hr.mono (by decide)) (pa_cons (pv 0) pa_nil)) (pa_cons (xvK MK.N_BadLine (hr.mono (by decide)) (pk_cons (pv 0) pk_nil)) pa_nil)))) pa_nil)))
      (pss_one (ps_ret (pv 2))))))))))))))), ?_⟩
    repeat walk_at "y"
    rename_i l H1 n1 s1 o1
    have R : RS H H1 l [] [] := ⟨n1, o1, .nil, s1⟩
    have hl := R.lst
    clear o1 s1
    refine ⟨rfl, fun a1 J1 na1 sa1 xa1 => ?_⟩
    repeat walk_at "y"
    refine ⟨rfl, fun a2 J2 na2 sa2 xa2 => ?_⟩
    repeat walk_at "y"
    rename_i t0 J3 n3 s3 o3
    replace R := R.add (fs := [("value", v)]) sa1 xa1 sa2 xa2 n3 s3 o3
    generalize (upd J3 l _) = H2 at R ⊢
    clear hl o3 s3 n3 xa2 sa2 na2 xa1 sa1 na1
    have hl := R.lst
    refine ⟨rfl, fun a1 J1 na1 sa1 xa1 => ?_⟩
    repeat walk_at "y"
    refine ⟨rfl, fun a2 J2 na2 sa2 xa2 => ?_⟩
    repeat walk_at "y"
    rename_i t1 J3 n3 s3 o3
    replace R := R.add (fs := [("value", v)]) sa1 xa1 sa2 xa2 n3 s3 o3
    generalize (upd J3 l _) = H2 at R ⊢
    clear hl o3 s3 n3 xa2 sa2 na2 xa1 sa1 na1
    have hl := R.lst
    refine ⟨rfl, fun a1 J1 na1 sa1 xa1 => ?_⟩
    repeat walk_at "y"
    refine ⟨rfl, fun a2 J2 na2 sa2 xa2 => ?_⟩
    repeat walk_at "y"
    rename_i t2 J3 n3 s3 o3
    replace R := R.add (fs := [("part", v)]) sa1 xa1 sa2 xa2 n3 s3 o3
    generalize (upd J3 l _) = H2 at R ⊢
    clear hl o3 s3 n3 xa2 sa2 na2 xa1 sa1 na1
    have hl := R.lst
    refine ⟨rfl, fun a1 J1 na1 sa1 xa1 => ?_⟩
    repeat walk_at "y"
    refine ⟨rfl, fun a2 J2 na2 sa2 xa2 => ?_⟩
    repeat walk_at "y"
    rename_i t3 J3 n3 s3 o3
    replace R := R.add (fs := [("part", v)]) sa1 xa1 sa2 xa2 n3 s3 o3
    generalize (upd J3 l _) = H2 at R ⊢
    clear hl o3 s3 n3 xa2 sa2 na2 xa1 sa1 na1
    have hl := R.lst
    refine ⟨rfl, fun a1 J1 na1 sa1 xa1 => ?_⟩
    repeat walk_at "y"
    refine ⟨rfl, fun a2 J2 na2 sa2 xa2 => ?_⟩
    repeat walk_at "y"
    rename_i t4 J3 n3 s3 o3
    replace R := R.add (fs := [("value", v)]) sa1 xa1 sa2 xa2 n3 s3 o3
    generalize (upd J3 l _) = H2 at R ⊢
    clear hl o3 s3 n3 xa2 sa2 na2 xa1 sa1 na1
    have hl := R.lst
    refine ⟨rfl, fun a1 J1 na1 sa1 xa1 => ?_⟩
    repeat walk_at "y"
    refine ⟨rfl, fun a2 J2 na2 sa2 xa2 => ?_⟩
    repeat walk_at "y"
    rename_i t5 J3 n3 s3 o3
    replace R := R.add (fs := [("part", v)]) sa1 xa1 sa2 xa2 n3 s3 o3
    generalize (upd J3 l _) = H2 at R ⊢
    clear hl o3 s3 n3 xa2 sa2 na2 xa1 sa1 na1
    have hl := R.lst
    refine ⟨rfl, fun a1 J1 na1 sa1 xa1 => ?_⟩
    repeat walk_at "y"
    refine ⟨rfl, fun a2 J2 na2 sa2 xa2 => ?_⟩
    repeat walk_at "y"
    rename_i t6 J3 n3 s3 o3
    replace R := R.add (fs := [("part", v)]) sa1 xa1 sa2 xa2 n3 s3 o3
    generalize (upd J3 l _) = H2 at R ⊢
    clear hl o3 s3 n3 xa2 sa2 na2 xa1 sa1 na1
    have hl := R.lst
    refine ⟨rfl, fun a1 J1 na1 sa1 xa1 => ?_⟩
    repeat walk_at "y"
    refine ⟨rfl, fun a2 J2 na2 sa2 xa2 => ?_⟩
    repeat walk_at "y"
    rename_i t7 J3 n3 s3 o3
    replace R := R.add (fs := [("part", v)]) sa1 xa1 sa2 xa2 n3 s3 o3
    generalize (upd J3 l _) = H2 at R ⊢
    clear hl o3 s3 n3 xa2 sa2 na2 xa1 sa1 na1
    have hl := R.lst
    refine ⟨rfl, fun a1 J1 na1 sa1 xa1 => ?_⟩
    repeat walk_at "y"
    refine ⟨rfl, fun a2 J2 na2 sa2 xa2 => ?_⟩
    repeat walk_at "y"
    rename_i t8 J3 n3 s3 o3
    replace R := R.add (fs := [("value", v)]) sa1 xa1 sa2 xa2 n3 s3 o3
    generalize (upd J3 l _) = H2 at R ⊢
    clear hl o3 s3 n3 xa2 sa2 na2 xa1 sa1 na1
    have hl := R.lst
    refine ⟨rfl, fun a1 J1 na1 sa1 xa1 => ?_⟩
    repeat walk_at "y"
    refine ⟨rfl, fun a2 J2 na2 sa2 xa2 => ?_⟩
    repeat walk_at "y"
    rename_i t9 J3 n3 s3 o3
    replace R := R.add (fs := [("word", u), ("line", v)]) sa1 xa1 sa2 xa2 n3 s3 o3
    generalize (upd J3 l _) = H2 at R ⊢
    clear hl o3 s3 n3 xa2 sa2 na2 xa1 sa1 na1
    have hl := R.lst
    refine ⟨rfl, fun a1 J1 na1 sa1 xa1 => ?_⟩
    repeat walk_at "y"
    refine ⟨rfl, fun a2 J2 na2 sa2 xa2 => ?_⟩
    repeat walk_at "y"
    rename_i t10 J3 n3 s3 o3
    replace R := R.add (fs := [("word", v)]) sa1 xa1 sa2 xa2 n3 s3 o3
    generalize (upd J3 l _) = H2 at R ⊢
    clear hl o3 s3 n3 xa2 sa2 na2 xa1 sa1 na1
    have hl := R.lst
    exact k _ _ _ R
def spO (K : PySem.W.Frag) : Sp := fun vs H Q _ => ∃ v u : V, vs = [v, u] ∧ ∀ l ts H', RS H H' l ts (specsO K v u) → Q (.ref l) H'
abbrev s_others : Stmt := topS 34
theorem sc_others : FnScope ["_law_one", "_law_two", "_law_found"] ["_law_one", "_law_two"] (defScope s_others) := ⟨rfl, rfl, rfl, by decide +kernel, rfl, by decide +kernel, by decide +kernel⟩
set_option maxHeartbeats 4000000 in
theorem ok_others {f : Addr} {fd : FuncData} (F : FnP K "_law_others" s_others f fd) (T : Top K mg) (MK : MkAll P w K mg base) : FnOk P w K mg base (L2.CX P w) 3 f fd ["_law_one", "_law_two"] (spO K) := by
  have nd := sc_others.nd
  refine F.ok sc_others (fun vs H Q E h => ?_) (fun cdv A outer s H vs Q E hr h => ?_)
  · obtain ⟨v, u, rfl, _⟩ := h
    rfl
  · obtain ⟨v, u, rfl, k⟩ := h
    refine ⟨_, PSs.nox (pss_cons (ps_set (i := 2) nd rfl (Or.inl rfl) (pe_lst pa_nil))
      (pss_cons (ps_expr (pe_bm PySem.F.plainAttrs_list PySem.F.slot_list_append PySem.F.type_list_append mt_append (pv 2) (pa_cons (pe_tup (pa_cons pe_str (pa_cons (xv MK.M_NoThing (hr.mono (by decide)) (pa_cons (pv 0) pa_nil)) (pa_cons (xvK MK.N_NoThing (hr.mono (by decide)) (pk_cons (pv 0) pk_nil)) pa_nil)))) pa_nil)))
      (pss_cons (ps_expr (pe_bm PySem.F.plainAttrs_list PySem.F.slot_list_append PySem.F.type_list_append mt_append (pv 2) (pa_cons (pe_tup (pa_cons pe_str (pa_cons (xv MK.M_NoTool (hr.mono (by decide)) (pa_cons (pv 0) pa_nil)) (pa_cons (xvK MK.N_NoTool (hr.mono (by decide)) (pk_cons (pv 0) pk_nil)) pa_nil)))) pa_nil)))
      (pss_cons (ps_expr (pe_bm PySem.F.plainAttrs_list PySem.F.slot_list_append PySem.F.type_list_append mt_append (pv 2) (pa_cons (pe_tup (pa_cons pe_str (pa_cons (xv MK.M_NoMark (hr.mono (by decide)) (pa_cons (pv 0) (pa_cons (pv 1) pa_nil))) (pa_cons (xvK MK.N_NoMark (hr.mono (by decide)) (pk_cons (pv 1) (pk_cons (pv 0) pk_nil))) pa_nil)))) pa_nil)))
      (pss_cons (ps_expr (pe_bm PySem.F.plainAttrs_list PySem.F.slot_list_append PySem.F.type_list_append mt_append (pv 2) (pa_cons (pe_tup (pa_cons pe_str (pa_cons (xv MK.M_Taken (hr.mono (by decide)) (pa_cons (pv 0) (pa_cons (pv 1) pa_nil))) (pa_cons (xvK MK.N_Taken (hr.mono (by decide)) (pk_cons (pv 1) (pk_cons (pv 0) pk_nil))) pa_nil)))) pa_nil)))
      (pss_cons (ps_expr (pe_bm PySem.F.plainAttrs_list PySem.F.slot_list_append PySem.F.type_list_append mt_append (pv 2) (pa_cons (pe_tup (pa_cons pe_str (pa_cons (xv MK.M_Unlike (hr.mono (by decide)) (pa_cons (pv 0) pa_nil)) (pa_cons (xvK MK.N_Unlike (hr.mono (by decide)) (pk_cons (pv 0) pk_nil)) pa_nil)))) pa_nil)))
      (pss_cons (ps_expr (pe_bm PySem.F.plainAttrs_list PySem.F.slot_list_append PySem.F.type_list_append mt_append (pv 2) (pa_cons (pe_tup (pa_cons pe_str (pa_cons (xv MK.M_TooMany (hr.mono (by decide)) (pa_cons (pv 0) (pa_cons (pv 1) pa_nil))) (pa_cons (xvK MK.N_TooMany (hr.mono (by decide)) (pk_cons (pv 1) (pk_cons (pv 0) pk_nil))) pa_nil)))) pa_nil)))
      (pss_cons (ps_expr (pe_bm PySem.F.plainAttrs_list PySem.F.slot_list_append PySem.F.type_list_append mt_append (pv 2) (pa_cons (pe_tup (pa_cons pe_str (pa_cons (xv0 T.q_NoDivisor T.g_NoDivisor T.k_NoDivisor) (pa_cons (xv0 T.q_NoDivisor T.g_NoDivisor T.k_NoDivisor) pa_nil)))) pa_nil)))
      (pss_cons (ps_expr (pe_bm PySem.F.plainAttrs_list PySem.F.slot_list_append PySem.F.type_list_append mt_append (pv 2) (pa_cons (pe_tup (pa_cons pe_str (pa_cons (xv0 T.q_NoWorld T.g_NoWorld T.k_NoWorld) (pa_cons (xv0 T.q_NoWorld T.g_NoWorld T.k_NoWorld) pa_nil)))) pa_nil)))
      (pss_cons (ps_expr (pe_bm PySem.F.plainAttrs_list PySem.F.slot_list_append PySem.F.type_list_append mt_append (pv 2) (pa_cons (pe_tup (pa_cons pe_str (pa_cons (xv0 T.q_NoRange T.g_NoRange T.k_NoRange) (pa_cons (xv0 T.q_NoRange T.g_NoRange T.k_NoRange) pa_nil)))) pa_nil)))
      (pss_cons (ps_expr (pe_bm PySem.F.plainAttrs_list PySem.F.slot_list_append PySem.F.type_list_append mt_append (pv 2) (pa_cons (pe_tup (pa_cons pe_str (pa_cons (xv0 T.q_NoDeed T.g_NoDeed T.k_NoDeed) (pa_cons (xv0 T.q_NoDeed T.g_NoDeed T.k_NoDeed) pa_nil)))) pa_nil)))
      (pss_cons (ps_expr (pe_bm PySem.F.plainAttrs_list PySem.F.slot_list_append PySem.F.type_list_append mt_append (pv 2) (pa_cons (pe_tup (pa_cons pe_str (pa_cons (xv MK.M_Barred (hr.mono (by decide)) (pa_cons (pv 0) pa_nil)) (pa_cons (xvK MK.N_Barred (hr.mono (by decide)) (pk_cons (pv 0) pk_nil)) pa_nil)))) pa_nil)))
      (pss_cons (ps_expr (pe_bm PySem.F.plainAttrs_list PySem.F.slot_list_append PySem.F.type_list_append mt_append (pv 2) (pa_cons (pe_tup (pa_cons pe_str (pa_cons (xv MK.M_Loose (hr.mono (by decide)) (pa_cons (pv 0) pa_nil)) (pa_cons (xvK MK.N_Loose (hr.mono (by decide)) (pk_cons (pv 0) pk_nil)) pa_nil)))) pa_nil)))
      (pss_one (ps_ret (pv 2)))))))))))))))), ?_⟩
    repeat walk_at "y"
    rename_i l H1 n1 s1 o1
    have R : RS H H1 l [] [] := ⟨n1, o1, .nil, s1⟩
    have hl := R.lst
    clear o1 s1
    refine ⟨rfl, fun a1 J1 na1 sa1 xa1 => ?_⟩
    repeat walk_at "y"
    refine ⟨rfl, fun a2 J2 na2 sa2 xa2 => ?_⟩
    repeat walk_at "y"
    rename_i t0 J3 n3 s3 o3
    replace R := R.add (fs := [("name", v)]) sa1 xa1 sa2 xa2 n3 s3 o3
    generalize (upd J3 l _) = H2 at R ⊢
    clear hl o3 s3 n3 xa2 sa2 na2 xa1 sa1 na1
    have hl := R.lst
    refine ⟨rfl, fun a1 J1 na1 sa1 xa1 => ?_⟩
    repeat walk_at "y"
    refine ⟨rfl, fun a2 J2 na2 sa2 xa2 => ?_⟩
    repeat walk_at "y"
    rename_i t1 J3 n3 s3 o3
    replace R := R.add (fs := [("name", v)]) sa1 xa1 sa2 xa2 n3 s3 o3
    generalize (upd J3 l _) = H2 at R ⊢
    clear hl o3 s3 n3 xa2 sa2 na2 xa1 sa1 na1
    have hl := R.lst
    refine ⟨rfl, fun a1 J1 na1 sa1 xa1 => ?_⟩
    repeat walk_at "y"
    refine ⟨rfl, fun a2 J2 na2 sa2 xa2 => ?_⟩
    repeat walk_at "y"
    rename_i t2 J3 n3 s3 o3
    replace R := R.add (fs := [("thing", u), ("tool", v)]) sa1 xa1 sa2 xa2 n3 s3 o3
    generalize (upd J3 l _) = H2 at R ⊢
    clear hl o3 s3 n3 xa2 sa2 na2 xa1 sa1 na1
    have hl := R.lst
    refine ⟨rfl, fun a1 J1 na1 sa1 xa1 => ?_⟩
    repeat walk_at "y"
    refine ⟨rfl, fun a2 J2 na2 sa2 xa2 => ?_⟩
    repeat walk_at "y"
    rename_i t3 J3 n3 s3 o3
    replace R := R.add (fs := [("thing", u), ("tool", v)]) sa1 xa1 sa2 xa2 n3 s3 o3
    generalize (upd J3 l _) = H2 at R ⊢
    clear hl o3 s3 n3 xa2 sa2 na2 xa1 sa1 na1
    have hl := R.lst
    refine ⟨rfl, fun a1 J1 na1 sa1 xa1 => ?_⟩
    repeat walk_at "y"
    refine ⟨rfl, fun a2 J2 na2 sa2 xa2 => ?_⟩
    repeat walk_at "y"
    rename_i t4 J3 n3 s3 o3
    replace R := R.add (fs := [("part", v)]) sa1 xa1 sa2 xa2 n3 s3 o3
    generalize (upd J3 l _) = H2 at R ⊢
    clear hl o3 s3 n3 xa2 sa2 na2 xa1 sa1 na1
    have hl := R.lst
    refine ⟨rfl, fun a1 J1 na1 sa1 xa1 => ?_⟩
    repeat walk_at "y"
    refine ⟨rfl, fun a2 J2 na2 sa2 xa2 => ?_⟩
    repeat walk_at "y"
    rename_i t5 J3 n3 s3 o3
    replace R := R.add (fs := [("most", u), ("what", v)]) sa1 xa1 sa2 xa2 n3 s3 o3
    generalize (upd J3 l _) = H2 at R ⊢
    clear hl o3 s3 n3 xa2 sa2 na2 xa1 sa1 na1
    have hl := R.lst
    refine fun a1 J1 na1 sa1 xa1 => ?_
    repeat walk_at "y"
    refine fun a2 J2 na2 sa2 xa2 => ?_
    repeat walk_at "y"
    rename_i t6 J3 n3 s3 o3
    replace R := R.add (fs := []) sa1 xa1 sa2 xa2 n3 s3 o3
    generalize (upd J3 l _) = H2 at R ⊢
    clear hl o3 s3 n3 xa2 sa2 na2 xa1 sa1 na1
    have hl := R.lst
    refine fun a1 J1 na1 sa1 xa1 => ?_
    repeat walk_at "y"
    refine fun a2 J2 na2 sa2 xa2 => ?_
    repeat walk_at "y"
    rename_i t7 J3 n3 s3 o3
    replace R := R.add (fs := []) sa1 xa1 sa2 xa2 n3 s3 o3
    generalize (upd J3 l _) = H2 at R ⊢
    clear hl o3 s3 n3 xa2 sa2 na2 xa1 sa1 na1
    have hl := R.lst
    refine fun a1 J1 na1 sa1 xa1 => ?_
    repeat walk_at "y"
    refine fun a2 J2 na2 sa2 xa2 => ?_
    repeat walk_at "y"
    rename_i t8 J3 n3 s3 o3
    replace R := R.add (fs := []) sa1 xa1 sa2 xa2 n3 s3 o3
    generalize (upd J3 l _) = H2 at R ⊢
    clear hl o3 s3 n3 xa2 sa2 na2 xa1 sa1 na1
    have hl := R.lst
    refine fun a1 J1 na1 sa1 xa1 => ?_
    repeat walk_at "y"
    refine fun a2 J2 na2 sa2 xa2 => ?_
    repeat walk_at "y"
    rename_i t9 J3 n3 s3 o3
    replace R := R.add (fs := []) sa1 xa1 sa2 xa2 n3 s3 o3
    generalize (upd J3 l _) = H2 at R ⊢
    clear hl o3 s3 n3 xa2 sa2 na2 xa1 sa1 na1
    have hl := R.lst
    refine ⟨rfl, fun a1 J1 na1 sa1 xa1 => ?_⟩
    repeat walk_at "y"
    refine ⟨rfl, fun a2 J2 na2 sa2 xa2 => ?_⟩
    repeat walk_at "y"
    rename_i t10 J3 n3 s3 o3
    replace R := R.add (fs := [("sheets", v)]) sa1 xa1 sa2 xa2 n3 s3 o3
    generalize (upd J3 l _) = H2 at R ⊢
    clear hl o3 s3 n3 xa2 sa2 na2 xa1 sa1 na1
    have hl := R.lst
    refine ⟨rfl, fun a1 J1 na1 sa1 xa1 => ?_⟩
    repeat walk_at "y"
    refine ⟨rfl, fun a2 J2 na2 sa2 xa2 => ?_⟩
    repeat walk_at "y"
    rename_i t11 J3 n3 s3 o3
    replace R := R.add (fs := [("world", v)]) sa1 xa1 sa2 xa2 n3 s3 o3
    generalize (upd J3 l _) = H2 at R ⊢
    clear hl o3 s3 n3 xa2 sa2 na2 xa1 sa1 na1
    have hl := R.lst
    exact k _ _ _ R
end
end LW
set_option maxRecDepth 100000
namespace LW
open PySem PySem.Spec PyProof.Rows L2 OZ
local macro_rules | `(tactic| walk_at "ex") => `(tactic| first
  | assumption
  | (refine ExAt.same (by assumption) ?_; walk_at "ex"))
local macro_rules | `(tactic| walk_at "same") => `(tactic| first
  | assumption
  | exact same0
  | (refine Same.trans ?_ (by assumption); walk_at "same"))
local macro_rules | `(tactic| walk_at "free") => `(tactic| first
  | assumption
  | (refine sfree (by assumption) ?_; walk_at "free"))
local macro_rules | `(tactic| walk_at "hp") => `(tactic| first
  | assumption
  | exact upd_same
  | (refine sat (by assumption) ?_; walk_at "hp")
  | (refine upd_old ?_ ?_; (first | assumption | exact free_upd (by assumption)); walk_at "hp")
  | (refine upd_oth ?_ ?_; (first | assumption | exact Ne.symm (by assumption)); walk_at "hp"))
local macro_rules | `(tactic| walk_at "side") => `(tactic| first
  | assumption
  | decide
  | omega
  | exact ⟨by omega, by omega, by omega⟩
  | exact Or.inl ⟨by omega, by omega⟩
  | exact Or.inr ⟨by omega, by omega⟩
  | (show (_ : Int) ≠ 0; omega)
  | exact wide_div (b := 64) (by omega) (by omega) (by decide) (by decide)
  | exact wide_div (b := 4000) (by assumption) (by assumption) (by decide) (by decide))
local macro_rules | `(tactic| walk_at "y") => `(tactic| first
  | ((with_reducible refine y_var ?_); refine ⟨_, rfl, ?_⟩)
  | with_reducible refine y_c ?_
  | with_reducible refine y_op ?_
  | with_reducible refine y_cb ?_
  | with_reducible refine y_cons ?_
  | with_reducible refine y_nil ?_
  | with_reducible refine y_seq ?_
  | with_reducible refine y_asg ?_
  | with_reducible refine y_gn ?_
  | with_reducible refine y_gsub ?_
  | with_reducible refine y_ret ?_
  | with_reducible refine y_drop ?_
  | with_reducible refine y_next ?_
  | with_reducible refine y_ifS ?_
  | with_reducible refine y_test ?_
  | with_reducible refine y_B ?_
  | with_reducible refine y_ex ?_
  | with_reducible refine y_not ?_
  | with_reducible refine y_and ?_
  | with_reducible refine y_or ?_
  | with_reducible refine y_notV ?_
  | with_reducible refine y_andV ?_
  | with_reducible refine y_orV ?_
  | with_reducible refine y_ifE ?_
  | with_reducible refine y_un ?_
  | with_reducible refine y_par ?_
  | with_reducible refine y_ex2 ?_
  | with_reducible refine y_call ?_
  | with_reducible refine y_callS ?_
  | with_reducible refine y_I0 ?_
  | ((with_reducible refine y_I ?_ ?_); (walk_at "side"))
  | with_reducible refine y_U ?_
  | ((with_reducible refine y_eq ?_ ?_); (exact rfl))
  | ((with_reducible refine y_ne ?_ ?_); (exact rfl))
  | ((with_reducible refine' y_ixL ?k1 ?k2 ?k3); (case k1 => walk_at "hp"); (case k2 => exact rfl))
  | ((with_reducible refine' y_ixT ?k1 ?k2 ?k3); (case k1 => walk_at "hp"); (case k2 => exact rfl))
  | ((with_reducible refine' y_setL ?k1 ?k2 ?k3); (case k1 => walk_at "hp"); (case k2 => exact rfl))
  | with_reducible refine y_int ?_
  | with_reducible refine y_intB ?_
  | with_reducible refine y_abs ?_
  | ((with_reducible refine' y_lenL ?k1 ?k3); (case k1 => walk_at "hp"))
  | ((with_reducible refine' y_lenT ?k1 ?k3); (case k1 => walk_at "hp"))
  | ((with_reducible refine y_lenS ?_ ?_); (walk_at "side"))
  | with_reducible refine y_isN ?_
  | with_reducible refine y_notN ?_
  | ((with_reducible refine y_addS ?_ ?_); (walk_at "side"))
  | with_reducible refine y_inC ?_
  | with_reducible refine y_notInC ?_
  | with_reducible refine y_sl ?_
  | with_reducible refine y_part ?_
  | with_reducible refine y_nopart ?_
  | with_reducible refine y_exI ?_
  | ((with_reducible refine y_slS ?_ ?_); (walk_at "side"))
  | with_reducible refine z_lst ?_
  | with_reducible refine z_tup ?_
  | ((with_reducible refine z_newL ?_ ?_); (exact Nat.le_of_ble_eq_true rfl); (intro pp HH npp spp opp))
  | ((with_reducible refine z_newT ?_ ?_); (exact Nat.le_of_ble_eq_true rfl); (intro pp HH npp spp opp))
  | ((with_reducible refine' y_chI ?k1 ?k2); (case k1 => exact rfl))
  | with_reducible refine y_chain ?_
  | with_reducible refine y_yes ?_
  | with_reducible refine y_att ?_
  | ((with_reducible refine y_disp ?_ ?_); (exact Nat.le_of_ble_eq_true rfl); (intro pp hpp))
  | ((with_reducible refine' y_gtup ?k1 ?k2 ?k3); (case k1 => walk_at "hp"); (case k2 => exact rfl))
  | with_reducible refine y_gcons ?_
  | with_reducible refine y_gnil ?_
  | with_reducible refine y_mkO ?_
  | with_reducible refine y_callKw ?_
  | with_reducible refine y_for ?_
  | with_reducible refine y_iList ?_
  | with_reducible refine y_iTup ?_
  | with_reducible refine y_iEnum ?_
  | ((with_reducible refine' y_itL ?k1 ?k2); (case k1 => walk_at "hp"))
  | ((with_reducible refine' y_itT ?k1 ?k2); (case k1 => walk_at "hp"))
  | ((with_reducible refine' y_itE ?k1 ?k2); (case k1 => walk_at "hp"))
  | with_reducible refine y_m0 ?_
  | ((with_reducible refine' z_slT ?k1 ?k2 ?k3); (case k1 => walk_at "hp"); (case k2 => decide); (intro pp HH npp spp opp))
  | with_reducible refine y_pp ?_
  | with_reducible refine y_pp0 ?_
  | with_reducible refine y_xv ?_
  | with_reducible refine y_xv0 ?_
  | with_reducible refine y_bm ?_
  | ((with_reducible refine' y_tyL ?k1 ?k2); (case k1 => walk_at "hp"))
  | ((with_reducible refine' y_app ?k1 ?k2 ?k3); (case k1 => walk_at "hp"); (case k2 => (first | exact Nat.le_of_ble_eq_true rfl | walk_at "side")))
  | ((with_reducible refine' z_cat ?k1 ?k2 ?k3 ?k4); (case k1 => walk_at "hp"); (case k2 => walk_at "hp"); (case k3 => (first | exact Nat.le_of_ble_eq_true rfl | walk_at "side")); (intro pp HH npp spp opp))
  | ((with_reducible refine' z_slL ?k1 ?k2); (case k1 => walk_at "hp"); (intro pp HH npp spp opp))
  | ((with_reducible refine' y_in ?k1 ?k2 ?k3 ?k4); (case k1 => walk_at "hp"); (case k2 => exact rfl); (case k3 => exact rfl))
  | with_reducible refine y_iteT ?_
  | with_reducible refine y_iteF ?_
  | with_reducible refine y_iteNT ?_
  | with_reducible refine y_iteNF ?_
  | ((with_reducible refine y_iteY ?_ ?_); (first | exact rfl | assumption | omega))
  | ((with_reducible refine y_iteX ?_ ?_); (first | focus (intro zz; cases zz; done) | assumption | omega))
  | ((with_reducible refine y_iteNY ?_ ?_); (first | exact rfl | assumption | omega))
  | ((with_reducible refine y_iteNX ?_ ?_); (first | focus (intro zz; cases zz; done) | assumption | omega))
  | ((with_reducible refine y_ite ?_ ?_) <;> intro hh)
  | ((with_reducible refine y_iteN ?_ ?_) <;> intro hh)
  | dsimp only)
section
variable {P : Program} {w : World} {K : PySem.W.Frag} {mg : Str → Option Value} {base : Heap}
def pairs : List (Str × Str) := [("BadName", "value"), ("BadAmount", "value"), ("BadGap", "part"), ("BadTool", "part"), ("BadMark", "value"), ("BadBook", "part"), ("BadWorld", "part"), ("BadSaying", "part"), ("BadPrice", "value"), ("BadLine", "word"), ("NoThing", "name"), ("NoTool", "name"), ("Unlike", "part"), ("Barred", "sheets"), ("Loose", "world"), ("BadText", "line"), ("BadText", "word"), ("NoMark", "tool"), ("NoMark", "thing"), ("Taken", "tool"), ("Taken", "thing"), ("TooMany", "what"), ("TooMany", "most")]
theorem boolsAll {K : PySem.W.Frag} {H : Hp} : ∀ bs : List Bool, DpAll K H (bs.map V.bl) (bs.map PyData.bool)
  | [] => .nil
  | b :: r => .cons (.bl b) (boolsAll r)
theorem bools_eqv : ∀ bs : List Bool, PyData.eqvAll (bs.map PyData.bool) (bs.map PyData.bool) = true
  | [] => rfl
  | b :: r => by simp [PyData.eqvAll, PyData.eqv, bools_eqv r]
theorem bools_lay : ∀ bs : List Bool, PyData.canLayAll0 (bs.map PyData.bool) = true
  | [] => rfl
  | b :: r => by simp [PyData.canLayAll0, PyData.canLay0, bools_lay r]
theorem bools_depth : ∀ bs : List Bool, PyData.depthAll (bs.map PyData.bool) = 0
  | [] => rfl
  | b :: r => by simp [PyData.depthAll, PyData.depth, bools_depth r]
theorem bools_shaped (bs : List Bool) : SeqAt.shaped (.list (bs.map PyData.bool)) = true := by
  simp [SeqAt.shaped, PyData.canLay0, PyData.depth, bools_lay, bools_depth]
theorem y_neB {K : PySem.W.Frag} {H : Hp} {Q : VK} {a b : Addr} (bs : List Bool) (h1 : H a = some (.lst (bs.map V.bl))) (h2 : H b = some (.lst (bs.map V.bl))) (h : Q (.bl false) H) : rNeD K (.ref a) (.ref b) H Q := by
  refine ⟨_, _, .lst (SqL.of h1) (boolsAll bs), .lst (SqL.of h2) (boolsAll bs), bools_shaped bs, bools_shaped bs, ?_⟩
  have e : PyData.eqv (.list (bs.map PyData.bool)) (.list (bs.map PyData.bool)) = true := by simp [PyData.eqv, bools_eqv]
  rw [e]; exact h
def specs (K : PySem.W.Frag) (v u : V) : List Spec := specsI K v u ++ specsO K v u
theorem cut_nat {v u : V} {n : Nat} : cutV [v, u] none (some (n : Int)) = [v, u].take n := by
  unfold cutV
  have h1 : HT.sIx [v, u].length 0 none = 0 := rfl
  have h2 : HT.sIx [v, u].length [v, u].length (some (n : Int)) = min n [v, u].length := HT.sIx_nat _ _ n
  rw [h1, h2, List.drop_zero, Nat.sub_zero, ← List.take_take, List.take_length]
structure SpecOk (K : PySem.W.Frag) (v u : V) (i : Nat) (s : Spec) : Prop where
  kd : KindOk K s.2.1 s.2.2 s.1 ([v, u].take (Txt.words s.1).length)
  ln : s.1.length + 2 ≤ sizeLine
  ec : ErrC K s.2.1 i
theorem w0 : (Txt.words "").length = 0 := by decide +kernel
theorem ln_0 : ("" : Str).length + 2 ≤ sizeLine := by decide +kernel
theorem wd_1 : (Txt.words "line word").length = 2 := by decide +kernel
theorem ln_1 : ("line word" : Str).length + 2 ≤ sizeLine := by decide +kernel
theorem tw_1 : (("line word", "line", "word") : Str × Str × Str) ∈ twos := by decide +kernel
theorem wd_2 : (Txt.words "name").length = 1 := by decide +kernel
theorem ln_2 : ("name" : Str).length + 2 ≤ sizeLine := by decide +kernel
theorem on_2 : ("name" : Str) ∈ ones := by decide +kernel
theorem wd_3 : (Txt.words "part").length = 1 := by decide +kernel
theorem ln_3 : ("part" : Str).length + 2 ≤ sizeLine := by decide +kernel
theorem on_3 : ("part" : Str) ∈ ones := by decide +kernel
theorem wd_4 : (Txt.words "sheets").length = 1 := by decide +kernel
theorem ln_4 : ("sheets" : Str).length + 2 ≤ sizeLine := by decide +kernel
theorem on_4 : ("sheets" : Str) ∈ ones := by decide +kernel
theorem wd_5 : (Txt.words "tool thing").length = 2 := by decide +kernel
theorem ln_5 : ("tool thing" : Str).length + 2 ≤ sizeLine := by decide +kernel
theorem tw_5 : (("tool thing", "tool", "thing") : Str × Str × Str) ∈ twos := by decide +kernel
theorem wd_6 : (Txt.words "value").length = 1 := by decide +kernel
theorem ln_6 : ("value" : Str).length + 2 ≤ sizeLine := by decide +kernel
theorem on_6 : ("value" : Str) ∈ ones := by decide +kernel
theorem wd_7 : (Txt.words "what most").length = 2 := by decide +kernel
theorem ln_7 : ("what most" : Str).length + 2 ≤ sizeLine := by decide +kernel
theorem tw_7 : (("what most", "what", "most") : Str × Str × Str) ∈ twos := by decide +kernel
theorem wd_8 : (Txt.words "word").length = 1 := by decide +kernel
theorem ln_8 : ("word" : Str).length + 2 ≤ sizeLine := by decide +kernel
theorem on_8 : ("word" : Str) ∈ ones := by decide +kernel
theorem wd_9 : (Txt.words "world").length = 1 := by decide +kernel
theorem ln_9 : ("world" : Str).length + 2 ≤ sizeLine := by decide +kernel
theorem on_9 : ("world" : Str) ∈ ones := by decide +kernel
theorem spec_ok {K : PySem.W.Frag} {v u : V} (na : ∀ q ∈ pairs, NoAttr K (He.ga K q.1) q.2) (ec : ∀ i, i < 23 → ErrC K (He.ga K (cls23.getD i "")) i) {i : Nat} {s : Spec} (h : (specs K v u)[i]? = some s) : SpecOk K v u i s := by
  have hi : i < 23 := by
    have := (List.getElem?_eq_some_iff.mp h).1
    exact this
  have e := ec i hi
  match i, hi with
  | 0, _ =>
    cases h
    exact ⟨by rw [wd_6]; exact .one on_6 (na ("BadName", "value") (by decide)) rfl, ln_6, e⟩
  | 1, _ =>
    cases h
    exact ⟨by rw [wd_6]; exact .one on_6 (na ("BadAmount", "value") (by decide)) rfl, ln_6, e⟩
  | 2, _ =>
    cases h
    exact ⟨by rw [wd_3]; exact .one on_3 (na ("BadGap", "part") (by decide)) rfl, ln_3, e⟩
  | 3, _ =>
    cases h
    exact ⟨by rw [wd_3]; exact .one on_3 (na ("BadTool", "part") (by decide)) rfl, ln_3, e⟩
  | 4, _ =>
    cases h
    exact ⟨by rw [wd_6]; exact .one on_6 (na ("BadMark", "value") (by decide)) rfl, ln_6, e⟩
  | 5, _ =>
    cases h
    exact ⟨by rw [wd_3]; exact .one on_3 (na ("BadBook", "part") (by decide)) rfl, ln_3, e⟩
  | 6, _ =>
    cases h
    exact ⟨by rw [wd_3]; exact .one on_3 (na ("BadWorld", "part") (by decide)) rfl, ln_3, e⟩
  | 7, _ =>
    cases h
    exact ⟨by rw [wd_3]; exact .one on_3 (na ("BadSaying", "part") (by decide)) rfl, ln_3, e⟩
  | 8, _ =>
    cases h
    exact ⟨by rw [wd_6]; exact .one on_6 (na ("BadPrice", "value") (by decide)) rfl, ln_6, e⟩
  | 9, _ =>
    cases h
    exact ⟨by rw [wd_1]; exact .two (f := "line") (g := "word") tw_1 (na ("BadText", "line") (by decide)) (na ("BadText", "word") (by decide)) rfl rfl, ln_1, e⟩
  | 10, _ =>
    cases h
    exact ⟨by rw [wd_8]; exact .one on_8 (na ("BadLine", "word") (by decide)) rfl, ln_8, e⟩
  | 11, _ =>
    cases h
    exact ⟨by rw [wd_2]; exact .one on_2 (na ("NoThing", "name") (by decide)) rfl, ln_2, e⟩
  | 12, _ =>
    cases h
    exact ⟨by rw [wd_2]; exact .one on_2 (na ("NoTool", "name") (by decide)) rfl, ln_2, e⟩
  | 13, _ =>
    cases h
    exact ⟨by rw [wd_5]; exact .two (f := "tool") (g := "thing") tw_5 (na ("NoMark", "tool") (by decide)) (na ("NoMark", "thing") (by decide)) rfl rfl, ln_5, e⟩
  | 14, _ =>
    cases h
    exact ⟨by rw [wd_5]; exact .two (f := "tool") (g := "thing") tw_5 (na ("Taken", "tool") (by decide)) (na ("Taken", "thing") (by decide)) rfl rfl, ln_5, e⟩
  | 15, _ =>
    cases h
    exact ⟨by rw [wd_3]; exact .one on_3 (na ("Unlike", "part") (by decide)) rfl, ln_3, e⟩
  | 16, _ =>
    cases h
    exact ⟨by rw [wd_7]; exact .two (f := "what") (g := "most") tw_7 (na ("TooMany", "what") (by decide)) (na ("TooMany", "most") (by decide)) rfl rfl, ln_7, e⟩
  | 17, _ =>
    cases h
    exact ⟨by rw [w0]; exact .no, ln_0, e⟩
  | 18, _ =>
    cases h
    exact ⟨by rw [w0]; exact .no, ln_0, e⟩
  | 19, _ =>
    cases h
    exact ⟨by rw [w0]; exact .no, ln_0, e⟩
  | 20, _ =>
    cases h
    exact ⟨by rw [w0]; exact .no, ln_0, e⟩
  | 21, _ =>
    cases h
    exact ⟨by rw [wd_4]; exact .one on_4 (na ("Barred", "sheets") (by decide)) rfl, ln_4, e⟩
  | 22, _ =>
    cases h
    exact ⟨by rw [wd_9]; exact .one on_9 (na ("Loose", "world") (by decide)) rfl, ln_9, e⟩
  | n + 23, h => exact absurd h (by omega)
theorem take_dq {p : Addr} {H : Hp} {v u : V} {d e : PyData} (h1 : Dq p H v d) (h2 : Dq p H u e) : ∀ n : Nat, DqAll p H ([v, u].take n) ([d, e].take n)
  | 0 => .nil
  | 1 => .cons h1 .nil
  | n + 2 => by simpa using DqAll.cons h1 (DqAll.cons h2 DqAll.nil)
theorem take_fit {d e : PyData} (h1 : Fit d 10 3000) (h2 : Fit e 10 3000) (n : Nat) : Fit (.list ([d, e].take n)) 20 10000 := by
  obtain ⟨a1, a2, a3, a4⟩ := h1
  obtain ⟨b1, b2, b3, b4⟩ := h2
  match n with
  | 0 => exact ⟨rfl, rfl, by simp [PyData.depth, PyData.depthAll], by simp [PyData.weight, PyData.weightAll]⟩
  | 1 => exact ⟨by simp [PyData.showable, PyData.showableAll, a1], by simp [PyData.leavesShort, PyData.leavesShortAll, a2], by simp [PyData.depth, PyData.depthAll]; omega, by simp [PyData.weight, PyData.weightAll]; omega⟩
  | n + 2 => exact ⟨by simp [PyData.showable, PyData.showableAll, a1, b1], by simp [PyData.leavesShort, PyData.leavesShortAll, a2, b2], by simp [PyData.depth, PyData.depthAll]; omega, by simp [PyData.weight, PyData.weightAll]; omega⟩
theorem specs_len {K : PySem.W.Frag} {v u : V} : (specs K v u).length = 23 := rfl
def spLaw (K : PySem.W.Frag) : Sp := fun vs H Q _ => ∃ (a : Addr) (ns : List Int), vs = [.ref a] ∧ SqL K H a (ns.map V.int) ∧ ns.length ≤ 63 ∧ ∀ H', Q (.bl true) H'
abbrev s_law : Stmt := topS 39
theorem sc_law : FnScope ["_law_script", "_law_pen_here", "_law_turn", "_law_one", "_law_two", "_law_spot", "_law_row", "_law_due", "_law_error", "_law_bases", "_law_other"] ["_law_script"] (defScope s_law) := ⟨rfl, rfl, rfl, by decide +kernel, rfl, by decide +kernel, by decide +kernel⟩
set_option maxHeartbeats 4000000 in
theorem ok_law {f : Addr} {fd : FuncData} (F : FnP K "law" s_law f fd) (T : Top K mg) (na : ∀ q ∈ pairs, NoAttr K (He.ga K q.1) q.2) (ec : ∀ i, i < 23 → ErrC K (He.ga K (cls23.getD i "")) i)
    (F_law_pen : Fnc P w K mg base 1 "_law_pen" ["_law_script"] (spPen K)) (F_law_thing : Fnc P w K mg base 3 "_law_thing" ["_law_pen_here"] spThing) (F_law_inputs : Fnc P w K mg base 3 "_law_inputs" ["_law_one", "_law_two"] (spI K)) (F_law_others : Fnc P w K mg base 3 "_law_others" ["_law_one", "_law_two"] (spO K))
    (F_law_kept : Fnc P w K mg base 2 "_law_kept" ["_law_kind", "_law_error"] (spKept K)) (F_law_classes : Fnc P w K mg base 1 "_law_classes" ["_law_error"] (spClasses K)) (F_law_is_strange : Fnc P w K mg base 1 "_law_is_strange" ["_law_error"] (spStrange K)) :
    FnG P w K mg base 8 f fd ["_law_script"] (spLaw K) := by
  have nd := sc_law.nd
  refine fnG_of F sc_law (fun vs H Q E h => ?_) (fun cdv A outer s H vs Q E hr gd h => ?_)
  · obtain ⟨a, ns, rfl, _⟩ := h
    rfl
  · obtain ⟨a, ns, rfl, hS, hl, k⟩ := h
    have hu64 := hr.units
    refine ⟨_, PSs.nox (pss_cons (ps_set (i := 1) nd rfl (Or.inl rfl) (oc F_law_pen (hr.mono (by decide)) (pa_cons (pv 0) pa_nil)))
      (pss_cons (ps_for PassesOwn.never rfl (pi_range1 (by rfl) T.n_range (pa_cons pe_int pa_nil)) (pg_name (i := 2) nd rfl (Or.inl rfl))
        (pss_cons (ps_par (i := 3) (j := 4) (by rfl) nd rfl rfl (by decide) rfl rfl (pa_cons (oc F_law_thing (hr.mono (by decide)) (pa_cons (pv 1) pa_nil)) (pa_cons (oc F_law_thing (hr.mono (by decide)) (pa_cons (pv 1) pa_nil)) pa_nil)) (by rfl))
        (pss_one (ps_for PassesOwn.never rfl (pi_enum (by rfl) T.n_enumerate (pa_cons (pe_op op_cat (oc F_law_inputs (hr.mono (by decide)) (pa_cons (pv 3) (pa_cons (pv 4) pa_nil))) (oc F_law_others (hr.mono (by decide)) (pa_cons (pv 3) (pa_cons (pv 4) pa_nil)))) pa_nil)) (pg_tup rfl (pgs_cons (pg_name (i := 5) nd rfl (Or.inr rfl)) (pgs_cons (pg_name (i := 6) nd rfl (Or.inl rfl)) pgs_nil)))
          (pss_cons (ps_set (i := 7) nd rfl (Or.inl rfl) (pe_lst (pa_cons (pe_cmpR op_lt (pv 5) pe_int (nomark _)) (pa_cons (pe_chain op_le op_lt pe_int (pv 5) pe_int) (pa_cons (pe_chain op_le op_lt pe_int (pv 5) pe_int) pa_nil)))))
          (pss_one (ps_for PassesOwn.never rfl (pi_tup (pe_slice sl_tup (pv 6) (po_some pe_int) po_none)) (pg_name (i := 8) nd rfl (Or.inl rfl))
            (pss_cons (ps_if (pt_cmpR op_ne (pe_callB (c_reprE gd hr T.sm) (by rfl) T.n_repr (by decide +kernel) (pa_cons (oc F_law_kept (hr.mono (by decide)) (pa_cons (pe_ix ix_tup (pv 6) pe_int (fun _ _ => rfl)) (pa_cons (pv 8) pa_nil))) pa_nil)) (pe_callB (c_reprE gd hr T.sm) (by rfl) T.n_repr (by decide +kernel) (pa_cons (pe_slice sl_list (pe_lst (pa_cons (pv 3) (pa_cons (pv 4) pa_nil))) po_none (po_some (pe_callB c_len (by rfl) T.n_len (by decide +kernel) (pa_cons (pe_words (pe_ix ix_tup (pv 6) pe_int (fun _ _ => rfl))) pa_nil)))) pa_nil)) (nomark _))
              (pss_one (ps_ret pe_bl))
              pss_nil)
            (pss_cons (ps_set (i := 9) nd rfl (Or.inl rfl) (pe_lst (pa_cons (pe_callB c_isA (by rfl) T.n_isinstance (by decide +kernel) (pa_cons (pv 8) (pa_cons (og_ref T.g_BadInput) pa_nil))) (pa_cons (pe_callB c_isA (by rfl) T.n_isinstance (by decide +kernel) (pa_cons (pv 8) (pa_cons (og_ref T.g_Refused) pa_nil))) (pa_cons (pe_callB c_isA (by rfl) T.n_isinstance (by decide +kernel) (pa_cons (pv 8) (pa_cons (og_ref T.g_NoAnswer) pa_nil))) pa_nil)))))
            (pss_cons (ps_if (PW.pt (pw_or (pt_cmpR (op_neD hu64) (pv 9) (pv 7) (nomark _)) (pw_or (pt_not (pt_val (pe_callB c_isA (by rfl) T.n_isinstance (by decide +kernel) (pa_cons (pv 8) (pa_cons (og_ref T.g_OwnError) pa_nil))))) (pw_or1 (pt_not (pt_val (pe_callB c_isA (by rfl) T.n_isinstance (by decide +kernel) (pa_cons (pv 8) (pa_cons (ob_ty (T := "ValueError") T.n_ValueError (by decide +kernel)) pa_nil)))))))))
              (pss_one (ps_ret pe_bl))
              pss_nil)
            (pss_one (ps_if (PW.pt (pw_or (pt_cmpR (op_neD hu64) (oc F_law_classes (hr.mono (by decide)) (pa_cons (pv 8) pa_nil)) (pe_lc (own := [("_law_other", 10)]) (g := gName 10) rfl nd (pi_range1 (by rfl) T.n_range (pa_cons pe_int pa_nil)) (blkOk_by (N := ["_law_script", "_law_pen_here", "_law_turn", "_law_one", "_law_two", "_law_spot", "_law_row", "_law_due", "_law_error", "_law_bases", "_law_other"]) (sc := defScope (topS 39)) (by decide +kernel)) (fun _ _ _ _ _ => (pg_name (i := 10) nd rfl (Or.inl rfl))) (fun _ _ _ _ _ => pts_nil) (fun _ _ _ _ _ => (pe_cmpR op_eq (pv 10) (pv 5) (nomark _)))) (nomark _)) (pw_or1 (pt_val (oc F_law_is_strange (hr.mono (by decide)) (pa_cons (pv 8) pa_nil))))))
              (pss_one (ps_ret pe_bl))
              pss_nil))))))))))))
      (pss_one (ps_ret pe_bl)))), ?_⟩
    repeat walk_at "y"
    refine ⟨a, ns, rfl, hS, hl, fun p c H1 s1 _ _ P1 => ?_⟩
    repeat walk_at "y"
    refine ⟨4, rfl, by decide, by decide, for_range (lo := 0) (n := 4) (fun i σ' H' => ∃ x2 x3 x4 x5 x6 x7 x8 x9 x10 : Option V, σ' = [some (.ref a), some (.ref p), x2, x3, x4, x5, x6, x7, x8, x9, x10] ∧ PenAt H' p c (10 * i)) ⟨_, _, _, _, _, _, _, _, _, rfl, P1⟩ ?_ ?_⟩
    · rintro i σ' H2 hi ⟨x2, x3, x4, x5, x6, x7, x8, x9, x10, rfl, P2⟩
      repeat walk_at "y"
      refine ⟨p, c, _, rfl, P2, by omega, fun v d H3 hd fd P3 k3 => ?_⟩
      repeat walk_at "y"
      refine ⟨p, c, _, rfl, P3, by omega, fun u e H4 he fe P4 k4 => ?_⟩
      have hd4 := hd.kp k4
      repeat walk_at "y"
      refine ⟨v, u, rfl, fun l1 ts1 H5 R5 => ?_⟩
      repeat walk_at "y"
      refine ⟨v, u, rfl, fun l2 ts2 H6 R6 => ?_⟩
      have hl1 := R6.sam _ _ R5.lst
      have hl2 := R6.lst
      have hz : (ts1.map V.ref).length + (ts2.map V.ref).length ≤ 1000 := by rw [List.length_map, List.length_map, R5.row.len, R6.row.len]; exact Nat.le_of_ble_eq_true rfl
      repeat walk_at "y"
      rename_i l3 H7 n7 s7 o7
      have R : Rows H7 (ts1 ++ ts2) (specs K v u) := Rows.append (((R5.row.same R6.sam)).same s7) (R6.row.same s7)
      have o7' : H7 l3 = some (.lst ((ts1 ++ ts2).map V.ref)) := by rw [o7, List.map_append]
      have S4 := (R5.sam.trans R6.sam).trans s7
      have hl23 : ((ts1 ++ ts2).map V.ref).length = 23 := by rw [List.length_map, R.len]; rfl
      refine f_enum (xs := (ts1 ++ ts2).map V.ref) (fun j σ' H' => ∃ x5 x6 x7 x8 x9 x10 : Option V, σ' = [some (.ref a), some (.ref p), some (.int (0 + i)), some v, some u, x5, x6, x7, x8, x9, x10] ∧ Same H7 H') ⟨_, _, _, _, _, _, rfl, same0⟩ ?_ ?_ ?_
      · rintro j σ' H' _ ⟨_, _, _, _, _, _, rfl, s8⟩
        exact s8 _ _ o7'
      · rintro j x σ' H8 q H9 hj ⟨x5, x6, x7, x8, x9, x10, rfl, s8⟩ hq s9 oq
        rw [List.getElem?_map] at hj
        obtain ⟨t, ht, rfl⟩ := Option.map_eq_some_iff.mp hj
        obtain ⟨sp, hsp, e1, e2, ot, xe1, xe2⟩ := R.get ht
        have so := spec_ok na ec hsp
        have ot9 : H9 t = some (.tup [.str sp.1, .ref e1, .ref e2]) := s9 _ _ (s8 _ _ ot)
        have S9 : Same H7 H9 := s8.trans s9
        repeat walk_at "y"
        rename_i dl H10 n10 s10 o10
        refine z_slT (s10 _ _ ot9) (fun z => Nat.one_ne_zero z.1) fun tq H11 n11 s11 o11 => ?_
        have o11' : H11 tq = some (.tup [.ref e1, .ref e2]) := o11
        have S11 : Same H7 H11 := (S9.trans s10).trans s11
        have odl := s11 _ _ o10
        have ot11 := s11 _ _ (s10 _ _ ot9)
        have S411 := S4.trans S11
        clear s11 s10 o10 o11
        refine y_itT o11' ?_
        refine f_tup (xs := [.ref e1, .ref e2]) (fun i2 σ' H' => ∃ x8 x9 x10 : Option V, σ' = [some (.ref a), some (.ref p), some (.int (0 + i)), some v, some u, some (.int (j : Nat)), some (.ref t), some (.ref dl), x8, x9, x10] ∧ Same H11 H') ⟨_, _, _, rfl, same0⟩ ?_ ?_ ?_
        · rintro j2 σ' H' _ ⟨_, _, _, rfl, s12⟩
          exact s12 _ _ o11'
        · rintro j2 x σ' H12 hj2 ⟨x8, x9, x10, rfl, s12⟩
          have hx : ∃ er, x = .ref er ∧ ExAt H12 er sp.2.1 sp.2.2 := by
            have m := List.mem_of_getElem? hj2
            simp only [List.mem_cons, List.not_mem_nil, or_false] at m
            rcases m with rfl | rfl
            · exact ⟨_, rfl, xe1.same (S11.trans s12)⟩
            · exact ⟨_, rfl, xe2.same (S11.trans s12)⟩
          obtain ⟨er, rfl, xe⟩ := hx
          have ot12 := s12 _ _ ot11
          have odl12 := s12 _ _ odl
          have S412 := S411.trans s12
          have pn : ∀ {q : Addr} {J : Hp}, Same H12 J → J q = none → q ≠ p := fun {q J} sj e => P4.p_ne (S412.free (sj.free e))
          have keep : ∀ {J : Hp}, Same H12 J → Same H11 J := fun sj => s12.trans sj
          clear s12
          repeat walk_at "y"
          refine ⟨_, er, _, _, _, rfl, xe, so.ec.xc, so.kd, fun l13 H13 s13 n13 o13 => ?_⟩
          repeat walk_at "y"
          refine ⟨p, _, _, rfl, .lst (pn same0 n13) o13 (take_dq (hd4.same (S412.trans s13)) (he.same (S412.trans s13)) _), take_fit fd fe _, ?_⟩
          repeat walk_at "y"
          rename_i l14 H14 n14 s14 o14
          refine ⟨⟨_, rfl⟩, _, rfl, rfl, so.ln, fun wl nwl => ?_⟩
          have s15 : Same H14 (upd H14 wl (.lst ((Txt.words sp.1).map V.str))) := fun b o e => upd_old nwl e
          have o15 : (upd H14 wl (.lst ((Txt.words sp.1).map V.str))) wl = some (.lst ((Txt.words sp.1).map V.str)) := upd_same
          generalize (upd H14 wl (.lst ((Txt.words sp.1).map V.str))) = H15 at s15 o15 ⊢
          repeat walk_at "y"
          rename_i l16 H16 n16 s16 o16
          rw [List.length_map, cut_nat] at o16
          have S16 := ((s13.trans s14).trans s15).trans s16
          refine ⟨p, _, _, rfl, .lst (pn ((s13.trans s14).trans s15) n16) o16 (take_dq (hd4.same (S412.trans S16)) (he.same (S412.trans S16)) _), take_fit fd fe _, ?_⟩
          clear s16 o16 s15 o15 s14 o14 o13 s13
          repeat walk_at "y"
          have xe16 := xe.same S16
          refine .inr ⟨er, _, _, _, _, _, rfl, xe16, so.ec.xc, .own _, so.ec.bi, ?_⟩
          repeat walk_at "y"
          refine .inr ⟨er, _, _, _, _, _, rfl, xe16, so.ec.xc, .own _, so.ec.re, ?_⟩
          repeat walk_at "y"
          refine .inr ⟨er, _, _, _, _, _, rfl, xe16, so.ec.xc, .own _, so.ec.na, ?_⟩
          repeat walk_at "y"
          rename_i bl H17 n17 s17 o17
          have xe17 := xe16.same s17
          have S17 := S16.trans s17
          refine y_neB [decide ((j : Int) < 11), decide ((11 : Int) ≤ (j : Int) ∧ (j : Int) < 17), decide ((17 : Int) ≤ (j : Int) ∧ (j : Int) < 21)] o17 (S17 _ _ odl12) ?_
          repeat walk_at "y"
          refine .inr ⟨er, _, _, _, _, _, rfl, xe17, so.ec.xc, .own _, so.ec.ow, ?_⟩
          repeat walk_at "y"
          refine .inr ⟨er, _, _, _, _, _, rfl, xe17, so.ec.xc, .ty _, so.ec.t_ValueError, ?_⟩
          repeat walk_at "y"
          refine ⟨er, _, _, _, rfl, xe17, so.ec, fun l18 H18 s18 n18 o18 => ?_⟩
          repeat walk_at "y"
          refine ⟨23, rfl, by decide, by decide, fun D hD => lc_range (lo := 0) (n := 23) (fun m H' => Same H18 H' ∧ H' D = some (.lst ((List.range m).map fun q => V.bl (decide (q = j))))) ⟨fun b o e => upd_old hD e, upd_same⟩ ?_ ?_⟩
          · rintro m H' hm ⟨s', o'⟩
            refine y_gn ⟨rfl, ?_⟩
            repeat walk_at "y"
            refine ⟨_, o', ?_, fun b o e => upd_oth (ne_of_none e hD) (s' _ _ e), ?_⟩
            · rw [List.length_map, List.length_range, sizeLine_eq]; omega
            · rw [upd_same, List.range_succ, List.map_append]
              have e : decide (V.int (0 + (m : Int)) = V.int (j : Int)) = decide (m = j) := decide_eq_decide.mpr ⟨fun z => by injection z with z; omega, fun z => by rw [z, Int.zero_add]⟩
              rw [e]; rfl
          · rintro H19 ⟨s19, o19⟩
            refine y_neB ((List.range 23).map fun q => decide (q = j)) (by rw [List.map_map]; exact s19 _ _ o18) (by rw [List.map_map]; exact o19) ?_
            repeat walk_at "y"
            have S19 := S17.trans (s18.trans s19)
            refine ⟨er, _, _, _, rfl, xe17.same (s18.trans s19), so.ec, ?_⟩
            repeat walk_at "y"
            exact ⟨_, _, _, rfl, keep S19⟩
        · rintro σ' H' ⟨x8, x9, x10, rfl, s12⟩
          exact ⟨_, _, _, _, _, _, rfl, (S11.trans s12)⟩
      · rintro σ' H' ⟨x5, x6, x7, x8, x9, x10, rfl, s8⟩
        exact ⟨_, _, _, _, _, _, _, _, _, rfl, ((P4.same S4).same s8).mono (by omega)⟩
    · rintro σ' H2 ⟨x2, x3, x4, x5, x6, x7, x8, x9, x10, rfl, P2⟩
      repeat walk_at "y"
      exact k H2
end
end LW
set_option maxRecDepth 100000
namespace LW
open PySem PySem.Spec PyProof.Rows L2 OZ
local macro_rules | `(tactic| walk_at "ex") => `(tactic| first
  | assumption
  | (refine ExAt.same (by assumption) ?_; walk_at "ex"))
local macro_rules | `(tactic| walk_at "same") => `(tactic| first
  | assumption
  | exact same0
  | (refine Same.trans ?_ (by assumption); walk_at "same"))
local macro_rules | `(tactic| walk_at "free") => `(tactic| first
  | assumption
  | (refine sfree (by assumption) ?_; walk_at "free"))
local macro_rules | `(tactic| walk_at "hp") => `(tactic| first
  | assumption
  | exact upd_same
  | (refine sat (by assumption) ?_; walk_at "hp")
  | (refine upd_old ?_ ?_; (first | assumption | exact free_upd (by assumption)); walk_at "hp")
  | (refine upd_oth ?_ ?_; (first | assumption | exact Ne.symm (by assumption)); walk_at "hp"))
local macro_rules | `(tactic| walk_at "side") => `(tactic| first
  | assumption
  | decide
  | omega
  | exact ⟨by omega, by omega, by omega⟩
  | exact Or.inl ⟨by omega, by omega⟩
  | exact Or.inr ⟨by omega, by omega⟩
  | (show (_ : Int) ≠ 0; omega)
  | exact wide_div (b := 64) (by omega) (by omega) (by decide) (by decide)
  | exact wide_div (b := 4000) (by assumption) (by assumption) (by decide) (by decide))
local macro_rules | `(tactic| walk_at "y") => `(tactic| first
  | ((with_reducible refine y_var ?_); refine ⟨_, rfl, ?_⟩)
  | with_reducible refine y_c ?_
  | with_reducible refine y_op ?_
  | with_reducible refine y_cb ?_
  | with_reducible refine y_cons ?_
  | with_reducible refine y_nil ?_
  | with_reducible refine y_seq ?_
  | with_reducible refine y_asg ?_
  | with_reducible refine y_gn ?_
  | with_reducible refine y_gsub ?_
  | with_reducible refine y_ret ?_
  | with_reducible refine y_drop ?_
  | with_reducible refine y_next ?_
  | with_reducible refine y_ifS ?_
  | with_reducible refine y_test ?_
  | with_reducible refine y_B ?_
  | with_reducible refine y_ex ?_
  | with_reducible refine y_not ?_
  | with_reducible refine y_and ?_
  | with_reducible refine y_or ?_
  | with_reducible refine y_notV ?_
  | with_reducible refine y_andV ?_
  | with_reducible refine y_orV ?_
  | with_reducible refine y_ifE ?_
  | with_reducible refine y_un ?_
  | with_reducible refine y_par ?_
  | with_reducible refine y_ex2 ?_
  | with_reducible refine y_call ?_
  | with_reducible refine y_callS ?_
  | with_reducible refine y_I0 ?_
  | ((with_reducible refine y_I ?_ ?_); (walk_at "side"))
  | with_reducible refine y_U ?_
  | ((with_reducible refine y_eq ?_ ?_); (exact rfl))
  | ((with_reducible refine y_ne ?_ ?_); (exact rfl))
  | ((with_reducible refine' y_ixL ?k1 ?k2 ?k3); (case k1 => walk_at "hp"); (case k2 => exact rfl))
  | ((with_reducible refine' y_ixT ?k1 ?k2 ?k3); (case k1 => walk_at "hp"); (case k2 => exact rfl))
  | ((with_reducible refine' y_setL ?k1 ?k2 ?k3); (case k1 => walk_at "hp"); (case k2 => exact rfl))
  | with_reducible refine y_int ?_
  | with_reducible refine y_intB ?_
  | with_reducible refine y_abs ?_
  | ((with_reducible refine' y_lenL ?k1 ?k3); (case k1 => walk_at "hp"))
  | ((with_reducible refine' y_lenT ?k1 ?k3); (case k1 => walk_at "hp"))
  | ((with_reducible refine y_lenS ?_ ?_); (walk_at "side"))
  | with_reducible refine y_isN ?_
  | with_reducible refine y_notN ?_
  | ((with_reducible refine y_addS ?_ ?_); (walk_at "side"))
  | with_reducible refine y_inC ?_
  | with_reducible refine y_notInC ?_
  | with_reducible refine y_sl ?_
  | with_reducible refine y_part ?_
  | with_reducible refine y_nopart ?_
  | with_reducible refine y_exI ?_
  | ((with_reducible refine y_slS ?_ ?_); (walk_at "side"))
  | with_reducible refine z_lst ?_
  | with_reducible refine z_tup ?_
  | ((with_reducible refine z_newL ?_ ?_); (exact Nat.le_of_ble_eq_true rfl); (intro pp HH npp spp opp))
  | ((with_reducible refine z_newT ?_ ?_); (exact Nat.le_of_ble_eq_true rfl); (intro pp HH npp spp opp))
  | ((with_reducible refine' y_chI ?k1 ?k2); (case k1 => exact rfl))
  | with_reducible refine y_chain ?_
  | with_reducible refine y_yes ?_
  | with_reducible refine y_att ?_
  | ((with_reducible refine y_disp ?_ ?_); (exact Nat.le_of_ble_eq_true rfl); (intro pp hpp))
  | ((with_reducible refine' y_gtup ?k1 ?k2 ?k3); (case k1 => walk_at "hp"); (case k2 => exact rfl))
  | with_reducible refine y_gcons ?_
  | with_reducible refine y_gnil ?_
  | with_reducible refine y_mkO ?_
  | with_reducible refine y_callKw ?_
  | with_reducible refine y_for ?_
  | with_reducible refine y_iList ?_
  | with_reducible refine y_iTup ?_
  | with_reducible refine y_iEnum ?_
  | ((with_reducible refine' y_itL ?k1 ?k2); (case k1 => walk_at "hp"))
  | ((with_reducible refine' y_itT ?k1 ?k2); (case k1 => walk_at "hp"))
  | ((with_reducible refine' y_itE ?k1 ?k2); (case k1 => walk_at "hp"))
  | with_reducible refine y_m0 ?_
  | ((with_reducible refine' z_slT ?k1 ?k2 ?k3); (case k1 => walk_at "hp"); (case k2 => decide); (intro pp HH npp spp opp))
  | with_reducible refine y_pp ?_
  | with_reducible refine y_pp0 ?_
  | with_reducible refine y_xv ?_
  | with_reducible refine y_xv0 ?_
  | with_reducible refine y_bm ?_
  | ((with_reducible refine' y_tyL ?k1 ?k2); (case k1 => walk_at "hp"))
  | ((with_reducible refine' y_app ?k1 ?k2 ?k3); (case k1 => walk_at "hp"); (case k2 => (first | exact Nat.le_of_ble_eq_true rfl | walk_at "side")))
  | ((with_reducible refine' z_cat ?k1 ?k2 ?k3 ?k4); (case k1 => walk_at "hp"); (case k2 => walk_at "hp"); (case k3 => (first | exact Nat.le_of_ble_eq_true rfl | walk_at "side")); (intro pp HH npp spp opp))
  | ((with_reducible refine' z_slL ?k1 ?k2); (case k1 => walk_at "hp"); (intro pp HH npp spp opp))
  | ((with_reducible refine' y_in ?k1 ?k2 ?k3 ?k4); (case k1 => walk_at "hp"); (case k2 => exact rfl); (case k3 => exact rfl))
  | with_reducible refine y_iteT ?_
  | with_reducible refine y_iteF ?_
  | with_reducible refine y_iteNT ?_
  | with_reducible refine y_iteNF ?_
  | ((with_reducible refine y_iteY ?_ ?_); (first | exact rfl | assumption | omega))
  | ((with_reducible refine y_iteX ?_ ?_); (first | focus (intro zz; cases zz; done) | assumption | omega))
  | ((with_reducible refine y_iteNY ?_ ?_); (first | exact rfl | assumption | omega))
  | ((with_reducible refine y_iteNX ?_ ?_); (first | focus (intro zz; cases zz; done) | assumption | omega))
  | ((with_reducible refine y_ite ?_ ?_) <;> intro hh)
  | ((with_reducible refine y_iteN ?_ ?_) <;> intro hh)
  | dsimp only)
section
variable {P : Program} {w : World} {K : PySem.W.Frag} {mg : Str → Option Value} {base : Heap}
abbrev s_x_BadName : Stmt := inClass (topS 7) 0
theorem sc_x_BadName : FnScope ["self", "value"] ["self", "value"] (defScope s_x_BadName) := ⟨rfl, rfl, rfl, by decide +kernel, rfl, by decide +kernel, by decide +kernel⟩
theorem ok_x_BadName {f C : Addr} {fd : FuncData} (F : FunD K "__init__" "BadName.__init__" (defArgs s_x_BadName) (defBody s_x_BadName) (defScope s_x_BadName) [] [] f fd) (xc : XC K C) (na : NoAttr K C "value") : FnOk P w K mg base (L2.CX P w) 1 f fd ["self", "value"] (spX1 "value" C) := by
  refine F.ok sc_x_BadName (fun vs H Q E h => ?_) (fun cdv A outer s H vs Q E hr h => ?_)
  · obtain ⟨a, v, rfl, _⟩ := h
    rfl
  · obtain ⟨a, v, rfl, ha, k⟩ := h
    refine ⟨_, PSs.nox (pss_one (ps_ost (pv 0) (pv 1))), ?_⟩
    exact ⟨_, rfl, _, rfl, a, C, rfl, xc.oex, na, .inl ⟨ha, fun dx h1 h2 => k dx h1 h2⟩⟩
abbrev s_x_BadAmount : Stmt := inClass (topS 8) 0
theorem sc_x_BadAmount : FnScope ["self", "value"] ["self", "value"] (defScope s_x_BadAmount) := ⟨rfl, rfl, rfl, by decide +kernel, rfl, by decide +kernel, by decide +kernel⟩
theorem ok_x_BadAmount {f C : Addr} {fd : FuncData} (F : FunD K "__init__" "BadAmount.__init__" (defArgs s_x_BadAmount) (defBody s_x_BadAmount) (defScope s_x_BadAmount) [] [] f fd) (xc : XC K C) (na : NoAttr K C "value") : FnOk P w K mg base (L2.CX P w) 1 f fd ["self", "value"] (spX1 "value" C) := by
  refine F.ok sc_x_BadAmount (fun vs H Q E h => ?_) (fun cdv A outer s H vs Q E hr h => ?_)
  · obtain ⟨a, v, rfl, _⟩ := h
    rfl
  · obtain ⟨a, v, rfl, ha, k⟩ := h
    refine ⟨_, PSs.nox (pss_one (ps_ost (pv 0) (pv 1))), ?_⟩
    exact ⟨_, rfl, _, rfl, a, C, rfl, xc.oex, na, .inl ⟨ha, fun dx h1 h2 => k dx h1 h2⟩⟩
abbrev s_x_BadGap : Stmt := inClass (topS 9) 0
theorem sc_x_BadGap : FnScope ["self", "part"] ["self", "part"] (defScope s_x_BadGap) := ⟨rfl, rfl, rfl, by decide +kernel, rfl, by decide +kernel, by decide +kernel⟩
theorem ok_x_BadGap {f C : Addr} {fd : FuncData} (F : FunD K "__init__" "BadGap.__init__" (defArgs s_x_BadGap) (defBody s_x_BadGap) (defScope s_x_BadGap) [] [] f fd) (xc : XC K C) (na : NoAttr K C "part") : FnOk P w K mg base (L2.CX P w) 1 f fd ["self", "part"] (spX1 "part" C) := by
  refine F.ok sc_x_BadGap (fun vs H Q E h => ?_) (fun cdv A outer s H vs Q E hr h => ?_)
  · obtain ⟨a, v, rfl, _⟩ := h
    rfl
  · obtain ⟨a, v, rfl, ha, k⟩ := h
    refine ⟨_, PSs.nox (pss_one (ps_ost (pv 0) (pv 1))), ?_⟩
    exact ⟨_, rfl, _, rfl, a, C, rfl, xc.oex, na, .inl ⟨ha, fun dx h1 h2 => k dx h1 h2⟩⟩
abbrev s_x_BadTool : Stmt := inClass (topS 10) 0
theorem sc_x_BadTool : FnScope ["self", "part"] ["self", "part"] (defScope s_x_BadTool) := ⟨rfl, rfl, rfl, by decide +kernel, rfl, by decide +kernel, by decide +kernel⟩
theorem ok_x_BadTool {f C : Addr} {fd : FuncData} (F : FunD K "__init__" "BadTool.__init__" (defArgs s_x_BadTool) (defBody s_x_BadTool) (defScope s_x_BadTool) [] [] f fd) (xc : XC K C) (na : NoAttr K C "part") : FnOk P w K mg base (L2.CX P w) 1 f fd ["self", "part"] (spX1 "part" C) := by
  refine F.ok sc_x_BadTool (fun vs H Q E h => ?_) (fun cdv A outer s H vs Q E hr h => ?_)
  · obtain ⟨a, v, rfl, _⟩ := h
    rfl
  · obtain ⟨a, v, rfl, ha, k⟩ := h
    refine ⟨_, PSs.nox (pss_one (ps_ost (pv 0) (pv 1))), ?_⟩
    exact ⟨_, rfl, _, rfl, a, C, rfl, xc.oex, na, .inl ⟨ha, fun dx h1 h2 => k dx h1 h2⟩⟩
abbrev s_x_BadMark : Stmt := inClass (topS 11) 0
theorem sc_x_BadMark : FnScope ["self", "value"] ["self", "value"] (defScope s_x_BadMark) := ⟨rfl, rfl, rfl, by decide +kernel, rfl, by decide +kernel, by decide +kernel⟩
theorem ok_x_BadMark {f C : Addr} {fd : FuncData} (F : FunD K "__init__" "BadMark.__init__" (defArgs s_x_BadMark) (defBody s_x_BadMark) (defScope s_x_BadMark) [] [] f fd) (xc : XC K C) (na : NoAttr K C "value") : FnOk P w K mg base (L2.CX P w) 1 f fd ["self", "value"] (spX1 "value" C) := by
  refine F.ok sc_x_BadMark (fun vs H Q E h => ?_) (fun cdv A outer s H vs Q E hr h => ?_)
  · obtain ⟨a, v, rfl, _⟩ := h
    rfl
  · obtain ⟨a, v, rfl, ha, k⟩ := h
    refine ⟨_, PSs.nox (pss_one (ps_ost (pv 0) (pv 1))), ?_⟩
    exact ⟨_, rfl, _, rfl, a, C, rfl, xc.oex, na, .inl ⟨ha, fun dx h1 h2 => k dx h1 h2⟩⟩
abbrev s_x_BadBook : Stmt := inClass (topS 12) 0
theorem sc_x_BadBook : FnScope ["self", "part"] ["self", "part"] (defScope s_x_BadBook) := ⟨rfl, rfl, rfl, by decide +kernel, rfl, by decide +kernel, by decide +kernel⟩
theorem ok_x_BadBook {f C : Addr} {fd : FuncData} (F : FunD K "__init__" "BadBook.__init__" (defArgs s_x_BadBook) (defBody s_x_BadBook) (defScope s_x_BadBook) [] [] f fd) (xc : XC K C) (na : NoAttr K C "part") : FnOk P w K mg base (L2.CX P w) 1 f fd ["self", "part"] (spX1 "part" C) := by
  refine F.ok sc_x_BadBook (fun vs H Q E h => ?_) (fun cdv A outer s H vs Q E hr h => ?_)
  · obtain ⟨a, v, rfl, _⟩ := h
    rfl
  · obtain ⟨a, v, rfl, ha, k⟩ := h
    refine ⟨_, PSs.nox (pss_one (ps_ost (pv 0) (pv 1))), ?_⟩
    exact ⟨_, rfl, _, rfl, a, C, rfl, xc.oex, na, .inl ⟨ha, fun dx h1 h2 => k dx h1 h2⟩⟩
abbrev s_x_BadWorld : Stmt := inClass (topS 13) 0
theorem sc_x_BadWorld : FnScope ["self", "part"] ["self", "part"] (defScope s_x_BadWorld) := ⟨rfl, rfl, rfl, by decide +kernel, rfl, by decide +kernel, by decide +kernel⟩
theorem ok_x_BadWorld {f C : Addr} {fd : FuncData} (F : FunD K "__init__" "BadWorld.__init__" (defArgs s_x_BadWorld) (defBody s_x_BadWorld) (defScope s_x_BadWorld) [] [] f fd) (xc : XC K C) (na : NoAttr K C "part") : FnOk P w K mg base (L2.CX P w) 1 f fd ["self", "part"] (spX1 "part" C) := by
  refine F.ok sc_x_BadWorld (fun vs H Q E h => ?_) (fun cdv A outer s H vs Q E hr h => ?_)
  · obtain ⟨a, v, rfl, _⟩ := h
    rfl
  · obtain ⟨a, v, rfl, ha, k⟩ := h
    refine ⟨_, PSs.nox (pss_one (ps_ost (pv 0) (pv 1))), ?_⟩
    exact ⟨_, rfl, _, rfl, a, C, rfl, xc.oex, na, .inl ⟨ha, fun dx h1 h2 => k dx h1 h2⟩⟩
abbrev s_x_BadSaying : Stmt := inClass (topS 14) 0
theorem sc_x_BadSaying : FnScope ["self", "part"] ["self", "part"] (defScope s_x_BadSaying) := ⟨rfl, rfl, rfl, by decide +kernel, rfl, by decide +kernel, by decide +kernel⟩
theorem ok_x_BadSaying {f C : Addr} {fd : FuncData} (F : FunD K "__init__" "BadSaying.__init__" (defArgs s_x_BadSaying) (defBody s_x_BadSaying) (defScope s_x_BadSaying) [] [] f fd) (xc : XC K C) (na : NoAttr K C "part") : FnOk P w K mg base (L2.CX P w) 1 f fd ["self", "part"] (spX1 "part" C) := by
  refine F.ok sc_x_BadSaying (fun vs H Q E h => ?_) (fun cdv A outer s H vs Q E hr h => ?_)
  · obtain ⟨a, v, rfl, _⟩ := h
    rfl
  · obtain ⟨a, v, rfl, ha, k⟩ := h
    refine ⟨_, PSs.nox (pss_one (ps_ost (pv 0) (pv 1))), ?_⟩
    exact ⟨_, rfl, _, rfl, a, C, rfl, xc.oex, na, .inl ⟨ha, fun dx h1 h2 => k dx h1 h2⟩⟩
abbrev s_x_BadPrice : Stmt := inClass (topS 15) 0
theorem sc_x_BadPrice : FnScope ["self", "value"] ["self", "value"] (defScope s_x_BadPrice) := ⟨rfl, rfl, rfl, by decide +kernel, rfl, by decide +kernel, by decide +kernel⟩
theorem ok_x_BadPrice {f C : Addr} {fd : FuncData} (F : FunD K "__init__" "BadPrice.__init__" (defArgs s_x_BadPrice) (defBody s_x_BadPrice) (defScope s_x_BadPrice) [] [] f fd) (xc : XC K C) (na : NoAttr K C "value") : FnOk P w K mg base (L2.CX P w) 1 f fd ["self", "value"] (spX1 "value" C) := by
  refine F.ok sc_x_BadPrice (fun vs H Q E h => ?_) (fun cdv A outer s H vs Q E hr h => ?_)
  · obtain ⟨a, v, rfl, _⟩ := h
    rfl
  · obtain ⟨a, v, rfl, ha, k⟩ := h
    refine ⟨_, PSs.nox (pss_one (ps_ost (pv 0) (pv 1))), ?_⟩
    exact ⟨_, rfl, _, rfl, a, C, rfl, xc.oex, na, .inl ⟨ha, fun dx h1 h2 => k dx h1 h2⟩⟩
abbrev s_x_BadText : Stmt := inClass (topS 16) 0
theorem sc_x_BadText : FnScope ["self", "line", "word"] ["self", "line", "word"] (defScope s_x_BadText) := ⟨rfl, rfl, rfl, by decide +kernel, rfl, by decide +kernel, by decide +kernel⟩
theorem ok_x_BadText {f C : Addr} {fd : FuncData} (F : FunD K "__init__" "BadText.__init__" (defArgs s_x_BadText) (defBody s_x_BadText) (defScope s_x_BadText) [] [] f fd) (xc : XC K C) (na : NoAttr K C "line") (nb : NoAttr K C "word") : FnOk P w K mg base (L2.CX P w) 1 f fd ["self", "line", "word"] (spX2 "line" "word" C) := by
  refine F.ok sc_x_BadText (fun vs H Q E h => ?_) (fun cdv A outer s H vs Q E hr h => ?_)
  · obtain ⟨a, v, u, rfl, _⟩ := h
    rfl
  · obtain ⟨a, v, u, rfl, ha, k⟩ := h
    refine ⟨_, PSs.nox (pss_cons (ps_ost (pv 0) (pv 1)) (pss_one (ps_ost (pv 0) (pv 2)))), ?_⟩
    refine ⟨_, rfl, _, rfl, a, C, rfl, xc.oex, na, .inl ⟨ha, fun dx h1 h2 => ?_⟩⟩
    exact ⟨_, rfl, _, rfl, a, C, rfl, xc.oex, nb, .inr ⟨dx, _, upd_same, by rw [upd_ne h2, upd_same], Nat.le_of_ble_eq_true rfl, k dx h1 h2⟩⟩
abbrev s_x_BadLine : Stmt := inClass (topS 17) 0
theorem sc_x_BadLine : FnScope ["self", "word"] ["self", "word"] (defScope s_x_BadLine) := ⟨rfl, rfl, rfl, by decide +kernel, rfl, by decide +kernel, by decide +kernel⟩
theorem ok_x_BadLine {f C : Addr} {fd : FuncData} (F : FunD K "__init__" "BadLine.__init__" (defArgs s_x_BadLine) (defBody s_x_BadLine) (defScope s_x_BadLine) [] [] f fd) (xc : XC K C) (na : NoAttr K C "word") : FnOk P w K mg base (L2.CX P w) 1 f fd ["self", "word"] (spX1 "word" C) := by
  refine F.ok sc_x_BadLine (fun vs H Q E h => ?_) (fun cdv A outer s H vs Q E hr h => ?_)
  · obtain ⟨a, v, rfl, _⟩ := h
    rfl
  · obtain ⟨a, v, rfl, ha, k⟩ := h
    refine ⟨_, PSs.nox (pss_one (ps_ost (pv 0) (pv 1))), ?_⟩
    exact ⟨_, rfl, _, rfl, a, C, rfl, xc.oex, na, .inl ⟨ha, fun dx h1 h2 => k dx h1 h2⟩⟩
abbrev s_x_NoThing : Stmt := inClass (topS 18) 0
theorem sc_x_NoThing : FnScope ["self", "name"] ["self", "name"] (defScope s_x_NoThing) := ⟨rfl, rfl, rfl, by decide +kernel, rfl, by decide +kernel, by decide +kernel⟩
theorem ok_x_NoThing {f C : Addr} {fd : FuncData} (F : FunD K "__init__" "NoThing.__init__" (defArgs s_x_NoThing) (defBody s_x_NoThing) (defScope s_x_NoThing) [] [] f fd) (xc : XC K C) (na : NoAttr K C "name") : FnOk P w K mg base (L2.CX P w) 1 f fd ["self", "name"] (spX1 "name" C) := by
  refine F.ok sc_x_NoThing (fun vs H Q E h => ?_) (fun cdv A outer s H vs Q E hr h => ?_)
  · obtain ⟨a, v, rfl, _⟩ := h
    rfl
  · obtain ⟨a, v, rfl, ha, k⟩ := h
    refine ⟨_, PSs.nox (pss_one (ps_ost (pv 0) (pv 1))), ?_⟩
    exact ⟨_, rfl, _, rfl, a, C, rfl, xc.oex, na, .inl ⟨ha, fun dx h1 h2 => k dx h1 h2⟩⟩
abbrev s_x_NoTool : Stmt := inClass (topS 19) 0
theorem sc_x_NoTool : FnScope ["self", "name"] ["self", "name"] (defScope s_x_NoTool) := ⟨rfl, rfl, rfl, by decide +kernel, rfl, by decide +kernel, by decide +kernel⟩
theorem ok_x_NoTool {f C : Addr} {fd : FuncData} (F : FunD K "__init__" "NoTool.__init__" (defArgs s_x_NoTool) (defBody s_x_NoTool) (defScope s_x_NoTool) [] [] f fd) (xc : XC K C) (na : NoAttr K C "name") : FnOk P w K mg base (L2.CX P w) 1 f fd ["self", "name"] (spX1 "name" C) := by
  refine F.ok sc_x_NoTool (fun vs H Q E h => ?_) (fun cdv A outer s H vs Q E hr h => ?_)
  · obtain ⟨a, v, rfl, _⟩ := h
    rfl
  · obtain ⟨a, v, rfl, ha, k⟩ := h
    refine ⟨_, PSs.nox (pss_one (ps_ost (pv 0) (pv 1))), ?_⟩
    exact ⟨_, rfl, _, rfl, a, C, rfl, xc.oex, na, .inl ⟨ha, fun dx h1 h2 => k dx h1 h2⟩⟩
abbrev s_x_NoMark : Stmt := inClass (topS 20) 0
theorem sc_x_NoMark : FnScope ["self", "tool", "thing"] ["self", "tool", "thing"] (defScope s_x_NoMark) := ⟨rfl, rfl, rfl, by decide +kernel, rfl, by decide +kernel, by decide +kernel⟩
theorem ok_x_NoMark {f C : Addr} {fd : FuncData} (F : FunD K "__init__" "NoMark.__init__" (defArgs s_x_NoMark) (defBody s_x_NoMark) (defScope s_x_NoMark) [] [] f fd) (xc : XC K C) (na : NoAttr K C "tool") (nb : NoAttr K C "thing") : FnOk P w K mg base (L2.CX P w) 1 f fd ["self", "tool", "thing"] (spX2 "tool" "thing" C) := by
  refine F.ok sc_x_NoMark (fun vs H Q E h => ?_) (fun cdv A outer s H vs Q E hr h => ?_)
  · obtain ⟨a, v, u, rfl, _⟩ := h
    rfl
  · obtain ⟨a, v, u, rfl, ha, k⟩ := h
    refine ⟨_, PSs.nox (pss_cons (ps_ost (pv 0) (pv 1)) (pss_one (ps_ost (pv 0) (pv 2)))), ?_⟩
    refine ⟨_, rfl, _, rfl, a, C, rfl, xc.oex, na, .inl ⟨ha, fun dx h1 h2 => ?_⟩⟩
    exact ⟨_, rfl, _, rfl, a, C, rfl, xc.oex, nb, .inr ⟨dx, _, upd_same, by rw [upd_ne h2, upd_same], Nat.le_of_ble_eq_true rfl, k dx h1 h2⟩⟩
abbrev s_x_Taken : Stmt := inClass (topS 21) 0
theorem sc_x_Taken : FnScope ["self", "tool", "thing"] ["self", "tool", "thing"] (defScope s_x_Taken) := ⟨rfl, rfl, rfl, by decide +kernel, rfl, by decide +kernel, by decide +kernel⟩
theorem ok_x_Taken {f C : Addr} {fd : FuncData} (F : FunD K "__init__" "Taken.__init__" (defArgs s_x_Taken) (defBody s_x_Taken) (defScope s_x_Taken) [] [] f fd) (xc : XC K C) (na : NoAttr K C "tool") (nb : NoAttr K C "thing") : FnOk P w K mg base (L2.CX P w) 1 f fd ["self", "tool", "thing"] (spX2 "tool" "thing" C) := by
  refine F.ok sc_x_Taken (fun vs H Q E h => ?_) (fun cdv A outer s H vs Q E hr h => ?_)
  · obtain ⟨a, v, u, rfl, _⟩ := h
    rfl
  · obtain ⟨a, v, u, rfl, ha, k⟩ := h
    refine ⟨_, PSs.nox (pss_cons (ps_ost (pv 0) (pv 1)) (pss_one (ps_ost (pv 0) (pv 2)))), ?_⟩
    refine ⟨_, rfl, _, rfl, a, C, rfl, xc.oex, na, .inl ⟨ha, fun dx h1 h2 => ?_⟩⟩
    exact ⟨_, rfl, _, rfl, a, C, rfl, xc.oex, nb, .inr ⟨dx, _, upd_same, by rw [upd_ne h2, upd_same], Nat.le_of_ble_eq_true rfl, k dx h1 h2⟩⟩
abbrev s_x_Unlike : Stmt := inClass (topS 22) 0
theorem sc_x_Unlike : FnScope ["self", "part"] ["self", "part"] (defScope s_x_Unlike) := ⟨rfl, rfl, rfl, by decide +kernel, rfl, by decide +kernel, by decide +kernel⟩
theorem ok_x_Unlike {f C : Addr} {fd : FuncData} (F : FunD K "__init__" "Unlike.__init__" (defArgs s_x_Unlike) (defBody s_x_Unlike) (defScope s_x_Unlike) [] [] f fd) (xc : XC K C) (na : NoAttr K C "part") : FnOk P w K mg base (L2.CX P w) 1 f fd ["self", "part"] (spX1 "part" C) := by
  refine F.ok sc_x_Unlike (fun vs H Q E h => ?_) (fun cdv A outer s H vs Q E hr h => ?_)
  · obtain ⟨a, v, rfl, _⟩ := h
    rfl
  · obtain ⟨a, v, rfl, ha, k⟩ := h
    refine ⟨_, PSs.nox (pss_one (ps_ost (pv 0) (pv 1))), ?_⟩
    exact ⟨_, rfl, _, rfl, a, C, rfl, xc.oex, na, .inl ⟨ha, fun dx h1 h2 => k dx h1 h2⟩⟩
abbrev s_x_TooMany : Stmt := inClass (topS 23) 0
theorem sc_x_TooMany : FnScope ["self", "what", "most"] ["self", "what", "most"] (defScope s_x_TooMany) := ⟨rfl, rfl, rfl, by decide +kernel, rfl, by decide +kernel, by decide +kernel⟩
theorem ok_x_TooMany {f C : Addr} {fd : FuncData} (F : FunD K "__init__" "TooMany.__init__" (defArgs s_x_TooMany) (defBody s_x_TooMany) (defScope s_x_TooMany) [] [] f fd) (xc : XC K C) (na : NoAttr K C "what") (nb : NoAttr K C "most") : FnOk P w K mg base (L2.CX P w) 1 f fd ["self", "what", "most"] (spX2 "what" "most" C) := by
  refine F.ok sc_x_TooMany (fun vs H Q E h => ?_) (fun cdv A outer s H vs Q E hr h => ?_)
  · obtain ⟨a, v, u, rfl, _⟩ := h
    rfl
  · obtain ⟨a, v, u, rfl, ha, k⟩ := h
    refine ⟨_, PSs.nox (pss_cons (ps_ost (pv 0) (pv 1)) (pss_one (ps_ost (pv 0) (pv 2)))), ?_⟩
    refine ⟨_, rfl, _, rfl, a, C, rfl, xc.oex, na, .inl ⟨ha, fun dx h1 h2 => ?_⟩⟩
    exact ⟨_, rfl, _, rfl, a, C, rfl, xc.oex, nb, .inr ⟨dx, _, upd_same, by rw [upd_ne h2, upd_same], Nat.le_of_ble_eq_true rfl, k dx h1 h2⟩⟩
abbrev s_x_Barred : Stmt := inClass (topS 5) 0
theorem sc_x_Barred : FnScope ["self", "sheets"] ["self", "sheets"] (defScope s_x_Barred) := ⟨rfl, rfl, rfl, by decide +kernel, rfl, by decide +kernel, by decide +kernel⟩
theorem ok_x_Barred {f C : Addr} {fd : FuncData} (F : FunD K "__init__" "Barred.__init__" (defArgs s_x_Barred) (defBody s_x_Barred) (defScope s_x_Barred) [] [] f fd) (xc : XC K C) (na : NoAttr K C "sheets") : FnOk P w K mg base (L2.CX P w) 1 f fd ["self", "sheets"] (spX1 "sheets" C) := by
  refine F.ok sc_x_Barred (fun vs H Q E h => ?_) (fun cdv A outer s H vs Q E hr h => ?_)
  · obtain ⟨a, v, rfl, _⟩ := h
    rfl
  · obtain ⟨a, v, rfl, ha, k⟩ := h
    refine ⟨_, PSs.nox (pss_one (ps_ost (pv 0) (pv 1))), ?_⟩
    exact ⟨_, rfl, _, rfl, a, C, rfl, xc.oex, na, .inl ⟨ha, fun dx h1 h2 => k dx h1 h2⟩⟩
abbrev s_x_Loose : Stmt := inClass (topS 6) 0
theorem sc_x_Loose : FnScope ["self", "world"] ["self", "world"] (defScope s_x_Loose) := ⟨rfl, rfl, rfl, by decide +kernel, rfl, by decide +kernel, by decide +kernel⟩
theorem ok_x_Loose {f C : Addr} {fd : FuncData} (F : FunD K "__init__" "Loose.__init__" (defArgs s_x_Loose) (defBody s_x_Loose) (defScope s_x_Loose) [] [] f fd) (xc : XC K C) (na : NoAttr K C "world") : FnOk P w K mg base (L2.CX P w) 1 f fd ["self", "world"] (spX1 "world" C) := by
  refine F.ok sc_x_Loose (fun vs H Q E h => ?_) (fun cdv A outer s H vs Q E hr h => ?_)
  · obtain ⟨a, v, rfl, _⟩ := h
    rfl
  · obtain ⟨a, v, rfl, ha, k⟩ := h
    refine ⟨_, PSs.nox (pss_one (ps_ost (pv 0) (pv 1))), ?_⟩
    exact ⟨_, rfl, _, rfl, a, C, rfl, xc.oex, na, .inl ⟨ha, fun dx h1 h2 => k dx h1 h2⟩⟩
end
end LW
set_option maxRecDepth 100000
set_option maxHeartbeats 0
namespace LW
open PySem PySem.Spec PyProof.Rows L2 OZ
def d_pen : He.DefD := ⟨("_law_pen", none), "_law_pen", "_law_pen", defArgs s_pen, defBody s_pen, defScope s_pen, [], []⟩
def d_draw : He.DefD := ⟨("_law_draw", none), "_law_draw", "_law_draw", defArgs s_draw, defBody s_draw, defScope s_draw, [], []⟩
def d_pick : He.DefD := ⟨("_law_pick", none), "_law_pick", "_law_pick", defArgs s_pick, defBody s_pick, defScope s_pick, [], []⟩
def d_thing : He.DefD := ⟨("_law_thing", none), "_law_thing", "_law_thing", defArgs s_thing, defBody s_thing, defScope s_thing, [], []⟩
def d_inputs : He.DefD := ⟨("_law_inputs", none), "_law_inputs", "_law_inputs", defArgs s_inputs, defBody s_inputs, defScope s_inputs, [], []⟩
def d_others : He.DefD := ⟨("_law_others", none), "_law_others", "_law_others", defArgs s_others, defBody s_others, defScope s_others, [], []⟩
def d_lone : He.DefD := ⟨("_law_lone", none), "_law_lone", "_law_lone", defArgs s_lone, defBody s_lone, defScope s_lone, [], []⟩
def d_kept : He.DefD := ⟨("_law_kept", none), "_law_kept", "_law_kept", defArgs s_kept, defBody s_kept, defScope s_kept, [], []⟩
def d_classes : He.DefD := ⟨("_law_classes", none), "_law_classes", "_law_classes", defArgs s_classes, defBody s_classes, defScope s_classes, [], []⟩
def d_strange : He.DefD := ⟨("_law_is_strange", none), "_law_is_strange", "_law_is_strange", defArgs s_strange, defBody s_strange, defScope s_strange, [], []⟩
def d_law : He.DefD := ⟨("law", none), "law", "law", defArgs s_law, defBody s_law, defScope s_law, [], []⟩
def dx_BadName : He.DefD := ⟨("BadName", some "__init__"), "__init__", "BadName.__init__", defArgs s_x_BadName, defBody s_x_BadName, defScope s_x_BadName, [], []⟩
def dx_BadAmount : He.DefD := ⟨("BadAmount", some "__init__"), "__init__", "BadAmount.__init__", defArgs s_x_BadAmount, defBody s_x_BadAmount, defScope s_x_BadAmount, [], []⟩
def dx_BadGap : He.DefD := ⟨("BadGap", some "__init__"), "__init__", "BadGap.__init__", defArgs s_x_BadGap, defBody s_x_BadGap, defScope s_x_BadGap, [], []⟩
def dx_BadTool : He.DefD := ⟨("BadTool", some "__init__"), "__init__", "BadTool.__init__", defArgs s_x_BadTool, defBody s_x_BadTool, defScope s_x_BadTool, [], []⟩
def dx_BadMark : He.DefD := ⟨("BadMark", some "__init__"), "__init__", "BadMark.__init__", defArgs s_x_BadMark, defBody s_x_BadMark, defScope s_x_BadMark, [], []⟩
def dx_BadBook : He.DefD := ⟨("BadBook", some "__init__"), "__init__", "BadBook.__init__", defArgs s_x_BadBook, defBody s_x_BadBook, defScope s_x_BadBook, [], []⟩
def dx_BadWorld : He.DefD := ⟨("BadWorld", some "__init__"), "__init__", "BadWorld.__init__", defArgs s_x_BadWorld, defBody s_x_BadWorld, defScope s_x_BadWorld, [], []⟩
def dx_BadSaying : He.DefD := ⟨("BadSaying", some "__init__"), "__init__", "BadSaying.__init__", defArgs s_x_BadSaying, defBody s_x_BadSaying, defScope s_x_BadSaying, [], []⟩
def dx_BadPrice : He.DefD := ⟨("BadPrice", some "__init__"), "__init__", "BadPrice.__init__", defArgs s_x_BadPrice, defBody s_x_BadPrice, defScope s_x_BadPrice, [], []⟩
def dx_BadText : He.DefD := ⟨("BadText", some "__init__"), "__init__", "BadText.__init__", defArgs s_x_BadText, defBody s_x_BadText, defScope s_x_BadText, [], []⟩
def dx_BadLine : He.DefD := ⟨("BadLine", some "__init__"), "__init__", "BadLine.__init__", defArgs s_x_BadLine, defBody s_x_BadLine, defScope s_x_BadLine, [], []⟩
def dx_NoThing : He.DefD := ⟨("NoThing", some "__init__"), "__init__", "NoThing.__init__", defArgs s_x_NoThing, defBody s_x_NoThing, defScope s_x_NoThing, [], []⟩
def dx_NoTool : He.DefD := ⟨("NoTool", some "__init__"), "__init__", "NoTool.__init__", defArgs s_x_NoTool, defBody s_x_NoTool, defScope s_x_NoTool, [], []⟩
def dx_NoMark : He.DefD := ⟨("NoMark", some "__init__"), "__init__", "NoMark.__init__", defArgs s_x_NoMark, defBody s_x_NoMark, defScope s_x_NoMark, [], []⟩
def dx_Taken : He.DefD := ⟨("Taken", some "__init__"), "__init__", "Taken.__init__", defArgs s_x_Taken, defBody s_x_Taken, defScope s_x_Taken, [], []⟩
def dx_Unlike : He.DefD := ⟨("Unlike", some "__init__"), "__init__", "Unlike.__init__", defArgs s_x_Unlike, defBody s_x_Unlike, defScope s_x_Unlike, [], []⟩
def dx_TooMany : He.DefD := ⟨("TooMany", some "__init__"), "__init__", "TooMany.__init__", defArgs s_x_TooMany, defBody s_x_TooMany, defScope s_x_TooMany, [], []⟩
def dx_Barred : He.DefD := ⟨("Barred", some "__init__"), "__init__", "Barred.__init__", defArgs s_x_Barred, defBody s_x_Barred, defScope s_x_Barred, [], []⟩
def dx_Loose : He.DefD := ⟨("Loose", some "__init__"), "__init__", "Loose.__init__", defArgs s_x_Loose, defBody s_x_Loose, defScope s_x_Loose, [], []⟩
def fn : List He.DefD := [d_pen, d_draw, d_pick, d_thing, d_inputs, d_others, d_lone, d_kept, d_classes, d_strange, d_law, dx_BadName, dx_BadAmount, dx_BadGap, dx_BadTool, dx_BadMark, dx_BadBook, dx_BadWorld, dx_BadSaying, dx_BadPrice, dx_BadText, dx_BadLine, dx_NoThing, dx_NoTool, dx_NoMark, dx_Taken, dx_Unlike, dx_TooMany, dx_Barred, dx_Loose]
def glos : List Str := [("OwnError" : Str), ("BadInput" : Str), ("Refused" : Str), ("NoAnswer" : Str), ("BadName" : Str), ("BadAmount" : Str), ("BadGap" : Str), ("BadTool" : Str), ("BadMark" : Str), ("BadBook" : Str), ("BadWorld" : Str), ("BadSaying" : Str), ("BadPrice" : Str), ("BadText" : Str), ("BadLine" : Str), ("NoThing" : Str), ("NoTool" : Str), ("NoMark" : Str), ("Taken" : Str), ("Unlike" : Str), ("TooMany" : Str), ("NoDivisor" : Str), ("NoWorld" : Str), ("NoRange" : Str), ("NoDeed" : Str), ("Barred" : Str), ("Loose" : Str), ("_law_pen" : Str), ("_law_draw" : Str), ("_law_pick" : Str), ("_law_thing" : Str), ("_law_inputs" : Str), ("_law_others" : Str), ("_law_lone" : Str), ("_law_kept" : Str), ("_law_classes" : Str), ("_law_is_strange" : Str), ("law" : Str)]
def frees : List Str := ["len", "int", "abs", "list", "isinstance", "repr", "range", "enumerate", "LookupError", "AttributeError", "RuntimeError", "TypeError", "ArithmeticError", "ValueError"]
def inis : List Str := ["BadName", "BadAmount", "BadGap", "BadTool", "BadMark", "BadBook", "BadWorld", "BadSaying", "BadPrice", "BadText", "BadLine", "NoThing", "NoTool", "NoMark", "Taken", "Unlike", "TooMany", "Barred", "Loose"]
def nos : List Str := ["NoDivisor", "NoWorld", "NoRange", "NoDeed"]
def iniB (K : PySem.W.Frag) (x : Str) : Bool := decide (PySem.W.findIn K (.ref (He.ga K x)) "__init__" = some (some (.ref (He.ma K (He.ga K x) "__init__")))) && decide (PySem.W.typeIn K (.ref (He.ma K (He.ga K x) "__init__")) = some (.type "function"))
def noB (K : PySem.W.Frag) (x : Str) : Bool := PySem.W.excIn K (He.ga K x) VE "ValueError.__new__" && PySem.W.keepIn K (.ref (He.ga K x))
def exB (K : PySem.W.Frag) : Bool := (glos.all fun x => (He.Fa.glo x).ok K) && ((frees.all fun x => (He.Fa.free x).ok K) && ((List.range 23).all (fun i => errB K (He.ga K (cls23.getD i "")) i) &&
  (pairs.all (fun q => decide (PySem.W.findIn K (.ref (He.ga K q.1)) q.2 = some none)) && (inis.all (iniB K) && (nos.all (noB K) && (K.lookup sysModules).isSome)))))
abbrev R : PySem.W.OpenRow := PySem.W.OpenLaw.row PySem.Challenge.rw_ownzeros_k01_errors_kept
abbrev hk : PySem.W.Hook := hookZ 6 fn [] exB
def ob (s : PySem.W.SharedT) : AlZ := obsZ 6 fn [] exB (HandSHeadRun.getT s)
theorem ob_eq (s : PySem.W.SharedT) : ob s = hk.obs s.abs := obsZ_eq (HandSHeadRun.getT_eq s)
def names : List Str := [("OwnError" : Str), ("BadInput" : Str), ("Refused" : Str), ("NoAnswer" : Str), ("Barred" : Str), ("Loose" : Str), ("BadName" : Str), ("BadAmount" : Str), ("BadGap" : Str), ("BadTool" : Str), ("BadMark" : Str), ("BadBook" : Str), ("BadWorld" : Str), ("BadSaying" : Str), ("BadPrice" : Str), ("BadText" : Str), ("BadLine" : Str), ("NoThing" : Str), ("NoTool" : Str), ("NoMark" : Str), ("Taken" : Str), ("Unlike" : Str), ("TooMany" : Str), ("NoDivisor" : Str), ("NoWorld" : Str), ("NoRange" : Str), ("NoDeed" : Str), ("_law_pen" : Str), ("_law_draw" : Str), ("_law_pick" : Str), ("_law_thing" : Str), ("_law_inputs" : Str), ("_law_others" : Str), ("_law_lone" : Str), ("_law_kept" : Str), ("_law_classes" : Str), ("_law_is_strange" : Str)]
theorem run (w : World) : HandSHeadRun.RunEq R (PySem.W.view R.prog [39]) hk ob 40000 names w := by
  intro os
  kernel_rfl
end LW
set_option maxRecDepth 100000
set_option maxHeartbeats 0
namespace LW
open PySem PySem.Spec PyProof.Rows L2 OZ
abbrev PP : Program := (PySem.Challenge.rw_ownzeros_k01_errors_kept).prog
theorem asm {w : World} {K : PySem.W.Frag} {h : Heap} {mg : Str → Option Value} {fa : Addr} (X : K.In h) (G : h.Ns mainGlobals mg) (hfa : mg ("law" : Str) = some (.ref fa)) (c : Told fn [] exB h K) :
    ∃ fd : FuncData, (∀ (s : Shared) (u : Value), BindsTo s fd ⟨[u], []⟩ [("_law_script", u)]) ∧ ∀ base : Heap, K.In base → base.Ns mainGlobals mg → FnG PP w K mg base 8 fa fd ["_law_script"] (spLaw K) := by
  have e := c.more
  unfold exB at e
  simp only [Bool.and_eq_true] at e
  obtain ⟨e1, e2, e3, e4, e5, e6, e7⟩ := e
  have gl : ∀ x ∈ glos, mg x = some (.ref (He.ga K x)) := fun x hx => He.glo_ok X G (List.all_eq_true.mp e1 x hx)
  have fr : ∀ x ∈ frees, mg x = none := fun x hx => He.free_ok X G (List.all_eq_true.mp e2 x hx)
  have sm : ∃ o, K.lookup sysModules = some o := Option.isSome_iff_exists.mp e7
  have ec : ∀ i, i < 23 → ErrC K (He.ga K (cls23.getD i "")) i := fun i hi => errB_ok (List.all_eq_true.mp e3 i (List.mem_range.mpr hi))
  have na : ∀ q ∈ pairs, NoAttr K (He.ga K q.1) q.2 := fun q hq => by
    have z := List.all_eq_true.mp e4 q hq
    exact of_decide_eq_true (p := PySem.W.findIn K (.ref (He.ga K q.1)) q.2 = some none) z
  have ini : ∀ x ∈ inis, PySem.W.findIn K (.ref (He.ga K x)) "__init__" = some (some (.ref (He.ma K (He.ga K x) "__init__"))) ∧ PySem.W.typeIn K (.ref (He.ma K (He.ga K x) "__init__")) = some (.type "function") := fun x hx => by
    have z := List.all_eq_true.mp e5 x hx
    unfold iniB at z
    simpa only [Bool.and_eq_true, decide_eq_true_eq] using z
  have noo : ∀ x ∈ nos, PySem.W.excIn K (He.ga K x) VE "ValueError.__new__" = true ∧ PySem.W.keepIn K (.ref (He.ga K x)) = true := fun x hx => by
    have z := List.all_eq_true.mp e6 x hx
    unfold noB at z
    simpa only [Bool.and_eq_true] using z
  have TP : TopP K mg := ⟨fr "len" (by decide), fr "int" (by decide), fr "abs" (by decide), fr "list" (by decide)⟩
  have T : Top K mg := ⟨TP, fr "isinstance" (by decide), fr "repr" (by decide), fr "range" (by decide), fr "enumerate" (by decide), fr "LookupError" (by decide), fr "AttributeError" (by decide), fr "RuntimeError" (by decide), fr "TypeError" (by decide), fr "ArithmeticError" (by decide), fr "ValueError" (by decide), sm, gl "OwnError" (by decide), gl "BadInput" (by decide), gl "Refused" (by decide), gl "NoAnswer" (by decide), gl "BadName" (by decide), gl "BadAmount" (by decide), gl "BadGap" (by decide), gl "BadTool" (by decide), gl "BadMark" (by decide), gl "BadBook" (by decide), gl "BadWorld" (by decide), gl "BadSaying" (by decide), gl "BadPrice" (by decide), gl "BadText" (by decide), gl "BadLine" (by decide), gl "NoThing" (by decide), gl "NoTool" (by decide), gl "NoMark" (by decide), gl "Taken" (by decide), gl "Unlike" (by decide), gl "TooMany" (by decide), gl "NoDivisor" (by decide), gl "NoWorld" (by decide), gl "NoRange" (by decide), gl "NoDeed" (by decide), gl "Barred" (by decide), gl "Loose" (by decide), (noo "NoDivisor" (by decide)).1, (noo "NoDivisor" (by decide)).2, (noo "NoWorld" (by decide)).1, (noo "NoWorld" (by decide)).2, (noo "NoRange" (by decide)).1, (noo "NoRange" (by decide)).2, (noo "NoDeed" (by decide)).1, (noo "NoDeed" (by decide)).2⟩
  obtain ⟨f_pen, F_pen⟩ := c.d.def_ 0 (d := d_pen) rfl
  obtain ⟨f_draw, F_draw⟩ := c.d.def_ 1 (d := d_draw) rfl
  obtain ⟨f_pick, F_pick⟩ := c.d.def_ 2 (d := d_pick) rfl
  obtain ⟨f_thing, F_thing⟩ := c.d.def_ 3 (d := d_thing) rfl
  obtain ⟨f_inputs, F_inputs⟩ := c.d.def_ 4 (d := d_inputs) rfl
  obtain ⟨f_others, F_others⟩ := c.d.def_ 5 (d := d_others) rfl
  obtain ⟨f_lone, F_lone⟩ := c.d.def_ 6 (d := d_lone) rfl
  obtain ⟨f_kept, F_kept⟩ := c.d.def_ 7 (d := d_kept) rfl
  obtain ⟨f_classes, F_classes⟩ := c.d.def_ 8 (d := d_classes) rfl
  obtain ⟨f_strange, F_strange⟩ := c.d.def_ 9 (d := d_strange) rfl
  obtain ⟨f_law, F_law⟩ := c.d.def_ 10 (d := d_law) rfl
  obtain ⟨fx_BadName, Fx_BadName⟩ := c.d.def_ 11 (d := dx_BadName) rfl
  obtain ⟨fx_BadAmount, Fx_BadAmount⟩ := c.d.def_ 12 (d := dx_BadAmount) rfl
  obtain ⟨fx_BadGap, Fx_BadGap⟩ := c.d.def_ 13 (d := dx_BadGap) rfl
  obtain ⟨fx_BadTool, Fx_BadTool⟩ := c.d.def_ 14 (d := dx_BadTool) rfl
  obtain ⟨fx_BadMark, Fx_BadMark⟩ := c.d.def_ 15 (d := dx_BadMark) rfl
  obtain ⟨fx_BadBook, Fx_BadBook⟩ := c.d.def_ 16 (d := dx_BadBook) rfl
  obtain ⟨fx_BadWorld, Fx_BadWorld⟩ := c.d.def_ 17 (d := dx_BadWorld) rfl
  obtain ⟨fx_BadSaying, Fx_BadSaying⟩ := c.d.def_ 18 (d := dx_BadSaying) rfl
  obtain ⟨fx_BadPrice, Fx_BadPrice⟩ := c.d.def_ 19 (d := dx_BadPrice) rfl
  obtain ⟨fx_BadText, Fx_BadText⟩ := c.d.def_ 20 (d := dx_BadText) rfl
  obtain ⟨fx_BadLine, Fx_BadLine⟩ := c.d.def_ 21 (d := dx_BadLine) rfl
  obtain ⟨fx_NoThing, Fx_NoThing⟩ := c.d.def_ 22 (d := dx_NoThing) rfl
  obtain ⟨fx_NoTool, Fx_NoTool⟩ := c.d.def_ 23 (d := dx_NoTool) rfl
  obtain ⟨fx_NoMark, Fx_NoMark⟩ := c.d.def_ 24 (d := dx_NoMark) rfl
  obtain ⟨fx_Taken, Fx_Taken⟩ := c.d.def_ 25 (d := dx_Taken) rfl
  obtain ⟨fx_Unlike, Fx_Unlike⟩ := c.d.def_ 26 (d := dx_Unlike) rfl
  obtain ⟨fx_TooMany, Fx_TooMany⟩ := c.d.def_ 27 (d := dx_TooMany) rfl
  obtain ⟨fx_Barred, Fx_Barred⟩ := c.d.def_ 28 (d := dx_Barred) rfl
  obtain ⟨fx_Loose, Fx_Loose⟩ := c.d.def_ 29 (d := dx_Loose) rfl
  have ef := hfa.symm.trans (gl "law" (by decide))
  cases ef
  have bL := FunD.bindsA (ps := ["_law_script"]) F_law fun _ _ _ _ _ _ us hl => match us, hl with | [_], _ => rfl
  refine ⟨f_law, fun s v => bL s [v] rfl, fun base _ _ => ?_⟩
  have b_pen : Binds K f_pen ["_law_script"] [] := F_pen.bindsN fun _ _ _ _ _ _ us hl => match us, hl with | [_], _ => rfl
  have b_draw : Binds K f_draw ["_law_pen_here", "_law_many"] [] := F_draw.bindsN fun _ _ _ _ _ _ us hl => match us, hl with | [_, _], _ => rfl
  have b_pick : Binds K f_pick ["_law_pen_here", "_law_some"] [] := F_pick.bindsN fun _ _ _ _ _ _ us hl => match us, hl with | [_, _], _ => rfl
  have b_thing : Binds K f_thing ["_law_pen_here"] [] := F_thing.bindsN fun _ _ _ _ _ _ us hl => match us, hl with | [_], _ => rfl
  have b_inputs : Binds K f_inputs ["_law_one", "_law_two"] [] := F_inputs.bindsN fun _ _ _ _ _ _ us hl => match us, hl with | [_, _], _ => rfl
  have b_others : Binds K f_others ["_law_one", "_law_two"] [] := F_others.bindsN fun _ _ _ _ _ _ us hl => match us, hl with | [_, _], _ => rfl
  have b_lone : Binds K f_lone ["_law_kind", "_law_error"] [] := F_lone.bindsN fun _ _ _ _ _ _ us hl => match us, hl with | [_, _], _ => rfl
  have b_kept : Binds K f_kept ["_law_kind", "_law_error"] [] := F_kept.bindsN fun _ _ _ _ _ _ us hl => match us, hl with | [_, _], _ => rfl
  have b_classes : Binds K f_classes ["_law_error"] [] := F_classes.bindsN fun _ _ _ _ _ _ us hl => match us, hl with | [_], _ => rfl
  have b_strange : Binds K f_strange ["_law_error"] [] := F_strange.bindsN fun _ _ _ _ _ _ us hl => match us, hl with | [_], _ => rfl
  have bx_BadName : Binds K fx_BadName ["self", "value"] [] := Fx_BadName.bindsN fun _ _ _ _ _ _ us hl => match us, hl with | [_, _], _ => rfl
  have Z_BadName := Xv.one (P := PP) (w := w) (base := base) (gl "BadName" (by decide)) (ec 0 (by decide)).xc (ini "BadName" (by decide)).1 (ini "BadName" (by decide)).2 (ok_x_BadName Fx_BadName (ec 0 (by decide)).xc (na ("BadName", "value") (by decide))) bx_BadName (kbS (ks := ["value"]) (pw := fun l => l) Fx_BadName (fun kV doc pm an cdv ct a ws hw => match ws, hw with | [_], _ => rfl))
  have bx_BadAmount : Binds K fx_BadAmount ["self", "value"] [] := Fx_BadAmount.bindsN fun _ _ _ _ _ _ us hl => match us, hl with | [_, _], _ => rfl
  have Z_BadAmount := Xv.one (P := PP) (w := w) (base := base) (gl "BadAmount" (by decide)) (ec 1 (by decide)).xc (ini "BadAmount" (by decide)).1 (ini "BadAmount" (by decide)).2 (ok_x_BadAmount Fx_BadAmount (ec 1 (by decide)).xc (na ("BadAmount", "value") (by decide))) bx_BadAmount (kbS (ks := ["value"]) (pw := fun l => l) Fx_BadAmount (fun kV doc pm an cdv ct a ws hw => match ws, hw with | [_], _ => rfl))
  have bx_BadGap : Binds K fx_BadGap ["self", "part"] [] := Fx_BadGap.bindsN fun _ _ _ _ _ _ us hl => match us, hl with | [_, _], _ => rfl
  have Z_BadGap := Xv.one (P := PP) (w := w) (base := base) (gl "BadGap" (by decide)) (ec 2 (by decide)).xc (ini "BadGap" (by decide)).1 (ini "BadGap" (by decide)).2 (ok_x_BadGap Fx_BadGap (ec 2 (by decide)).xc (na ("BadGap", "part") (by decide))) bx_BadGap (kbS (ks := ["part"]) (pw := fun l => l) Fx_BadGap (fun kV doc pm an cdv ct a ws hw => match ws, hw with | [_], _ => rfl))
  have bx_BadTool : Binds K fx_BadTool ["self", "part"] [] := Fx_BadTool.bindsN fun _ _ _ _ _ _ us hl => match us, hl with | [_, _], _ => rfl
  have Z_BadTool := Xv.one (P := PP) (w := w) (base := base) (gl "BadTool" (by decide)) (ec 3 (by decide)).xc (ini "BadTool" (by decide)).1 (ini "BadTool" (by decide)).2 (ok_x_BadTool Fx_BadTool (ec 3 (by decide)).xc (na ("BadTool", "part") (by decide))) bx_BadTool (kbS (ks := ["part"]) (pw := fun l => l) Fx_BadTool (fun kV doc pm an cdv ct a ws hw => match ws, hw with | [_], _ => rfl))
  have bx_BadMark : Binds K fx_BadMark ["self", "value"] [] := Fx_BadMark.bindsN fun _ _ _ _ _ _ us hl => match us, hl with | [_, _], _ => rfl
  have Z_BadMark := Xv.one (P := PP) (w := w) (base := base) (gl "BadMark" (by decide)) (ec 4 (by decide)).xc (ini "BadMark" (by decide)).1 (ini "BadMark" (by decide)).2 (ok_x_BadMark Fx_BadMark (ec 4 (by decide)).xc (na ("BadMark", "value") (by decide))) bx_BadMark (kbS (ks := ["value"]) (pw := fun l => l) Fx_BadMark (fun kV doc pm an cdv ct a ws hw => match ws, hw with | [_], _ => rfl))
  have bx_BadBook : Binds K fx_BadBook ["self", "part"] [] := Fx_BadBook.bindsN fun _ _ _ _ _ _ us hl => match us, hl with | [_, _], _ => rfl
  have Z_BadBook := Xv.one (P := PP) (w := w) (base := base) (gl "BadBook" (by decide)) (ec 5 (by decide)).xc (ini "BadBook" (by decide)).1 (ini "BadBook" (by decide)).2 (ok_x_BadBook Fx_BadBook (ec 5 (by decide)).xc (na ("BadBook", "part") (by decide))) bx_BadBook (kbS (ks := ["part"]) (pw := fun l => l) Fx_BadBook (fun kV doc pm an cdv ct a ws hw => match ws, hw with | [_], _ => rfl))
  have bx_BadWorld : Binds K fx_BadWorld ["self", "part"] [] := Fx_BadWorld.bindsN fun _ _ _ _ _ _ us hl => match us, hl with | [_, _], _ => rfl
  have Z_BadWorld := Xv.one (P := PP) (w := w) (base := base) (gl "BadWorld" (by decide)) (ec 6 (by decide)).xc (ini "BadWorld" (by decide)).1 (ini "BadWorld" (by decide)).2 (ok_x_BadWorld Fx_BadWorld (ec 6 (by decide)).xc (na ("BadWorld", "part") (by decide))) bx_BadWorld (kbS (ks := ["part"]) (pw := fun l => l) Fx_BadWorld (fun kV doc pm an cdv ct a ws hw => match ws, hw with | [_], _ => rfl))
  have bx_BadSaying : Binds K fx_BadSaying ["self", "part"] [] := Fx_BadSaying.bindsN fun _ _ _ _ _ _ us hl => match us, hl with | [_, _], _ => rfl
  have Z_BadSaying := Xv.one (P := PP) (w := w) (base := base) (gl "BadSaying" (by decide)) (ec 7 (by decide)).xc (ini "BadSaying" (by decide)).1 (ini "BadSaying" (by decide)).2 (ok_x_BadSaying Fx_BadSaying (ec 7 (by decide)).xc (na ("BadSaying", "part") (by decide))) bx_BadSaying (kbS (ks := ["part"]) (pw := fun l => l) Fx_BadSaying (fun kV doc pm an cdv ct a ws hw => match ws, hw with | [_], _ => rfl))
  have bx_BadPrice : Binds K fx_BadPrice ["self", "value"] [] := Fx_BadPrice.bindsN fun _ _ _ _ _ _ us hl => match us, hl with | [_, _], _ => rfl
  have Z_BadPrice := Xv.one (P := PP) (w := w) (base := base) (gl "BadPrice" (by decide)) (ec 8 (by decide)).xc (ini "BadPrice" (by decide)).1 (ini "BadPrice" (by decide)).2 (ok_x_BadPrice Fx_BadPrice (ec 8 (by decide)).xc (na ("BadPrice", "value") (by decide))) bx_BadPrice (kbS (ks := ["value"]) (pw := fun l => l) Fx_BadPrice (fun kV doc pm an cdv ct a ws hw => match ws, hw with | [_], _ => rfl))
  have bx_BadText : Binds K fx_BadText ["self", "line", "word"] [] := Fx_BadText.bindsN fun _ _ _ _ _ _ us hl => match us, hl with | [_, _, _], _ => rfl
  have Z_BadText := Xv.two (P := PP) (w := w) (base := base) (gl "BadText" (by decide)) (ec 9 (by decide)).xc (ini "BadText" (by decide)).1 (ini "BadText" (by decide)).2 (ok_x_BadText Fx_BadText (ec 9 (by decide)).xc (na ("BadText", "line") (by decide)) (na ("BadText", "word") (by decide))) bx_BadText (kbS (ks := ["word", "line"]) (pw := sw2) Fx_BadText (fun kV doc pm an cdv ct a ws hw => match ws, hw with | [_, _], _ => rfl))
  have bx_BadLine : Binds K fx_BadLine ["self", "word"] [] := Fx_BadLine.bindsN fun _ _ _ _ _ _ us hl => match us, hl with | [_, _], _ => rfl
  have Z_BadLine := Xv.one (P := PP) (w := w) (base := base) (gl "BadLine" (by decide)) (ec 10 (by decide)).xc (ini "BadLine" (by decide)).1 (ini "BadLine" (by decide)).2 (ok_x_BadLine Fx_BadLine (ec 10 (by decide)).xc (na ("BadLine", "word") (by decide))) bx_BadLine (kbS (ks := ["word"]) (pw := fun l => l) Fx_BadLine (fun kV doc pm an cdv ct a ws hw => match ws, hw with | [_], _ => rfl))
  have bx_NoThing : Binds K fx_NoThing ["self", "name"] [] := Fx_NoThing.bindsN fun _ _ _ _ _ _ us hl => match us, hl with | [_, _], _ => rfl
  have Z_NoThing := Xv.one (P := PP) (w := w) (base := base) (gl "NoThing" (by decide)) (ec 11 (by decide)).xc (ini "NoThing" (by decide)).1 (ini "NoThing" (by decide)).2 (ok_x_NoThing Fx_NoThing (ec 11 (by decide)).xc (na ("NoThing", "name") (by decide))) bx_NoThing (kbS (ks := ["name"]) (pw := fun l => l) Fx_NoThing (fun kV doc pm an cdv ct a ws hw => match ws, hw with | [_], _ => rfl))
  have bx_NoTool : Binds K fx_NoTool ["self", "name"] [] := Fx_NoTool.bindsN fun _ _ _ _ _ _ us hl => match us, hl with | [_, _], _ => rfl
  have Z_NoTool := Xv.one (P := PP) (w := w) (base := base) (gl "NoTool" (by decide)) (ec 12 (by decide)).xc (ini "NoTool" (by decide)).1 (ini "NoTool" (by decide)).2 (ok_x_NoTool Fx_NoTool (ec 12 (by decide)).xc (na ("NoTool", "name") (by decide))) bx_NoTool (kbS (ks := ["name"]) (pw := fun l => l) Fx_NoTool (fun kV doc pm an cdv ct a ws hw => match ws, hw with | [_], _ => rfl))
  have bx_NoMark : Binds K fx_NoMark ["self", "tool", "thing"] [] := Fx_NoMark.bindsN fun _ _ _ _ _ _ us hl => match us, hl with | [_, _, _], _ => rfl
  have Z_NoMark := Xv.two (P := PP) (w := w) (base := base) (gl "NoMark" (by decide)) (ec 13 (by decide)).xc (ini "NoMark" (by decide)).1 (ini "NoMark" (by decide)).2 (ok_x_NoMark Fx_NoMark (ec 13 (by decide)).xc (na ("NoMark", "tool") (by decide)) (na ("NoMark", "thing") (by decide))) bx_NoMark (kbS (ks := ["thing", "tool"]) (pw := sw2) Fx_NoMark (fun kV doc pm an cdv ct a ws hw => match ws, hw with | [_, _], _ => rfl))
  have bx_Taken : Binds K fx_Taken ["self", "tool", "thing"] [] := Fx_Taken.bindsN fun _ _ _ _ _ _ us hl => match us, hl with | [_, _, _], _ => rfl
  have Z_Taken := Xv.two (P := PP) (w := w) (base := base) (gl "Taken" (by decide)) (ec 14 (by decide)).xc (ini "Taken" (by decide)).1 (ini "Taken" (by decide)).2 (ok_x_Taken Fx_Taken (ec 14 (by decide)).xc (na ("Taken", "tool") (by decide)) (na ("Taken", "thing") (by decide))) bx_Taken (kbS (ks := ["thing", "tool"]) (pw := sw2) Fx_Taken (fun kV doc pm an cdv ct a ws hw => match ws, hw with | [_, _], _ => rfl))
  have bx_Unlike : Binds K fx_Unlike ["self", "part"] [] := Fx_Unlike.bindsN fun _ _ _ _ _ _ us hl => match us, hl with | [_, _], _ => rfl
  have Z_Unlike := Xv.one (P := PP) (w := w) (base := base) (gl "Unlike" (by decide)) (ec 15 (by decide)).xc (ini "Unlike" (by decide)).1 (ini "Unlike" (by decide)).2 (ok_x_Unlike Fx_Unlike (ec 15 (by decide)).xc (na ("Unlike", "part") (by decide))) bx_Unlike (kbS (ks := ["part"]) (pw := fun l => l) Fx_Unlike (fun kV doc pm an cdv ct a ws hw => match ws, hw with | [_], _ => rfl))
  have bx_TooMany : Binds K fx_TooMany ["self", "what", "most"] [] := Fx_TooMany.bindsN fun _ _ _ _ _ _ us hl => match us, hl with | [_, _, _], _ => rfl
  have Z_TooMany := Xv.two (P := PP) (w := w) (base := base) (gl "TooMany" (by decide)) (ec 16 (by decide)).xc (ini "TooMany" (by decide)).1 (ini "TooMany" (by decide)).2 (ok_x_TooMany Fx_TooMany (ec 16 (by decide)).xc (na ("TooMany", "what") (by decide)) (na ("TooMany", "most") (by decide))) bx_TooMany (kbS (ks := ["most", "what"]) (pw := sw2) Fx_TooMany (fun kV doc pm an cdv ct a ws hw => match ws, hw with | [_, _], _ => rfl))
  have bx_Barred : Binds K fx_Barred ["self", "sheets"] [] := Fx_Barred.bindsN fun _ _ _ _ _ _ us hl => match us, hl with | [_, _], _ => rfl
  have Z_Barred := Xv.one (P := PP) (w := w) (base := base) (gl "Barred" (by decide)) (ec 21 (by decide)).xc (ini "Barred" (by decide)).1 (ini "Barred" (by decide)).2 (ok_x_Barred Fx_Barred (ec 21 (by decide)).xc (na ("Barred", "sheets") (by decide))) bx_Barred (kbS (ks := ["sheets"]) (pw := fun l => l) Fx_Barred (fun kV doc pm an cdv ct a ws hw => match ws, hw with | [_], _ => rfl))
  have bx_Loose : Binds K fx_Loose ["self", "world"] [] := Fx_Loose.bindsN fun _ _ _ _ _ _ us hl => match us, hl with | [_, _], _ => rfl
  have Z_Loose := Xv.one (P := PP) (w := w) (base := base) (gl "Loose" (by decide)) (ec 22 (by decide)).xc (ini "Loose" (by decide)).1 (ini "Loose" (by decide)).2 (ok_x_Loose Fx_Loose (ec 22 (by decide)).xc (na ("Loose", "world") (by decide))) bx_Loose (kbS (ks := ["world"]) (pw := fun l => l) Fx_Loose (fun kV doc pm an cdv ct a ws hw => match ws, hw with | [_], _ => rfl))
  have MK : MkAll PP w K mg base := ⟨Z_BadName.1, Z_BadName.2, Z_BadAmount.1, Z_BadAmount.2, Z_BadGap.1, Z_BadGap.2, Z_BadTool.1, Z_BadTool.2, Z_BadMark.1, Z_BadMark.2, Z_BadBook.1, Z_BadBook.2, Z_BadWorld.1, Z_BadWorld.2, Z_BadSaying.1, Z_BadSaying.2, Z_BadPrice.1, Z_BadPrice.2, Z_BadText.1, Z_BadText.2, Z_BadLine.1, Z_BadLine.2, Z_NoThing.1, Z_NoThing.2, Z_NoTool.1, Z_NoTool.2, Z_NoMark.1, Z_NoMark.2, Z_Taken.1, Z_Taken.2, Z_Unlike.1, Z_Unlike.2, Z_TooMany.1, Z_TooMany.2, Z_Barred.1, Z_Barred.2, Z_Loose.1, Z_Loose.2⟩
  have C_pen : Fnc PP w K mg base 1 "_law_pen" ["_law_script"] (spPen K) := ⟨_, _, gl "_law_pen" (by decide), F_pen.kp, b_pen, ok_pen F_pen TP⟩
  have C_draw : Fnc PP w K mg base 1 "_law_draw" ["_law_pen_here", "_law_many"] spDraw := ⟨_, _, gl "_law_draw" (by decide), F_draw.kp, b_draw, ok_draw F_draw TP⟩
  have C_pick : Fnc PP w K mg base 2 "_law_pick" ["_law_pen_here", "_law_some"] spPick := ⟨_, _, gl "_law_pick" (by decide), F_pick.kp, b_pick, ok_pick F_pick TP C_draw⟩
  have C_thing : Fnc PP w K mg base 3 "_law_thing" ["_law_pen_here"] spThing := ⟨_, _, gl "_law_thing" (by decide), F_thing.kp, b_thing, ok_thing F_thing T C_draw C_pick⟩
  have C_inputs : Fnc PP w K mg base 3 "_law_inputs" ["_law_one", "_law_two"] (spI K) := ⟨_, _, gl "_law_inputs" (by decide), F_inputs.kp, b_inputs, ok_inputs F_inputs T MK⟩
  have C_others : Fnc PP w K mg base 3 "_law_others" ["_law_one", "_law_two"] (spO K) := ⟨_, _, gl "_law_others" (by decide), F_others.kp, b_others, ok_others F_others T MK⟩
  have C_lone : Fnc PP w K mg base 1 "_law_lone" ["_law_kind", "_law_error"] (spLone K) := ⟨_, _, gl "_law_lone" (by decide), F_lone.kp, b_lone, ok_lone F_lone T⟩
  have C_kept : Fnc PP w K mg base 2 "_law_kept" ["_law_kind", "_law_error"] (spKept K) := ⟨_, _, gl "_law_kept" (by decide), F_kept.kp, b_kept, ok_kept F_kept T C_lone⟩
  have C_classes : Fnc PP w K mg base 1 "_law_classes" ["_law_error"] (spClasses K) := ⟨_, _, gl "_law_classes" (by decide), F_classes.kp, b_classes, ok_classes F_classes T⟩
  have C_strange : Fnc PP w K mg base 1 "_law_is_strange" ["_law_error"] (spStrange K) := ⟨_, _, gl "_law_is_strange" (by decide), F_strange.kp, b_strange, ok_strange F_strange T⟩
  exact ok_law F_law T na ec C_pen C_thing C_inputs C_others C_kept C_classes C_strange
end LW
open PySem PySem.W PySem.Calls PyProof.Rows
theorem PySem.Challenge.cw_ownzeros_k01_errors_kept_holds : PySem.Challenge.rw_ownzeros_k01_errors_kept.Holds := by
  w_on; o_law
  refine HandSHeadRun.head_any (r := OpenLaw.row PySem.Challenge.rw_ownzeros_k01_errors_kept) (q := view (OpenLaw.row PySem.Challenge.rw_ownzeros_k01_errors_kept).prog [39]) (H := LW.hk) (ob := LW.ob) (M := 40000) (loose := LW.names) (d := HandSHeadRun.topDef (OpenLaw.row PySem.Challenge.rw_ownzeros_k01_errors_kept).prog 39) (kwd := []) LW.ob_eq
    (by kernel_rfl) (fun s => by kernel_rfl) LW.run (by kernel_rfl) (by kernel_rfl) (by kernel_rfl) (by rfl) (by first | assumption | decide +kernel) (by decide +kernel) ⟨rfl, rfl, rfl, rfl, rfl, by decide +kernel⟩ ?hw ?hc
  case hw => w_witness2
  case hc =>
    refine OZ.walkG (l := PySem.Challenge.rw_ownzeros_k01_errors_kept) (n := 63) (k := 8) (x := "_law_script") rfl (by decide) (by kernel_rfl) ⟨rfl, by decide, by decide⟩ ?F
    intro w mg fa h Y G hmg0
    obtain ⟨K, KX, c⟩ := Y
    have hmg : mg ("law" : PySem.Str) = some (.ref fa) := by
      have e : (HandSHeadRun.topDef (OpenLaw.row PySem.Challenge.rw_ownzeros_k01_errors_kept).prog 39).name = ("law" : PySem.Str) := by kernel_rfl
      rw [← e]
      exact hmg0
    obtain ⟨fd, hb, hF⟩ := LW.asm (w := w) KX G hmg c
    exact ⟨K, KX, fd, [], LW.spLaw K, (fun q hq => absurd hq (by simp)), (fun q hq => absurd hq (by simp)), (fun q hq => absurd hq (by simp)), hb, fun H a ns hl _ hS => ⟨a, ns, rfl, hS, hl, fun _ => rfl⟩, fun base h1 h2 _ => hF base h1 h2⟩
