import PyProof.Rows.All
import Wide.All
import OpenK.AllK
import Wide.FinOn
import HandS.ForMost
import HandS.ForExc
import HandS.ExcInit
import HandS.ExcIs
import HandS.ExcField
import HandS.ExcValue
import HandS.IsInst
import HandS.Wide
import HandS.Defaults
import HandS.Flow
import HandS.Evl
import HandS.Steps
import HandS.Lambda
import HandS.EndTab
import HandS.HeadWalk
import HandS.HeadEnd
import HandS.HeadHook4
import HandS.Head0
import HandS.Head1
import HandS.Head2
import KE.KExcIs
import HandS.Walk
import HandS.CallSlots
import PySem.Challenge.RW_ownzeros_k02_names_told
set_option Elab.async false
set_option linter.all false
set_option maxRecDepth 100000
namespace OZ
open PySem PySem.Spec PyProof.Rows L2
def Fnc (P : Program) (w : World) (K : PySem.W.Frag) (mg : Str → Option Value) (base : Heap) (k : Nat) (x : Str) (ps : List Str) (sp : Sp) : Prop :=
  ∃ (f : Addr) (fd : FuncData), mg x = some (.ref f) ∧ PySem.W.keepIn K (.ref f) = true ∧ Binds K fd ps [] ∧ FnOk P w K mg base (L2.CX P w) k f fd ps sp
section
variable {X : Cx} {k : Nat} {x : Str} {ps : List Str} {sp : Sp} {e : Expr} {es : List Expr} {t : TA} {p pos : Pos}
theorem oc (F : Fnc X.prog X.w X.K X.mg X.base k x ps sp) (hr : Room k X.A) (ha : PA X (e :: es) t) (hg : Gl X x := by rfl) (hdb : (x == ("__debug__" : Str)) = false := by decide)
    (he : starEach (e :: es) X.env = (false, eval e X.env) :: starEach es X.env := by rfl) (hpl : (backTo pos (starEach es X.env)).any (·.1) = false := by rfl) :
    PE X (.Call (.Name x p) (e :: es) [] pos) (tCall sp [] E0 t) := by
  obtain ⟨f, fd, hm, hk, hb, G⟩ := F
  exact pe_call G hr hg hm hk hb .nil passL ha hdb he hpl
theorem ocX {W : WX} (F : Fnc X.prog X.w X.K X.mg X.base k x ps sp) (hr : Room k X.A) (tk : Takes X W) (ha : PA X (e :: es) t) (hg : Gl X x := by rfl) (hdb : (x == ("__debug__" : Str)) = false := by decide)
    (he : starEach (e :: es) X.env = (false, eval e X.env) :: starEach es X.env := by rfl) (hpl : (backTo pos (starEach es X.env)).any (·.1) = false := by rfl) :
    PE X (.Call (.Name x p) (e :: es) [] pos) (tCallS sp (WE W) t) := by
  obtain ⟨f, fd, hm, hk, hb, G⟩ := F
  exact pe_callS G hr hg hm hk hb (fun σ => passAt tk σ) ha hdb he hpl
end
def Kp (p : Addr) (H H' : Hp) : Prop := ∀ a o, a ≠ p → H a = some o → H' a = some o
theorem Kp.refl (p : Addr) (H : Hp) : Kp p H H := fun _ _ _ h => h
theorem Kp.trans {p : Addr} {H H1 H2 : Hp} (a : Kp p H H1) (b : Kp p H1 H2) : Kp p H H2 := fun c o n h => b c o n (a c o n h)
theorem Kp.new {p q : Addr} {H : Hp} {o : HO} (h : H q = none) : Kp p H (upd H q o) := fun a u _ e => by
  rw [upd_ne (ne_of_none e h)]; exact e
theorem Kp.set {p : Addr} {H : Hp} {o : HO} : Kp p H (upd H p o) := fun a u n e => by rw [upd_ne n]; exact e
theorem Kp.of {p : Addr} {H H' : Hp} (h : Same H H') : Kp p H H' := fun a o _ e => h a o e
def PenAt (H : Hp) (p c : Addr) (n : Nat) : Prop := ∃ (ns : List Int) (b l : Int),
  H p = some (.lst [.ref c, .int b, .int l]) ∧ H c = some (.lst (ns.map V.int)) ∧ 0 ≤ b ∧ b ≤ n ∧ 0 ≤ l
theorem PenAt.mono {H : Hp} {p c : Addr} {n m : Nat} (P : PenAt H p c n) (h : n ≤ m) : PenAt H p c m := by
  obtain ⟨ns, b, l, h1, h2, h3, h4, h5⟩ := P
  exact ⟨ns, b, l, h1, h2, h3, by omega, h5⟩
theorem PenAt.same {H H' : Hp} {p c : Addr} {n : Nat} (P : PenAt H p c n) (s : Same H H') : PenAt H' p c n := by
  obtain ⟨ns, b, l, h1, h2, h3, h4, h5⟩ := P
  exact ⟨ns, b, l, s _ _ h1, s _ _ h2, h3, h4, h5⟩
theorem PenAt.new {H : Hp} {p c q : Addr} {n : Nat} {o : HO} (P : PenAt H p c n) (h : H q = none) : PenAt (upd H q o) p c n :=
  P.same fun a u e => by rw [upd_ne (ne_of_none e h)]; exact e
theorem PenAt.oth {H : Hp} {p c q : Addr} {n : Nat} {o : HO} (P : PenAt H p c n) (h1 : q ≠ p) (h2 : q ≠ c) : PenAt (upd H q o) p c n := by
  obtain ⟨ns, b, l, g1, g2, g3⟩ := P
  exact ⟨ns, b, l, by rw [upd_ne (Ne.symm h1)]; exact g1, by rw [upd_ne (Ne.symm h2)]; exact g2, g3⟩
theorem PenAt.p_ne {H : Hp} {p c q : Addr} {n : Nat} (P : PenAt H p c n) (h : H q = none) : q ≠ p := by
  obtain ⟨ns, b, l, g1, g2, g3⟩ := P
  exact Ne.symm (ne_of_none g1 h)
theorem PenAt.c_ne {H : Hp} {p c q : Addr} {n : Nat} (P : PenAt H p c n) (h : H q = none) : q ≠ c := by
  obtain ⟨ns, b, l, g1, g2, g3⟩ := P
  exact Ne.symm (ne_of_none g2 h)
theorem lst_ne {c : Addr} {b l : Int} (ns : List Int) : (HO.lst [.ref c, .int b, .int l]) ≠ HO.lst (ns.map V.int) := fun z => by
  injection z with z
  cases ns with
  | nil => cases z
  | cons n r => injection z with z _; cases z
theorem ix_lt {xs : List V} {i : Int} {v : V} {j : Nat} (h : xs[j]? = some v) (e : i = (j : Int)) : atI xs i = some v := by rw [e]; exact atI_nat h
def spDraw : Sp := fun vs H Q _ => ∃ (p c : Addr) (n : Nat) (m : Int), vs = [.ref p, .int m] ∧ PenAt H p c n ∧ n ≤ 1000000 ∧ 0 < m ∧ m.natAbs < 2 ^ 4000 ∧
  ∀ (r : Int) (H' : Hp), 0 ≤ r → r < m → PenAt H' p c (n + 1) → Kp p H H' → Q (.int r) H'
theorem fmod_pos {a m : Int} (h : 0 < m) : 0 ≤ a.fmod m ∧ a.fmod m < m := by
  rw [Int.fmod_eq_emod_of_nonneg _ (Int.le_of_lt h)]
  exact ⟨Int.emod_nonneg _ (by omega), Int.emod_lt_of_pos _ h⟩
theorem mul_bd {x y A B : Int} (hx0 : 0 ≤ x) (hx : x < A) (hy0 : 0 ≤ y) (hy : y < B) : 0 ≤ x * y ∧ x * y < A * B := by
  refine ⟨Int.mul_nonneg hx0 hy0, ?_⟩
  have h1 : x * y ≤ x * B := Int.mul_le_mul_of_nonneg_left (Int.le_of_lt hy) hx0
  have h2 : x * B < A * B := Int.mul_lt_mul_of_pos_right hx (by omega)
  omega
theorem ediv_nn {a m : Int} (h : 0 < m) (ha : 0 ≤ a) : 0 ≤ a / m := Int.ediv_nonneg ha (Int.le_of_lt h)
theorem ints_dp {K : PySem.W.Frag} {H : Hp} : ∀ ns : List Int, DpAll K H (ns.map V.int) (ns.map PyData.int)
  | [] => .nil
  | n :: r => .cons (.int n) (ints_dp r)
def rInt : List V → Hp → VK → Prop := fun xs H Q => (∃ i, xs = [.int i] ∧ Q (.int i) H) ∨ ∃ k, xs = [.bl k] ∧ Q (.int (if k then 1 else 0)) H
theorem c_int {X : Cx} : CallR X (.type "int") rInt := call_int1
theorem y_int {a : Int} {H : Hp} {Q : VK} (h : Q (.int a) H) : rInt [.int a] H Q := .inl ⟨a, rfl, h⟩
theorem y_intB {b : Bool} {H : Hp} {Q : VK} (h : Q (.int (if b then 1 else 0)) H) : rInt [.bl b] H Q := .inr ⟨b, rfl, h⟩
def rAbs : List V → Hp → VK → Prop := fun xs H Q => ∃ i, xs = [.int i] ∧ Q (.int (if i < 0 then -i else i)) H
theorem c_abs {X : Cx} : CallR X (.builtin "abs") rAbs := call_abs
theorem y_abs {a : Int} {H : Hp} {Q : VK} (h : Q (.int (if a < 0 then -a else a)) H) : rAbs [.int a] H Q := ⟨a, rfl, h⟩
def rLenQ (K : PySem.W.Frag) : List V → Hp → VK → Prop := fun xs H Q => ∃ p ys, xs = [.ref p] ∧ (SqL K H p ys ∨ SqT K H p ys) ∧ Q (.int ys.length) H
theorem c_len {X : Cx} : CallR X (.builtin "len") (rLenQ X.K) := call_len_seq
theorem y_lenL {K : PySem.W.Frag} {p : Addr} {xs : List V} {H : Hp} {Q : VK} (hp : H p = some (.lst xs)) (h : Q (.int xs.length) H) : rLenQ K [.ref p] H Q := ⟨p, xs, rfl, .inl (SqL.of hp), h⟩
theorem y_lenT {K : PySem.W.Frag} {p : Addr} {xs : List V} {H : Hp} {Q : VK} (hp : H p = some (.tup xs)) (h : Q (.int xs.length) H) : rLenQ K [.ref p] H Q := ⟨p, xs, rfl, .inr (SqT.of hp), h⟩
def rLenZ : List V → Hp → VK → Prop := fun xs H Q => ∃ z : Str, xs = [.str z] ∧ z.length ≤ sizeLine ∧ Q (.int z.length) H
theorem c_lenS {X : Cx} : CallR X (.builtin "len") rLenZ := call_len_str
theorem y_lenS {z : Str} {H : Hp} {Q : VK} (hz : z.length ≤ sizeLine) (h : Q (.int z.length) H) : rLenZ [.str z] H Q := ⟨z, rfl, hz, h⟩
def rListOf (K : PySem.W.Frag) : List V → Hp → VK → Prop := fun xs H Q => ∃ p ys, xs = [.ref p] ∧ (SqL K H p ys ∨ SqT K H p ys) ∧ ∀ l, H l = none → Q (.ref l) (upd H l (.lst ys))
theorem c_list {X : Cx} : CallR X (.type "list") (rListOf X.K) := call_list_of
def rIsNo : R2 := fun x y H Q => y = .non ∧ Q (.bl (decide (x = .non))) H
theorem o_isN {X : Cx} : OpR X (compareOp .Is) rIsNo := op_isN
def rNotNo : R2 := fun x y H Q => y = .non ∧ Q (.bl (!decide (x = .non))) H
theorem o_notN {X : Cx} : OpR X (compareOp .IsNot) rNotNo := op_notN
theorem y_isN {x : V} {H : Hp} {Q : VK} (h : Q (.bl (decide (x = .non))) H) : rIsNo x .non H Q := ⟨rfl, h⟩
theorem y_notN {x : V} {H : Hp} {Q : VK} (h : Q (.bl (!decide (x = .non))) H) : rNotNo x .non H Q := ⟨rfl, h⟩
def rAddS : R2 := fun x y H Q => ∃ i j : Str, x = .str i ∧ y = .str j ∧ i.length + j.length ≤ sizeLine ∧ Q (.str (i ++ j)) H
theorem o_addS {X : Cx} : OpR X (binaryOp .Add) rAddS := op_add_str
theorem y_addS {a b : Str} {H : Hp} {Q : VK} (hl : a.length + b.length ≤ sizeLine) (h : Q (.str (a ++ b)) H) : rAddS (.str a) (.str b) H Q := ⟨a, b, rfl, rfl, hl, h⟩
def rInC : R2 := fun x y H Q => ∃ (c : Nat) (z : Str), x = .str ⟨#[c]⟩ ∧ y = .str z ∧ Q (.bl (decide (c ∈ z.cps.toList))) H
theorem o_inC {X : Cx} : OpR X (compareOp .In) rInC := op_in_sign
def rNotInC : R2 := fun x y H Q => ∃ (c : Nat) (z : Str), x = .str ⟨#[c]⟩ ∧ y = .str z ∧ Q (.bl (!decide (c ∈ z.cps.toList))) H
theorem o_notInC {X : Cx} : OpR X (compareOp .NotIn) rNotInC := op_notIn_sign
theorem y_inC {c : Nat} {z : Str} {H : Hp} {Q : VK} (h : Q (.bl (decide (c ∈ z.cps.toList))) H) : rInC (.str ⟨#[c]⟩) (.str z) H Q := ⟨c, z, rfl, rfl, h⟩
theorem y_notInC {c : Nat} {z : Str} {H : Hp} {Q : VK} (h : Q (.bl (!decide (c ∈ z.cps.toList))) H) : rNotInC (.str ⟨#[c]⟩) (.str z) H Q := ⟨c, z, rfl, rfl, h⟩
theorem y_slS {z : Str} {lo hi : Option Int} {H : Hp} {Q : VK} (hl : z.length ≤ sizeLine) (h : Q (.str (cutS z lo hi)) H) : rSlS (.str z) lo hi H Q := ⟨z, rfl, hl, h⟩
theorem y_sl {r : V → Option Int → Option Int → Hp → VK → Prop} {te : TE} {tl th : TO} {σ : L2.St} {H : Hp} {Q : VK} (h : te σ H fun x H1 => tl σ H1 fun l H2 => th σ H2 fun u H3 => r x l u H3 Q) : tSl r te tl th σ H Q := h
theorem y_part {te : TE} {σ : L2.St} {H : Hp} {Q : Option Int → Hp → Prop} (h : te σ H fun x H1 => ∃ i, x = .int i ∧ Q (some i) H1) : tPart te σ H Q := h
theorem y_nopart {σ : L2.St} {H : Hp} {Q : Option Int → Hp → Prop} (h : Q none H) : tNoPart σ H Q := h
theorem y_exI {a : Int} {P : Int → Prop} (h : P a) : ∃ i, V.int a = .int i ∧ P i := ⟨a, rfl, h⟩
theorem og_int {X : Cx} {x : Str} {i : Int} {pos : Pos} (h : ∃ t, X.mg x = some (.int i t)) (hg : Gl X x := by rfl) (hd : (x == ("__debug__" : Str)) = false := by decide) : PE X (.Name x pos) (tC (.int i)) := by
  obtain ⟨t, h⟩ := h
  exact pe_glob hg h ⟨t, rfl⟩ hd
theorem og_str {X : Cx} {x : Str} {z : Str} {pos : Pos} (h : ∃ t, X.mg x = some (.str z t)) (hg : Gl X x := by rfl) (hd : (x == ("__debug__" : Str)) = false := by decide) : PE X (.Name x pos) (tC (.str z)) := by
  obtain ⟨t, h⟩ := h
  exact pe_glob hg h ⟨t, rfl⟩ hd
theorem og_ref {X : Cx} {x : Str} {a : Addr} {pos : Pos} (h : X.mg x = some (.ref a)) (hg : Gl X x := by rfl) (hd : (x == ("__debug__" : Str)) = false := by decide) : PE X (.Name x pos) (tC (.ref a)) := pe_glob hg h rfl hd
section
variable {σ : L2.St} {H : Hp} {Q : VK} {D : Ends} {te ta tb : TE} {tt tu : TT} {t u : TS} {tA tr : TA} {i : Nat} {v x y : V} {K : PySem.W.Frag}
theorem y_var (h : ∃ v, σ[i]? = some (some v) ∧ Q v H) : tVar i σ H Q := h
theorem y_c (h : Q v H) : tC v σ H Q := h
theorem y_op {r : R2} (h : ta σ H fun x H1 => tb σ H1 fun y H2 => r x y H2 Q) : tOp r ta tb σ H Q := h
theorem y_un {r : V → Hp → VK → Prop} (h : ta σ H fun x H1 => r x H1 Q) : tUn r ta σ H Q := h
theorem y_cb {r : List V → Hp → VK → Prop} (h : tA σ H fun vs H1 => r vs H1 Q) : tCB r tA σ H Q := h
theorem y_nil {Q : List V → Hp → Prop} (h : Q [] H) : tNil σ H Q := h
theorem y_cons {Q : List V → Hp → Prop} (h : ta σ H fun x H1 => tr σ H1 fun xs H2 => Q (x :: xs) H2) : tCons ta tr σ H Q := h
theorem y_test {Q : Bool → Hp → Prop} (h : te σ H fun x H' => ∃ k, x = .bl k ∧ Q k H') : tTest te σ H Q := h
theorem y_B {Q : Bool → Hp → Prop} (h : te σ H fun x H' => ∃ k, x = .bl k ∧ Q k H') : tB te σ H Q := h
theorem y_ex {b : Bool} {P : Bool → Prop} (h : P b) : ∃ k, V.bl b = .bl k ∧ P k := ⟨b, rfl, h⟩
theorem y_not {Q : Bool → Hp → Prop} (h : tt σ H fun c H1 => Q (!c) H1) : tNot tt σ H Q := h
theorem y_and {Q : Bool → Hp → Prop} (h : tt σ H fun c H1 => if c = true then tu σ H1 Q else Q false H1) : tAnd tt tu σ H Q := h
theorem y_or {Q : Bool → Hp → Prop} (h : tt σ H fun c H1 => if c = true then Q true H1 else tu σ H1 Q) : tOr tt tu σ H Q := h
theorem y_notV (h : ta σ H fun x H1 => ∃ c, x = .bl c ∧ Q (.bl (!c)) H1) : tNotV ta σ H Q := h
theorem y_andV (h : ta σ H fun x H1 => ∃ c, x = .bl c ∧ if c = true then tb σ H1 Q else Q (.bl false) H1) : tAndV ta tb σ H Q := h
theorem y_orV (h : ta σ H fun x H1 => ∃ c, x = .bl c ∧ if c = true then Q (.bl true) H1 else tb σ H1 Q) : tOrV ta tb σ H Q := h
theorem y_ifE (h : tt σ H fun c H1 => if c = true then ta σ H1 Q else tb σ H1 Q) : tIf tt ta tb σ H Q := h
theorem y_seq (h : t { D with nx := u D } σ H) : tSeq t u D σ H := h
theorem y_asg {g : TG} (h : te σ H fun x H1 => g x σ H1 D.nx) : tAsg te g D σ H := h
theorem y_gn {R : L2.St → Hp → Prop} (h : R (σ.set i (some v)) H) : gName i v σ H R := h
theorem y_gsub {to ti : TE} {s : TSet} {R : L2.St → Hp → Prop} (h : to σ H fun o H1 => ti σ H1 fun i H2 => s o i v H2 fun H3 => R σ H3) : gSub to ti s v σ H R := h
theorem y_ret (h : te σ H D.rt) : tRet te D σ H := h
theorem y_drop (h : te σ H fun _ H1 => D.nx σ H1) : tDrop te D σ H := h
theorem y_next (h : D.nx σ H) : tNext D σ H := h
theorem y_ifS (h : tt σ H fun b H1 => if b = true then t D σ H1 else u D σ H1) : tIfS tt t u D σ H := h
theorem y_par {i j : Nat} (h : tA σ H fun vs H1 => ∃ v w, vs = [v, w] ∧ D.nx ((σ.set i (some v)).set j (some w)) H1) : tPar i j tA D σ H := h
theorem y_ex2 {P : V → V → Prop} (h : P x y) : ∃ v w, [x, y] = [v, w] ∧ P v w := ⟨x, y, rfl, h⟩
theorem y_call {sp : Sp} {dvs : List V} {E : XK} (h : tA σ H fun vs H1 => sp (vs ++ dvs) H1 Q E) : tCall sp dvs E tA σ H Q := h
theorem y_callS {sp : Sp} {E : L2.St → XK} (h : tA σ H fun vs H1 => sp vs H1 Q (E σ)) : tCallS sp E tA σ H Q := h
theorem y_I0 {g : Int → Int → V} {a b : Int} (h : Q (g a b) H) : rI0 g (.int a) (.int b) H Q := ⟨a, b, rfl, rfl, h⟩
theorem y_I {C : Int → Int → Prop} {g : Int → Int → V} {a b : Int} (hc : C a b) (h : Q (g a b) H) : rI C g (.int a) (.int b) H Q := ⟨a, b, rfl, rfl, hc, h⟩
theorem y_U {g : Int → V} {a : Int} (h : Q (g a) H) : rU g (.int a) H Q := ⟨a, rfl, h⟩
theorem y_eq (hs : scal x y = true) (h : Q (.bl (decide (x = y))) H) : rEq x y H Q := ⟨hs, h⟩
theorem y_ne (hs : scal x y = true) (h : Q (.bl (!decide (x = y))) H) : rNe x y H Q := ⟨hs, h⟩
theorem y_ixL {p : Addr} {xs : List V} {a : Int} (hp : H p = some (.lst xs)) (ha : atI xs a = some v) (h : Q v H) : rIxL K (.ref p) (.int a) H Q := ⟨p, xs, a, v, rfl, rfl, SqL.of hp, ha, h⟩
theorem y_ixT {p : Addr} {xs : List V} {a : Int} (hp : H p = some (.tup xs)) (ha : atI xs a = some v) (h : Q v H) : rIxT K (.ref p) (.int a) H Q := ⟨p, xs, a, v, rfl, rfl, SqT.of hp, ha, h⟩
theorem y_setL {p : Addr} {xs : List V} {a : Int} {j : Nat} {R : Hp → Prop} (hp : H p = some (.lst xs)) (ha : ixN xs.length a = some j) (h : R (upd H p (.lst (xs.set j v)))) : rSetL (.ref p) (.int a) v H R := ⟨p, xs, a, j, rfl, rfl, hp, ha, h⟩
theorem y_chain {r r' : R2} {tc : TE} (h : ta σ H fun x H1 => tb σ H1 fun y H2 => r x y H2 fun z H3 => ∃ k, z = .bl k ∧ (if k = true then tc σ H3 fun w' H4 => r' y w' H4 Q else Q (.bl false) H3)) : tChain r r' ta tb tc σ H Q := h
theorem y_gtup {n : Nat} {t : TGs} {a : Addr} {xs : List V} {R : L2.St → Hp → Prop} (ha : H a = some (.tup xs)) (hl : xs.length = n) (h : t xs σ H R) : gTup K n t (.ref a) σ H R := ⟨a, xs, rfl, SqT.of ha, hl, h⟩
theorem y_gcons {t : TG} {u : TGs} {r : List V} {R : L2.St → Hp → Prop} (h : t v σ H fun σ' H' => u r σ' H' R) : gCons t u (v :: r) σ H R := ⟨v, r, rfl, h⟩
theorem y_gnil {R : L2.St → Hp → Prop} (h : R σ H) : gNil [] σ H R := ⟨rfl, h⟩
theorem y_disp {xs : List V} {R : Addr → Prop} (hl : xs.length ≤ 1000) (h : ∀ p, H p = none → R p) : xs.length ≤ sizeLine ∧ ∀ p, H p = none → R p := ⟨Nat.le_trans hl (by decide), h⟩
theorem y_yes {Q : Bool → Hp → Prop} (h : Q true H) : tYes σ H Q := h
theorem y_lst (h : tA σ H fun xs H1 => xs.length ≤ sizeLine ∧ ∀ p, H1 p = none → Q (.ref p) (upd H1 p (.lst xs))) : tLst tA σ H Q := h
theorem y_tup (h : tA σ H fun xs H1 => xs.length ≤ sizeLine ∧ ∀ p, H1 p = none → Q (.ref p) (upd H1 p (.tup xs))) : tTup tA σ H Q := h
theorem y_iteT {A B : Prop} (h : A) : if true = true then A else B := iteT h
theorem y_iteF {A B : Prop} (h : B) : if false = true then A else B := iteF h
theorem y_ite {c A B : Prop} [Decidable c] (h1 : c → A) (h2 : ¬ c → B) : if decide c = true then A else B := by
  by_cases h : c
  · rw [decide_eq_true h]; exact iteT (h1 h)
  · rw [decide_eq_false h]; exact iteF (h2 h)
theorem y_iteN {c A B : Prop} [Decidable c] (h1 : ¬ c → A) (h2 : c → B) : if (!decide c) = true then A else B := by
  by_cases h : c
  · rw [decide_eq_true h]; exact iteF (h2 h)
  · rw [decide_eq_false h]; exact iteT (h1 h)
theorem y_iteY {c A B : Prop} [Decidable c] (hc : c) (h : A) : if decide c = true then A else B := by rw [decide_eq_true hc]; exact iteT h
theorem y_iteX {c A B : Prop} [Decidable c] (hc : ¬ c) (h : B) : if decide c = true then A else B := by rw [decide_eq_false hc]; exact iteF h
theorem y_iteNY {c A B : Prop} [Decidable c] (hc : c) (h : B) : if (!decide c) = true then A else B := by rw [decide_eq_true hc]; exact iteF h
theorem y_iteNX {c A B : Prop} [Decidable c] (hc : ¬ c) (h : A) : if (!decide c) = true then A else B := by rw [decide_eq_false hc]; exact iteT h
theorem y_iteNT {A B : Prop} (h : B) : if (!true) = true then A else B := iteF h
theorem y_iteNF {A B : Prop} (h : A) : if (!false) = true then A else B := iteT h
theorem nat4000 {m : Int} (h : m.natAbs ≤ 10 ^ 60) : m.natAbs < 2 ^ 4000 := Nat.lt_of_le_of_lt h (by decide)
theorem y_iteB {b : Bool} {A B : Prop} (h1 : b = true → A) (h2 : b = false → B) : if b = true then A else B := by
  cases b with
  | true => exact iteT (h1 rfl)
  | false => exact iteF (h2 rfl)
theorem upd_old {p q : Addr} {o w : HO} (hn : H p = none) (h : H q = some o) : upd H p w q = some o := by
  rw [upd_ne (ne_of_none h hn)]; exact h
theorem upd_oth {p q : Addr} {o w : HO} (hn : q ≠ p) (h : H q = some o) : upd H p w q = some o := by
  rw [upd_ne hn]; exact h
theorem free_upd {p q : Addr} {w : HO} (h : upd H p w q = none) : H q = none := by
  unfold upd at h
  split at h
  · cases h
  · exact h
end
end OZ
set_option maxRecDepth 100000
set_option maxHeartbeats 1000000
namespace OZ
open PySem PySem.Spec PyProof.Rows L2
structure FnG (P : Program) (w : World) (K : PySem.W.Frag) (mg : Str → Option Value) (base : Heap) (k : Nat) (f : Addr) (fd : FuncData) (ps : List Str) (sp : Sp) : Prop where
  len : ∀ vs H Q E, sp vs H Q E → vs.length = ps.length
  run : ∀ (A : Around) (outer : List Env) (s : Shared) (H : Hp) (args : Args) (us : List Value) (vs : List V) (Q : VK) (E : XK), Room k A → A.guards = some [] → Env0 P w K mg base A outer s H →
    BindsTo s fd args (ps.zip us) → Vals vs us → sp vs H Q E → codeAny (model P w) A (.call (.ref f) args) (CR (L2.CX P w) outer P w H s Q E) s
theorem FnG.of {P : Program} {w : World} {K : PySem.W.Frag} {mg : Str → Option Value} {base : Heap} {k : Nat} {f : Addr} {fd : FuncData} {ps : List Str} {sp : Sp} (F : FnOk P w K mg base (L2.CX P w) k f fd ps sp) : FnG P w K mg base k f fd ps sp :=
  ⟨F.len, fun A outer s H args us vs Q E hr _ => F.run A outer s H args us vs Q E hr⟩
theorem guards_deeper {A : Around} {env : Env} (h : A.guards = some []) : (A.deeper env).guards = some [] := by
  first | exact h | (simpa [Around.deeper] using h)
theorem fnG_of {P : Program} {w : World} {K : PySem.W.Frag} {mg : Str → Option Value} {base : Heap} {k : Nat} {f : Addr} {x qual : Str} {params : Arguments} {body : List Stmt} {scope : Scope} {fd : FuncData} {N ps : List Str} {sp : Sp}
    (F : FunD K x qual params body scope [] [] f fd) (S : FnScope N ps scope) (len : ∀ vs H Q E, sp vs H Q E → vs.length = ps.length)
    (walk : ∀ (cdv : Value) (A : Around) (outer : List Env) (s : Shared) (H : Hp) (vs : List V) (Q : VK) (E : XK), Room k (A.deeper (envOfC qual scope s.heap.objs.size f cdv)) → (A.deeper (envOfC qual scope s.heap.objs.size f cdv)).guards = some [] → sp vs H Q E →
      ∃ t, PSs (cxOf (L2.CX P w) P w K mg base N qual scope f cdv A outer s H E) body t ∧ t { nx := fun _ H' => Q .non H', rt := Q } (start N vs) H) : FnG P w K mg base (k + 1) f fd ps sp := by
  obtain ⟨oc, od, dV, kV, doc, pm, an, cdv, ct, osl, rfl, lk, hcd, _, _⟩ := F.ex
  refine ⟨len, ?_⟩
  intro A outer s H args us vs Q E room gd env bnd rel want
  have kin : K.In s.heap := env.mod.kin.keeps (fun b o q => (env.bs b o q).1)
  have nolim : s.heap.NoLimit := env.mod.nolimit.keeps (fun b o q => (env.bs b o q).1)
  have kinds : ∀ y ∈ ps.zip us, scope.names.lookup y.1 = some .local ∨ (scope.names.lookup y.1 = some .cell ∧ ((cellsFrom (s.heap.objs.size + 1) scope.names []).lookup y.1).isSome = true) := by
    rintro ⟨y, v⟩ hy
    cases S.par y (List.of_mem_zip hy).1 with
    | inl q => exact Or.inl q
    | inr q => exact Or.inr ⟨q, PySem.W.cellsFrom_some _ _ _ (Or.inl q)⟩
  apply codeAny_call_function room.depth (kin _ _ lk) rfl S.co S.gen rfl (PySem.W.codeRec_of kin hcd) (bnd _ _ _ _ _)
  apply wpAny_newFunctionEnv_cells S.kind kinds
  rintro e2 rfl s1 entered
  refine ⟨nolim.keeps entered.toInCall.keep, codeAny_func ?_⟩
  obtain ⟨t, ht, hq⟩ := walk cdv A outer s H vs Q E (room.deeper _) (guards_deeper gd) want
  have I := inv_start (CX := L2.CX P w) (E := E) S room.hd env (len _ _ _ _ want) rel entered
  apply wpAny_mono (ht.run [] s1 (start N vs) H _ I hq) ?_ (fun e s' z => z)
  intro fl s' z
  cases fl with
  | ret u => obtain ⟨v, σ', H', J, rv, q⟩ := z; exact ⟨v, H', J.os, J.bare, J.base, J.hok, rv, q⟩
  | next => obtain ⟨σ', H', J, q⟩ := z; exact ⟨V.non, H', J.os, J.bare, J.base, J.hok, rfl, q⟩
  | brk => obtain ⟨_, _, _, q⟩ := z; exact q.elim
  | cont => obtain ⟨_, _, _, q⟩ := z; exact q.elim
def FncG (P : Program) (w : World) (K : PySem.W.Frag) (mg : Str → Option Value) (base : Heap) (k : Nat) (x : Str) (ps : List Str) (sp : Sp) : Prop :=
  ∃ (f : Addr) (fd : FuncData), mg x = some (.ref f) ∧ PySem.W.keepIn K (.ref f) = true ∧ Binds K fd ps [] ∧ FnG P w K mg base k f fd ps sp
section
variable {X : Cx} {k : Nat} {x : Str} {ps : List Str} {sp : Sp} {e : Expr} {es : List Expr} {t : TA} {p pos : Pos}
theorem ocG (F : FncG X.prog X.w X.K X.mg X.base k x ps sp) (hr : Room k X.A) (gd : X.A.guards = some []) (ha : PA X (e :: es) t) (hg : Gl X x := by rfl) (hdb : (x == ("__debug__" : Str)) = false := by decide)
    (he : starEach (e :: es) X.env = (false, eval e X.env) :: starEach es X.env := by rfl) (hpl : (backTo pos (starEach es X.env)).any (·.1) = false := by rfl) :
    PE X (.Call (.Name x p) (e :: es) [] pos) (tCall sp [] E0 t) := by
  obtain ⟨f, fd, hm, hk, hb, G⟩ := F
  constructor
  intro pins s σ H Q I h
  apply wpAny_Call_Name_kw (ld_glob I hg hm ?_ hdb)
  apply PySem.W.callWith_K (h₀ := X.base) I.ok.mod.kin hk ?_ he hpl
  apply thn (ha.run pos pins s σ H _ I h)
  rintro us s1 ⟨vs, H1, I1, r, q⟩
  refine ⟨I1.kIn, ?_⟩
  have q2 : sp vs H1 Q E0 := by simpa using q
  have hl : us.length = ps.length := by rw [← r.length]; exact G.len _ _ _ _ q2
  have b := hb s1 us I1.kIn (by simpa using hl)
  rw [List.append_nil] at b
  apply wpAny_call
  apply codeAny_mono (G.run X.A X.stack s1 H1 ⟨us, []⟩ us vs Q E0 hr gd I1.env0 b r q2)
  intro res s' z
  cases res with
  | error e => exact passL pins σ H1 s1 e s' I1 z
  | ok fl =>
    cases fl with
    | ret u => exact I1.after z
    | next => exact z.elim
    | brk => exact z.elim
    | cont => exact z.elim
end
end OZ
set_option maxRecDepth 100000
set_option maxHeartbeats 1000000
namespace OZ
open PySem PySem.Spec PyProof.Rows L2
def kD : Key → PyData
  | .inl i => .int i
  | .inr x => .str x
mutual
inductive Dq (p : Addr) (H : Hp) : V → PyData → Prop
  | non : Dq p H .non .none
  | bl (b : Bool) : Dq p H (.bl b) (.bool b)
  | int (i : Int) : Dq p H (.int i) (.int i)
  | str (x : Str) : Dq p H (.str x) (.str x)
  | lst {a : Addr} {xs : List V} {ds : List PyData} : a ≠ p → H a = some (.lst xs) → DqAll p H xs ds → Dq p H (.ref a) (.list ds)
  | tup {a : Addr} {xs : List V} {ds : List PyData} : a ≠ p → H a = some (.tup xs) → DqAll p H xs ds → Dq p H (.ref a) (.tuple ds)
  | dic {a : Addr} {kvs : List (Key × V)} {ds : List (PyData × PyData)} : a ≠ p → H a = some (.dK kvs) → DqKv p H kvs ds → Dq p H (.ref a) (.dict ds)
inductive DqAll (p : Addr) (H : Hp) : List V → List PyData → Prop
  | nil : DqAll p H [] []
  | cons {v : V} {vs : List V} {d : PyData} {ds : List PyData} : Dq p H v d → DqAll p H vs ds → DqAll p H (v :: vs) (d :: ds)
inductive DqKv (p : Addr) (H : Hp) : List (Key × V) → List (PyData × PyData) → Prop
  | nil : DqKv p H [] []
  | cons {k : Key} {v : V} {r : List (Key × V)} {d : PyData} {ds : List (PyData × PyData)} : Dq p H v d → DqKv p H r ds → DqKv p H ((k, v) :: r) ((kD k, d) :: ds)
end
section
variable {p : Addr} {H H' : Hp}
mutual
theorem Dq.kp (k : Kp p H H') : ∀ {v : V} {d : PyData}, Dq p H v d → Dq p H' v d
  | _, _, .non => .non
  | _, _, .bl b => .bl b
  | _, _, .int i => .int i
  | _, _, .str x => .str x
  | _, _, .lst n h a => .lst n (k _ _ n h) (DqAll.kp k a)
  | _, _, .tup n h a => .tup n (k _ _ n h) (DqAll.kp k a)
  | _, _, .dic n h a => .dic n (k _ _ n h) (DqKv.kp k a)
theorem DqAll.kp (k : Kp p H H') : ∀ {v : List V} {d : List PyData}, DqAll p H v d → DqAll p H' v d
  | _, _, .nil => .nil
  | _, _, .cons h r => .cons (Dq.kp k h) (DqAll.kp k r)
theorem DqKv.kp (k : Kp p H H') : ∀ {v : List (Key × V)} {d : List (PyData × PyData)}, DqKv p H v d → DqKv p H' v d
  | _, _, .nil => .nil
  | _, _, .cons h r => .cons (Dq.kp k h) (DqKv.kp k r)
end
def tyN : PyData → String
  | .none => "NoneType" | .bool _ => "bool" | .int _ => "int" | .str _ => "str" | .list _ => "list" | .tuple _ => "tuple" | .dict _ => "dict"
theorem Dq.ty {K : PySem.W.Frag} {v : V} {d : PyData} (h : Dq p H v d) : TyX K H v (.type (tyN d)) := by
  cases h with
  | non => exact .base .non
  | bl b => exact .base (.bl b)
  | int i => exact .base (.int i)
  | str x => exact .base (.str x)
  | lst n h a => exact .base (.lst h)
  | tup n h a => exact .base (.tup h)
  | dic n h a => exact .base (.dK h)
end
section
variable {X : Cx} {pins : List (Addr × Obj)} {σ : L2.St} {H : Hp} {s : Shared} {p : Addr}
theorem sm_ne (sm : ∃ o, X.K.lookup sysModules = some o) (I : Inv X pins σ H s) {a : Addr} {o : HO} (h : H a = some o) : sysModules ≠ a := by
  obtain ⟨o', q⟩ := sm
  have z := (I.bs _ _ (I.ok.mod.kin _ _ q)).2
  intro e
  rw [e, h] at z
  cases z
theorem key_reads {h : Heap} {k : Key} {v : Value} (e : keyIs k v = true) : ∃ as, Reads h v (kD k) as ∧ sysModules ∉ as := by
  rcases keyIs_shape e with ⟨i, t, ek, ev⟩ | ⟨x, t, ek, ev⟩
  · rw [ek, ev]; exact ⟨[], .int i t, by simp⟩
  · rw [ek, ev]; exact ⟨[], .str x t, by simp⟩
mutual
theorem Dq.reads (sm : ∃ o, X.K.lookup sysModules = some o) (I : Inv X pins σ H s) : ∀ (d : PyData) (v : V) (u : Value), Dq p H v d → RelV v u → ∃ as, Reads s.heap u d as ∧ sysModules ∉ as
  | .none, _, _, h, r => by
    cases h; cases r
    exact ⟨[], .none, by simp⟩
  | .bool b, _, _, h, r => by
    cases h; cases r
    exact ⟨[], .bool b, by simp⟩
  | .int i, _, _, h, r => by
    cases h; obtain ⟨t, rfl⟩ := r
    exact ⟨[], .int i t, by simp⟩
  | .str x, _, _, h, r => by
    cases h; obtain ⟨t, rfl⟩ := r
    exact ⟨[], .str x t, by simp⟩
  | .list ds, _, _, h, r => by
    cases h with
    | lst n hs ha =>
      cases r
      obtain ⟨its, rv, ⟨o, n, ho, hc, _, hd⟩, _⟩ := I.list (SqL.of hs)
      obtain ⟨as, hr, hn⟩ := DqAll.reads sm I ds _ its ha rv
      exact ⟨_, Reads.list ho hc hd hr, by simp only [List.mem_cons, not_or]; exact ⟨sm_ne sm I hs, hn⟩⟩
  | .tuple ds, _, _, h, r => by
    cases h with
    | tup n hs ha =>
      cases r
      obtain ⟨its, rv, ⟨o, ho, hc, n, hd⟩, _⟩ := I.tuple (SqT.of hs)
      obtain ⟨as, hr, hn⟩ := DqAll.reads sm I ds _ its ha rv
      exact ⟨_, Reads.tuple ho hc hd hr, hn⟩
  | .dict ds, _, _, h, r => by
    cases h with
    | dic n hs ha =>
      cases r
      obtain ⟨_, _, vs, rel, o, es, ep, ho, hc, hd, _, hp, _⟩ := I.hok _ _ hs
      obtain ⟨as, bs, h1, h2, h3, h4⟩ := DqKv.reads sm I ds _ vs es.toList ha rel hp
      refine ⟨_, Reads.dict ho hc.1 hd h1 h2, ?_⟩
      simp only [List.cons_append, List.mem_cons, List.mem_append, not_or]
      exact ⟨sm_ne sm I hs, h3, h4⟩
theorem DqAll.reads (sm : ∃ o, X.K.lookup sysModules = some o) (I : Inv X pins σ H s) : ∀ (ds : List PyData) (vs : List V) (us : List Value), DqAll p H vs ds → Vals vs us → ∃ as, ReadsAll s.heap us ds as ∧ sysModules ∉ as
  | [], _, _, h, r => by
    cases h; cases r
    exact ⟨[], .nil, by simp⟩
  | d :: ds, _, _, h, r => by
    cases h with
    | cons h1 h2 =>
      cases r with
      | cons r1 r2 =>
        obtain ⟨as, q1, n1⟩ := Dq.reads sm I d _ _ h1 r1
        obtain ⟨bs, q2, n2⟩ := DqAll.reads sm I ds _ _ h2 r2
        exact ⟨as ++ bs, .cons q1 q2, by simp only [List.mem_append, not_or]; exact ⟨n1, n2⟩⟩
theorem DqKv.reads (sm : ∃ o, X.K.lookup sysModules = some o) (I : Inv X pins σ H s) : ∀ (ds : List (PyData × PyData)) (kvs : List (Key × V)) (vs : List (Key × Value)) (es : List DictEntry), DqKv p H kvs ds → KV kvs vs → Pairs (mixKind X.prog X.w) es vs →
    ∃ as bs, ReadsAll s.heap (es.map (·.key)) (ds.map (·.1)) as ∧ ReadsAll s.heap (es.map (·.val)) (ds.map (·.2)) bs ∧ sysModules ∉ as ∧ sysModules ∉ bs
  | [], _, _, _, h, r, hp => by
    cases h; cases r; cases hp
    exact ⟨[], [], .nil, .nil, by simp, by simp⟩
  | d :: ds, _, _, _, h, r, hp => by
    cases h with
    | cons h1 h2 =>
      cases r with
      | @cons _ kv' _ _ r1 r2 =>
        cases hp with
        | cons e1 e2 e3 =>
          obtain ⟨k', v'⟩ := kv'
          obtain ⟨rk, rv⟩ := r1
          dsimp only at rk rv e1 e2
          subst rk
          obtain ⟨bs, q2, n2⟩ := Dq.reads sm I _ _ _ h1 rv
          obtain ⟨as', bs', g1, g2, m1, m2⟩ := DqKv.reads sm I ds _ _ _ h2 r2 e3
          obtain ⟨as, q1, n1⟩ := key_reads (h := s.heap) (show keyIs _ _ = true from e1)
          refine ⟨as ++ as', bs ++ bs', .cons q1 g1, .cons (by subst e2; exact q2) g2, ?_, ?_⟩
          · simp only [List.mem_append, not_or]; exact ⟨n1, m1⟩
          · simp only [List.mem_append, not_or]; exact ⟨n2, m2⟩
end
end
structure Fit (d : PyData) (k m : Nat) : Prop where
  sh : d.showable = true
  lv : d.leavesShort 1000 = true
  dp : d.depth ≤ k
  wt : d.weight ≤ m
theorem Fit.len {d : PyData} {k m : Nat} (f : Fit d k m) (hm : m ≤ 10000) : d.shown.length ≤ sizeLine := by
  have h := PyData.shown_le 1000 (by decide) d f.lv
  have h2 : (1000 + 2) * d.weight ≤ 1002 * 10000 := Nat.mul_le_mul_left _ (Nat.le_trans f.wt hm)
  rw [sizeLine_eq]
  omega
def rRepr (p : Addr) : List V → Hp → VK → Prop := fun xs H Q => ∃ (x : V) (d : PyData), xs = [x] ∧ Dq p H x d ∧ Fit d 20 10000 ∧ Q (.str d.shown) H
theorem c_repr {X : Cx} {k : Nat} {p : Addr} (gd : X.A.guards = some []) (hr : Room k X.A) (sm : ∃ o, X.K.lookup sysModules = some o) : CallR X (.builtin "repr") (rRepr p) := by
  intro pins s σ H xs us Q I r h
  obtain ⟨x, d, rfl, hd, hf, q⟩ := h
  obtain ⟨u, rfl, ru⟩ := vals1 r
  have hsz := hf.len (Nat.le_refl _)
  obtain ⟨as, hrd, hns⟩ := Dq.reads sm I d x u hd ru
  have hu := hr.un
  cases hd with
  | non =>
    cases (show u = Value.none from ru)
    exact PySem.P.repr_of_none ⟨.str _, H, I.tok _, ⟨_, rfl⟩, q⟩
  | bl b =>
    cases (show u = Value.bool b from ru)
    refine PySem.P.repr_of_bool ⟨.str _, H, I.tok _, ⟨_, rfl⟩, ?_⟩
    cases b <;> exact q
  | int i =>
    obtain ⟨t, rfl⟩ := (show ∃ t, u = Value.int i t from ru)
    exact PySem.P.repr_of_int (of_decide_eq_true hf.sh) ⟨.str _, H, I.tok _, ⟨_, rfl⟩, q⟩
  | str z =>
    obtain ⟨t, rfl⟩ := (show ∃ t, u = Value.str z t from ru)
    exact PySem.P.repr_of_str (hsz := hsz) ⟨.str _, H, I.tok _, ⟨_, rfl⟩, q⟩
  | lst n h1 h2 =>
    cases (show u = Value.ref _ from ru)
    exact repr_of_reads' hrd hf.sh (fun _ => hns) gd (by have := hf.dp; omega) (fun _ _ e => e) (fun h' u tk hk => ⟨.str _, H, I.kept hk, ⟨_, rfl⟩, q⟩) hsz
  | tup n h1 h2 =>
    cases (show u = Value.ref _ from ru)
    exact repr_of_reads' hrd hf.sh (fun _ => hns) gd (by have := hf.dp; omega) (fun _ _ e => e) (fun h' u tk hk => ⟨.str _, H, I.kept hk, ⟨_, rfl⟩, q⟩) hsz
  | dic n h1 h2 =>
    cases (show u = Value.ref _ from ru)
    exact repr_of_reads' hrd hf.sh (fun _ => hns) gd (by have := hf.dp; omega) (fun _ _ e => e) (fun h' u tk hk => ⟨.str _, H, I.kept hk, ⟨_, rfl⟩, q⟩) hsz
end OZ
set_option maxRecDepth 100000
set_option maxHeartbeats 1000000
namespace OZ
open PySem PySem.Spec PyProof.Rows L2
def exk (a : Addr) (cls : Value) (d : Option Addr) : HO := .ext fun h => ∃ (oe : Obj) (vs : Array Value), h.get? a = some oe ∧ Zc cls d oe ∧ oe.data = .fields vs
theorem exk_ok {P : Program} {w : World} {H : Hp} {h : Heap} {a : Addr} {cls : Value} {d : Option Addr} {oe : Obj} {vs : Array Value} (e : h.get? a = some oe) (z : Zc cls d oe) (f : oe.data = .fields vs) : ObjOk P w H h a (exk a cls d) := by
  refine ⟨⟨oe, vs, e, z, f⟩, ⟨oe, e⟩, ?_⟩
  rintro h1 h2 ⟨o, v, q, r⟩ k
  exact ⟨o, v, k o q, r⟩
theorem exk_at {P : Program} {w : World} {H : Hp} {h : Heap} {a : Addr} {cls : Value} {d : Option Addr} (ok : HOk P w H h) (e : H a = some (exk a cls d)) : ∃ (oe : Obj) (vs : Array Value), h.get? a = some oe ∧ Zc cls d oe ∧ oe.data = .fields vs := by
  have x : ObjOk P w H h a (.ext fun h => ∃ (oe : Obj) (vs : Array Value), h.get? a = some oe ∧ Zc cls d oe ∧ oe.data = .fields vs) := ok a _ e
  exact x.1
section
variable {X : Cx} {pins : List (Addr × Obj)} {σ : L2.St} {H : Hp} {s : Shared}
theorem track {a : Addr} {oe : Obj} {vs : Array Value} {cls : Value} {d : Option Addr} (J : Inv X ((a, oe) :: pins) σ H s) (hz : Zc cls d oe) (hf : oe.data = .fields vs)
    (new : ∀ o, X.s_0.heap.get? a ≠ some o) (np : ∀ q ∈ X.pn ++ pins, q.1 ≠ a) : Inv X pins σ (upd H a (exk a cls d)) s := by
  obtain ⟨hget, hn, nL, nF, _⟩ := J.pin (a, oe) (List.mem_append_right _ List.mem_cons_self)
  dsimp only at hget hn nL nF
  have ne : ∀ {b : Addr} {o : HO}, H b = some o → b ≠ a := fun {b o} q => ne_of_none q hn
  have cellne : ∀ x c, X.env.cells.lookup x = some c → c ≠ a := by
    intro x c q z
    obtain ⟨v, o, ho, hd⟩ := J.cell x c q
    rw [z, hget] at ho
    cases ho
    rw [hf] at hd
    cases hd
  constructor
  · exact J.ok
  · exact J.os
  · exact J.bare
  · have B := J.base
    constructor
    · exact B.keep
    · exact B.slot
    · intro b o q n hx
      rw [upd_ne (fun z => new o (by rw [← z]; exact q))]
      exact B.free b o q n hx
    · exact B.there
    · intro b xs q
      have z := B.tups b xs q
      rw [upd_ne (ne z)]; exact z
    · intro b o u q
      have z := B.frzs b o u q
      rw [upd_ne (ne z)]; exact z
    · intro b ps q
      obtain ⟨more, z⟩ := B.tbls b ps q
      exact ⟨more, by rw [upd_ne (ne z)]; exact z⟩
  · exact J.loc
  · exact J.cell
  · rw [upd_ne (Ne.symm nL)]; exact J.free
  · intro x c q
    rw [upd_ne (cellne x c q)]; exact J.freeC x c q
  · intro q hq
    have hq2 : q ∈ X.pn ++ (a, oe) :: pins := by
      rcases List.mem_append.mp hq with z | z
      · exact List.mem_append_left _ z
      · exact List.mem_append_right _ (List.mem_cons_of_mem _ z)
    obtain ⟨h1, h2, h3⟩ := J.pin q hq2
    exact ⟨h1, by rw [upd_ne (np q hq)]; exact h2, h3⟩
  · intro b o q
    by_cases hb : b = a
    · subst hb
      rw [upd_same] at q
      cases q
      exact exk_ok hget hz hf
    · rw [upd_ne hb] at q
      refine (J.hok b o q).stay (fun _ _ _ z => z) ?_ ?_
      · intro c z; rw [upd_ne (ne z)]; exact z
      · intro c xs z; rw [upd_ne (ne z)]; exact z
  · exact J.len
end
def wKeep (K : PySem.W.Frag) (c : Value) (i : Nat) (ts : Addr → Value → Option Addr → TS) (Wout : WX) (D : Ends) : WX := fun cls d σ H =>
  ∃ b, PySem.W.exmOne K cls c = some b ∧
    (b = true → ∀ a, H a = none → ts a cls d ⟨fun σ' H' => D.nx (σ'.set i none) (upd H' a (exk a cls d)), fun v H' => D.rt v (upd H' a (exk a cls d)), fun σ' H' => D.bk (σ'.set i none) (upd H' a (exk a cls d)),
      fun σ' H' => D.ct (σ'.set i none) (upd H' a (exk a cls d))⟩ (σ.set i (some (.ref a))) H) ∧ (b = false → Wout cls d σ H)
section
variable {X : Cx} {x n : Str} {c : Value} {i : Nat} {body suite : List Stmt} {b₀ : Stmt} {np pos pos' : Pos} {tb : WX → TS} {ts : Addr → Value → Option Addr → TS} {Wout : WX}
theorem ps_try_keep (hs : X.stack = X.env :: X.outer) (hf : X.env.frame = some X.env.locals) (hex : X.ex = []) (hN : X.N.Nodup) (hi : X.N[i]? = some n) (hln : X.env.kindOf n = some .local) (hc : Names X x c) (tk : Takes X Wout)
    (hb : ∀ (W : WX) (pn : List (Addr × Obj)) (xe : Value → Shared → Prop), Takes (X.tr pn xe) W → PassesOwn (model X.prog X.w) X.A X.env xe → PSs (X.tr pn xe) body (tb W))
    (hsu : ∀ (a : Addr) (oe : Obj) (cls : Value) (d : Option Addr) (pn : List (Addr × Obj)), Zc cls d oe → (∃ vs, oe.data = .fields vs) → PSs (X.suite a ((a, oe) :: pn)) (b₀ :: suite) (ts a cls d)) :
    PS X (.Try body [.ExceptHandler (some (.Name x np)) (some n) (b₀ :: suite) pos'] [] [] pos) (fun D σ H => tb (wKeep X.K c i ts Wout D) D σ H) := by
  constructor
  intro pins s σ H D I h
  have ok := I.ok
  have fr : X.A.frames = some (X.env :: X.outer) := ok.frames.trans (by rw [hs])
  apply wpAny_Try_except
  have hbody := hb (wKeep X.K c i ts Wout D) (X.pn ++ pins) (fun e s₁ => wpAny (model X.prog X.w) X.A (noteFrame e X.env) (fun _ s₂ => wpAny (model X.prog X.w) X.A (setFlight e none)
    (fun _ s₃ => wpAny (model X.prog X.w) X.A (handleBy e X.env [.ExceptHandler (some (.Name x np)) (some n) (b₀ :: suite) pos']) (SP X pins D) X.xe s₃) X.xe s₂) X.xe s₁) ?kept PassesOwn.looking
  case kept =>
    rintro u s' ⟨a, B, sI, pins', σ', H', cls, d, rfl, J', nb, up, sky, na, os, ag, b, e1, yes, no⟩
    have J : Inv X pins σ' H' sI := J'.ofTry ok
    rw [hs] at sky
    show wpAny (model X.prog X.w) X.A (noteFrame (.ref a) X.env) _ _ _
    apply Sky.land Zc.steady fr hf sky
    intro h3 fl3 up3
    have J3 : Inv X pins σ' H' { s' with heap := h3 } := J.landed nb fl3.1 (up.trans up3) os ag
    obtain ⟨oe3, vs3, he3, hz3, hd3⟩ := fl3.there
    have nfr : a ∉ frs (X.env :: X.outer) := by
      intro hm
      obtain ⟨_, o', e', hnf⟩ := fl3.2.2.1.mem hm
      rw [he3] at e'
      cases e'
      exact hnf _ hd3
    have nL : a ≠ X.env.locals := fun z => nfr (List.mem_filterMap.mpr ⟨X.env, List.mem_cons_self, by rw [hf, z]⟩)
    have nF : a ∉ X.fs := by
      intro hm
      obtain ⟨e, he, q⟩ := List.mem_filterMap.mp hm
      exact nfr (List.mem_filterMap.mpr ⟨e, List.mem_cons_of_mem _ he, q⟩)
    have fresh : ∀ o, sI.heap.get? a ≠ some o := by
      intro o q
      have z := nb a o q (by rw [hs]; exact nfr)
      rw [fl3.2.1] at z
      cases z
    have new0 : ∀ o, X.s_0.heap.get? a ≠ some o := by
      intro o q
      obtain ⟨o', z⟩ := J.base.there a o q (by rw [hex]; simp)
      exact fresh o' z
    have nps : ∀ q ∈ X.pn ++ pins, q.1 ≠ a := by
      intro q hq z
      exact fresh q.2 (by rw [← z]; exact (J.pin q hq).1)
    have S3 := J3.suite he3 hd3 na nL nF
    apply wpAny_handleBy_cons (codeAny_handlers_test ?_) (by intro q; cases q)
    have LT : PySem.W.Looks (model X.prog X.w) h3 (typeOf (.ref a)) cls := fun A Q E s k q => wpAny_typeOf_ref (k _ _ he3) (by rw [hz3.1]; exact q)
    have LM := PySem.W.exm_one (M := model X.prog X.w) J3.kIn LT e1
    have name : ∀ {Q : Value → Shared → Prop} {E : Value → Shared → Prop}, Q c { s' with heap := h3 } → wpAny (model X.prog X.w) (X.A.mark (some (.ref a))) (eval (.Name x np) X.env) Q E { s' with heap := h3 } := by
      intro Q E q
      obtain ⟨hg, hdbg, hm | ⟨hm, hv, hnn⟩⟩ := hc
      · exact ld_glob (X := X.suite a ((a, oe3) :: (X.pn ++ pins))) S3 hg hm q hdbg
      · exact ld_blt (X := X.suite a ((a, oe3) :: (X.pn ++ pins))) S3 hg hm hv q hnn hdbg
    apply name
    apply LM.here
    cases b with
    | true =>
      apply codeAny_handlers_suite_as
      apply HandSPX.lands_againZ fl3
      intro h4 fl4 up4
      have J4 : Inv X pins σ' H' { s' with heap := h4 } := J.landed nb fl4.1 ((up.trans up3).trans up4) os ag
      obtain ⟨oe4, vs4, he4, hz4, hd4⟩ := fl4.there
      have S4 := J4.suite he4 hd4 na nL nF
      apply store_ok (X := X.suite a ((a, oe4) :: (X.pn ++ pins))) (v := .ref a) S4 hN hi (.inl hln) rfl ?_ (.inr hln)
      intro s5 S5
      apply wpAny_mono ((hsu a oe4 cls d (X.pn ++ pins) hz4 ⟨_, hd4⟩).run [] s5 _ H' _ S5 (yes rfl a na)) ?_ (fun _ _ z => z.elim)
      have leave : ∀ {s6 : Shared} {σ6 : L2.St} {H6 : Hp} {Q : Shared → Prop}, Inv (X.suite a ((a, oe4) :: (X.pn ++ pins))) [] σ6 H6 s6 → (∀ s7, Inv X pins (σ6.set i none) (upd H6 a (exk a cls d)) s7 → Q s7) →
          wpAny (model X.prog X.w) X.A (do bindName X.env n .none; unbindBehindTheSuite X.env n pos') (fun _ s7 => Q s7) X.xe s6 := by
        intro s6 σ6 H6 Q S6 hq
        have J6 : Inv X ((a, oe4) :: pins) σ6 H6 s6 := by
          refine ⟨ok, S6.os, S6.bare, S6.base, S6.loc, S6.cell, S6.free, S6.freeC, ?_, S6.hok, S6.len⟩
          intro q hq
          apply S6.pin q
          apply List.mem_append_left
          rcases List.mem_append.mp hq with z | z
          · exact List.mem_cons_of_mem _ (List.mem_append_left _ z)
          · rcases List.mem_cons.mp z with z | z
            · rw [z]; exact List.mem_cons_self
            · exact List.mem_cons_of_mem _ (List.mem_append_right _ z)
        exact gone_ok J6 hN hi hln fun s7 J7 => hq s7 (track J7 hz4 hd4 new0 nps)
      intro f s6 hsp
      cases f with
      | next => obtain ⟨σ6, H6, S6, q6⟩ := hsp; exact leave S6 fun s7 J7 => ⟨_, _, J7, q6⟩
      | brk => obtain ⟨σ6, H6, S6, q6⟩ := hsp; exact leave S6 fun s7 J7 => ⟨_, _, J7, q6⟩
      | cont => obtain ⟨σ6, H6, S6, q6⟩ := hsp; exact leave S6 fun s7 J7 => ⟨_, _, J7, q6⟩
      | ret u => obtain ⟨v6, σ6, H6, S6, r6, q6⟩ := hsp; exact leave S6 fun s7 J7 => ⟨_, _, _, J7, r6, q6⟩
    | false =>
      show wpAny _ X.A (handleBy (.ref a) X.env []) _ _ _
      apply wpAny_handleBy_nil
      obtain ⟨k1, k2, k3, oe, vs, T, oT, ts', he, hz, hd, h1, hr⟩ := id fl3
      unfold PySem.passOn
      apply wpAny_bind
      apply wpAny_field he hd h1
      rw [if_neg (show ¬ ((Value.ref T == Value.none) = true) from by simp)]
      have on : wpAny (model X.prog X.w) X.A (setFlight (.ref a) X.env.frame) (fun _ s4 => wpAny (model X.prog X.w) X.A (throw (.ref a) : Sem Flow) (SP X pins D) X.xe s4) X.xe { s' with heap := h3 } := by
        rw [hf]
        apply HandSPX.setFlight_upZ fl3
        intro h4 hh4 up4
        apply wpAny_throw
        apply tk
        exact ⟨a, B, sI, pins, σ', H', cls, d, rfl, J, nb, (up.trans up3).trans up4, .inr (.inr (by rw [hs]; exact hh4)), na, os, ag, no rfl⟩
      first
        | exact wpAny_bind (wpAny_pure (wpAny_bind on))
        | exact wpAny_bind on
  apply wpAny_mono (hbody.run [] s σ H D (I.toTry _) h) ?_ (fun e s1 z => z)
  intro f s1 z
  cases f with
  | next => obtain ⟨σ', H', J', q⟩ := z; exact wpAny_execs_nil ⟨σ', H', J'.ofTry ok, q⟩
  | brk => obtain ⟨σ', H', J', q⟩ := z; exact ⟨σ', H', J'.ofTry ok, q⟩
  | cont => obtain ⟨σ', H', J', q⟩ := z; exact ⟨σ', H', J'.ofTry ok, q⟩
  | ret u => obtain ⟨v, σ', H', J', r, q⟩ := z; exact ⟨v, σ', H', J'.ofTry ok, r, q⟩
end
end OZ
set_option maxRecDepth 100000
set_option maxHeartbeats 1000000
namespace OZ
open PySem PySem.Spec PyProof.Rows L2
def oexB (K : PySem.W.Frag) (C : Addr) : Bool :=
  match K.lookup C with
  | some ⟨.type "type", _, .cls cd, sl⟩ =>
    (match cd.mro, sl.toList with
    | .ref C' :: bm, [_, _, _, _, some (.builtin n), _] => C' == C && (n == "ValueError.__new__" && (!cd.hasDel && (cd.hasDict && PySem.HandSPX.refsVE bm)))
    | _, _ => false)
  | _ => false
theorem oexB_ok {K : PySem.W.Frag} {C : Addr} (q : oexB K C = true) : ∃ nm qn N bs bm sn sub ab col dd k0 k1 k2 k3 k5, K.lookup C = some (excClassObj nm qn C N bs bm true sn sub ab col dd k0 k1 k2 k3 k5 "ValueError.__new__") ∧ PySem.HandSPX.refsVE bm = true := by
  unfold oexB at q
  split at q
  next dd cd sl ho =>
    split at q
    next C' bm k0 k1 k2 k3 n k5 hm hs =>
      simp only [Bool.and_eq_true, beq_iff_eq, Bool.not_eq_true'] at q
      obtain ⟨rfl, rfl, h1, h2, h3⟩ := q
      obtain ⟨nm, bs, mro, ns, qn, hd, sn, sub, ab, col, del⟩ := cd
      dsimp only at hm h1 h2
      subst hm; subst h1; subst h2
      obtain ⟨l⟩ := sl
      dsimp only at hs
      subst hs
      exact ⟨nm, qn, ns, bs, bm, sn, sub, ab, col, dd, k0, k1, k2, k3, k5, ho, h3⟩
    next => cases q
  next => cases q
structure XC (K : PySem.W.Frag) (C : Addr) : Prop where
  oex : OexC K C
  ga : PySem.W.findIn K (.ref C) "__getattribute__" = some (some (.builtin "BaseException.__getattribute__"))
  gg : PySem.W.findIn K (.ref C) "__getattr__" = some none
  hd : PySem.W.hasDictIn K C = true
  ha : PySem.W.findIn K (.ref C) "__class__" = some (some (.builtin "object.__class__"))
  hn : PySem.W.specialIn K (.builtin "object.__class__") "__get__" = some (some (.builtin "getset_descriptor.__get__"))
  ht : PySem.W.takesIn K (.builtin "object.__class__") = some true
  hm : PySem.W.mroIn K C (.type "object") = some true
def xcB (K : PySem.W.Frag) (C : Addr) : Bool :=
  oexB K C && (decide (PySem.W.findIn K (.ref C) "__setattr__" = some (some (.builtin "object.__setattr__"))) && (decide (PySem.W.subIn K (.ref C) (.type "BaseException") = some true) && (decide (PySem.W.typeIn K (.ref C) = some (.type "type")) && (PySem.W.keepIn K (.ref C) &&
  (decide (PySem.W.findIn K (.ref C) "__getattribute__" = some (some (.builtin "BaseException.__getattribute__"))) && (decide (PySem.W.findIn K (.ref C) "__getattr__" = some none) && (PySem.W.hasDictIn K C && (decide (PySem.W.findIn K (.ref C) "__class__" = some (some (.builtin "object.__class__"))) &&
  (decide (PySem.W.specialIn K (.builtin "object.__class__") "__get__" = some (some (.builtin "getset_descriptor.__get__"))) && (decide (PySem.W.takesIn K (.builtin "object.__class__") = some true) && decide (PySem.W.mroIn K C (.type "object") = some true)))))))))))
theorem xcB_ok {K : PySem.W.Frag} {C : Addr} (h : xcB K C = true) : XC K C := by
  unfold xcB at h
  simp only [Bool.and_eq_true, decide_eq_true_eq] at h
  obtain ⟨h1, h2, h3, h4, h5, h6, h7, h8, h9, h10, h11, h12⟩ := h
  exact ⟨⟨oexB_ok h1, h2, h3, h4, h5⟩, h6, h7, h8, h9, h10, h11, h12⟩
theorem XC.cl {K : PySem.W.Frag} {C : Addr} (x : XC K C) : (PySem.W.clsIn K C).isSome = true := by
  obtain ⟨cd, h, _⟩ := PySem.W.any_some x.hd
  rw [h]; rfl
def ExAt (H : Hp) (a C : Addr) (fs : List (Str × V)) : Prop := (∃ d, H a = some (exk a (.ref C) (some d)) ∧ H d = some (.xd fs)) ∨ (fs = [] ∧ H a = some (exk a (.ref C) none)) ∨
  (∃ d, H a = some (exo a C (some d)) ∧ H d = some (exd d fs))
section
variable {X : Cx} {pins : List (Addr × Obj)} {σ : L2.St} {H : Hp} {s : Shared}
theorem ExAt.inst {a C : Addr} {fs : List (Str × V)} (I : Inv X pins σ H s) (h : ExAt H a C fs) : ∃ (oe : Obj) (od : Option Obj), PySem.W.InstAt s.heap a oe C od ∧
    (fs = [] ∨ ∃ (o : Obj) (mA : Str → Option Value), od = some o ∧ (∀ f, PySem.W.lookIn f o = some (mA f)) ∧ ∀ f, RelO (fs.lookup f) (mA f)) := by
  rcases h with ⟨d, h1, h2⟩ | ⟨h0, h1⟩ | ⟨d, h1, h2⟩
  · obtain ⟨oe, vs, e, z, f⟩ := exk_at I.hok h1
    have hx : ObjOk X.prog X.w H s.heap d (.xd fs) := I.hok d _ h2
    obtain ⟨mA, hns, hr⟩ := hx
    obtain ⟨od, ho, hl⟩ := lookIn_ns hns
    exact ⟨oe, some od, ⟨e, z.1, by unfold PySem.W.notCls; rw [f] <;> rfl, by rw [z.2]; exact ho⟩, .inr ⟨od, mA, rfl, hl, hr⟩⟩
  · obtain ⟨oe, vs, e, z, f⟩ := exk_at I.hok h1
    exact ⟨oe, none, ⟨e, z.1, by unfold PySem.W.notCls; rw [f] <;> rfl, by rw [z.2]; trivial⟩, .inl h0⟩
  · obtain ⟨t1, e⟩ := exo_at I.hok h1
    obtain ⟨mA, hns, hr⟩ := exd_at I.hok h2
    obtain ⟨od, ho, hl⟩ := lookIn_ns hns
    exact ⟨_, some od, ⟨e, rfl, rfl, ho⟩, .inr ⟨od, mA, rfl, hl, hr⟩⟩
def rIsA (K : PySem.W.Frag) : List V → Hp → VK → Prop := fun xs H Q => rIsi K xs H Q ∨
  ∃ (a C : Addr) (fs : List (Str × V)) (c : V) (u : Value) (b : Bool), xs = [.ref a, c] ∧ ExAt H a C fs ∧ XC K C ∧ ClsV c u ∧ PySem.W.kitOne K (.ref C) u = some b ∧ Q (.bl b) H
theorem c_isA : CallR X (.builtin "isinstance") (rIsA X.K) := by
  intro pins s σ H xs us Q I r h
  rcases h with h | ⟨a, C, fs, c, u, b, rfl, hx, xc, cv, e, q⟩
  · exact call_isi pins s σ H xs us Q I r h
  · obtain ⟨u1, u2, rfl, r1, r2⟩ := vals2 r
    have e2 := cv.eq r2
    subst e2
    cases (show u1 = Value.ref a from r1)
    obtain ⟨oe, od, J, _⟩ := hx.inst I
    exact PySem.W.kia_one (PySem.W.kitx_exc (gt := none) xc.cl xc.ga xc.gg xc.oex.exC xc.ha xc.hn xc.ht xc.hm) I.kIn J e (fun z => nomatch z) fun tk => ⟨.bl b, H, I.tok tk, rfl, q⟩
def rAtt (K : PySem.W.Frag) (f : Str) : V → Hp → VK → Prop := fun x H1 Q => (∃ a C dx fs v, x = .ref a ∧ H1 a = some (.ins C dx fs) ∧ Cls K C ∧ NoAttr K C f ∧ fs.lookup f = some v ∧ Q v H1) ∨
  ∃ a C fs v, x = .ref a ∧ ExAt H1 a C fs ∧ XC K C ∧ NoAttr K C f ∧ fs.lookup f = some v ∧ Q v H1
def tAtt (K : PySem.W.Frag) (ta : TE) (f : Str) : TE := fun σ H Q => ta σ H fun x H1 => rAtt K f x H1 Q
theorem y_att {K : PySem.W.Frag} {ta : TE} {f : Str} {Q : VK} (h : ta σ H fun x H1 => rAtt K f x H1 Q) : tAtt K ta f σ H Q := h
theorem y_attI {K : PySem.W.Frag} {f : Str} {Q : VK} {a C dx : Addr} {fs : List (Str × V)} {v : V} (h1 : H a = some (.ins C dx fs)) (h2 : Cls K C) (h3 : NoAttr K C f) (h4 : fs.lookup f = some v) (h : Q v H) : rAtt K f (.ref a) H Q :=
  .inl ⟨a, C, dx, fs, v, rfl, h1, h2, h3, h4, h⟩
theorem y_attX {K : PySem.W.Frag} {f : Str} {Q : VK} {a C : Addr} {fs : List (Str × V)} {v : V} (h1 : ExAt H a C fs) (h2 : XC K C) (h3 : NoAttr K C f) (h4 : fs.lookup f = some v) (h : Q v H) : rAtt K f (.ref a) H Q :=
  .inr ⟨a, C, fs, v, rfl, h1, h2, h3, h4, h⟩
theorem pe_att {e : Expr} {ta : TE} {f : Str} {pos : Pos} (he : PE X e ta) (hb : attributeBase e f X.env (eval e X.env) = eval e X.env := by rfl) : PE X (.Attribute e f pos) (tAtt X.K ta f) := by
  constructor
  intro pins s σ H Q I h
  apply attr_of hb
  apply thn (he.run pins s σ H _ I h)
  rintro u s1 ⟨x, H1, I1, rx, q⟩
  rcases q with q | ⟨a, C, fs, v, rfl, hx, xc, na, l, q⟩
  · obtain ⟨a, C, dx, fs, v, rfl, h1, h2, h3, h4, h5⟩ := q
    cases (show u = Value.ref a from rx)
    exact getattr_ok I1 h1 h2 h3 h4 (fun u2 s2 I2 ru => ⟨v, H1, I2, ru, h5⟩)
  · cases (show u = Value.ref a from rx)
    obtain ⟨oe, od, J, hf⟩ := hx.inst I1
    rcases hf with rfl | ⟨o, mA, rfl, hl, hr⟩
    · cases l
    · obtain ⟨w, hw, rw'⟩ := RelO.some_of (v := v) (o := mA f) (by rw [← l]; exact hr f)
      exact HandSPX.exc_get I1.kIn J xc.ga xc.gg xc.oex.exC (PySem.W.findObj_own xc.hd na rfl (by rw [hl, hw])) (handed_of rw') ⟨v, H1, I1.tok _, rw', q⟩
end
end OZ
set_option maxRecDepth 100000
set_option maxHeartbeats 2000000
namespace OZ
open PySem PySem.Spec PyProof.Rows L2 LamX
structure Entry (P : Program) (w : World) (K : PySem.W.Frag) (cs : List (Addr × Addr)) (a : Addr) (ns : List Int) (h : Heap) (H : Hp) : Prop where
  tab : ∀ q ∈ cs, H q.2 = some (.tbl #[])
  only : ∀ b, H b = none ∨ b ∈ cs.map (·.2) ∨ ∃ o xs, H b = some (.frz o (.lst xs))
  sq : SqL K H a (ns.map V.int)
  ok : HOk P w H h
  at_ : ∀ b, H b ≠ none → b = a ∨ b ∈ cs.map (·.2)
  notK : H a ≠ none → K.lookup a = none
section
variable {P : Program} {w : World} {K : PySem.W.Frag} {mg mb : Str → Option Value} {k : Nat} {fa a : Addr} {cs : List (Addr × Addr)} {fd : FuncData} {x : Str} {sp : Sp} {s₁ : Shared} {vs : List Value} {ns : List Int}
theorem entry_of (KX : K.In s₁.heap) (hT : ∀ q ∈ cs, s₁.heap.get? q.2 = some { cls := .none, data := .fields #[] }) (ha : s₁.heap.get? a = some { cls := .type "list", data := .seq vs.toArray }) (hi : IntsAre vs ns) (hl : ns.length ≤ sizeLine) :
    ∃ H, Entry P w K cs a ns s₁.heap H := by
  have rel := vals_ints hi
  have len := hi.length
  have tabs : ∀ b : Addr, b ∈ cs.map (·.2) → s₁.heap.get? b = some { cls := .none, data := .fields #[] } := by
    intro b hb
    obtain ⟨q, hq, rfl⟩ := List.mem_map.mp hb
    exact hT q hq
  have mem : ∀ q ∈ cs, q.2 ∈ cs.map (·.2) := fun q hq => List.mem_map.mpr ⟨q, hq, rfl⟩
  have notTab : a ∉ cs.map (·.2) := by
    intro z
    have q := tabs a z
    rw [ha] at q
    have q2 := congrArg Obj.data (Option.some.inj q)
    cases q2
  by_cases hk : K.lookup a = none
  · refine ⟨fun b => if b = a then some (.frz { cls := .type "list", data := .seq vs.toArray } (.lst (ns.map V.int))) else if b ∈ cs.map (·.2) then some (.tbl #[]) else none, ?_⟩
    constructor
    · intro q hq
      have n : ¬ q.2 = a := fun z => notTab (z ▸ mem q hq)
      show (if q.2 = a then _ else _) = _
      rw [if_neg n, if_pos (mem q hq)]
    · intro b
      show (if b = a then _ else _) = _ ∨ _ ∨ _
      by_cases hb : b = a
      · exact Or.inr (Or.inr ⟨_, _, if_pos hb⟩)
      · by_cases hb2 : b ∈ cs.map (·.2)
        · exact Or.inr (Or.inl hb2)
        · exact Or.inl (by rw [if_neg hb, if_neg hb2])
    · exact Or.inl (Or.inr ⟨{ cls := .type "list", data := .seq vs.toArray }, if_pos rfl⟩)
    · intro b u z
      have z2 : (if b = a then some (HO.frz { cls := .type "list", data := .seq vs.toArray } (.lst (ns.map V.int))) else if b ∈ cs.map (·.2) then some (.tbl #[]) else none) = some u := z
      by_cases hb : b = a
      · rw [if_pos hb] at z2
        cases z2
        subst hb
        exact ⟨ha, by rw [List.length_map]; exact hl, vs, _, rel, ha⟩
      · rw [if_neg hb] at z2
        by_cases hb2 : b ∈ cs.map (·.2)
        · rw [if_pos hb2] at z2
          cases z2
          exact tabs b hb2
        · rw [if_neg hb2] at z2
          cases z2
    · intro b z
      by_cases hb : b = a
      · exact Or.inl hb
      · by_cases hb2 : b ∈ cs.map (·.2)
        · exact Or.inr hb2
        · exact absurd (show (if b = a then _ else _) = none by rw [if_neg hb, if_neg hb2]) z
    · exact fun _ => hk
  · obtain ⟨o, hk⟩ := Option.ne_none_iff_exists'.mp hk
    have e := KX a o hk
    rw [ha] at e
    cases e
    refine ⟨fun b => if b ∈ cs.map (·.2) then some (.tbl #[]) else none, ?_⟩
    constructor
    · exact fun q hq => if_pos (mem q hq)
    · intro b
      by_cases hb : b ∈ cs.map (·.2)
      · exact Or.inr (Or.inl hb)
      · exact Or.inl (if_neg hb)
    · exact Or.inr ⟨_, vs.toArray, _, hk, rfl, rfl, rfl, by rw [List.size_toArray, len]; exact hl, by simpa using rel⟩
    · intro b u z
      by_cases hb : b ∈ cs.map (·.2)
      · have z2 := (if_pos hb).symm.trans z
        cases z2
        exact tabs b hb
      · have z2 := (if_neg hb).symm.trans z
        cases z2
    · intro b z
      by_cases hb : b ∈ cs.map (·.2)
      · exact Or.inr hb
      · exact absurd (if_neg hb) z
    · intro z
      exact absurd (show (if a ∈ cs.map (·.2) then some (HO.tbl #[]) else none) = none from if_neg notTab) z
theorem lawG_call (KX : K.In s₁.heap) (hns : s₁.heap.Ns mainGlobals mg) (hb : s₁.heap.Ns builtinsNs mb) (hbb : ∀ x : Str, x ≠ "__name__" → mb x = bootBuiltins x) (hlim : s₁.heap.NoLimit) (hg : s₁.gens = #[])
    (hT : ∀ q ∈ cs, s₁.heap.get? q.2 = some { cls := .none, data := .fields #[] }) (nT : ∀ q ∈ cs, K.lookup q.2 = none) (C : ∀ q ∈ cs, PySem.W.CodeHd s₁.heap q.1 q.2)
    (hbm : ∃ (bm : Addr) (ob : Obj), mg "__builtins__" = some (.ref bm) ∧ bm ≠ builtinsNs ∧ s₁.heap.get? bm = some ob ∧ ob.cls = .type "module" ∧ ob.dict = some builtinsNs ∧ ob.data = .plain)
    (ha : s₁.heap.get? a = some { cls := .type "list", data := .seq vs.toArray }) (hi : IntsAre vs ns) (hl : ns.length ≤ sizeLine) (hr : Room k callerA)
    (F : ∀ base : Heap, K.In base → base.Ns mainGlobals mg → (∀ q ∈ cs, TabB base mg q.1 q.2) → FnG P w K mg base k fa fd [x] sp) (hbind : ∀ (s : Shared) (u : Value), BindsTo s fd ⟨[u], []⟩ [(x, u)])
    (hsp : ∀ H : Hp, (∀ q ∈ cs, H q.2 = some (.tbl #[])) → SqL K H a (ns.map V.int) → sp [.ref a] H (fun v _ => v = .bl true) fun _ _ _ => False) :
    codeAny (model P w) callerA (.call (.ref fa) ⟨[.ref a], []⟩) (fun r s' => r = .ok (.ret (.bool true)) ∧ OldK s₁.heap s'.heap ∧ s'.os = s₁.os ∧ AllBare s'.gens) s₁ := by
  obtain ⟨H, EN⟩ := entry_of (P := P) (w := w) (cs := cs) KX hT ha hi hl
  have tabs : ∀ b : Addr, b ∈ cs.map (·.2) → s₁.heap.get? b = some { cls := .none, data := .fields #[] } := by
    intro b hb
    obtain ⟨q, hq, rfl⟩ := List.mem_map.mp hb
    exact hT q hq
  have plain : ∀ {b : Addr} {o : Obj}, s₁.heap.get? b = some o → (∀ vs n, o.data ≠ .seq vs n) → o.data ≠ .fields #[] → (hidT s₁.heap H).get? b = some o := by
    intro b o e h1 h2
    apply hidT_get e
    cases q : H b with
    | none => rfl
    | some u =>
      exfalso
      rcases EN.at_ b (by rw [q]; simp) with e' | e'
      · rw [e', ha] at e
        cases e
        exact h1 _ _ rfl
      · rw [tabs b e'] at e
        cases e
        exact h2 rfl
  have nsT : ∀ {b : Addr} {m : Str → Option Value}, s₁.heap.Ns b m → (hidT s₁.heap H).Ns b m := by
    rintro b m ⟨o, es, ep, e, d, r⟩
    refine ⟨o, es, ep, plain e ?_ ?_, d, r⟩
    · intro vs n z; rw [d] at z; cases z
    · intro z; rw [d] at z; cases z
  have kinB : K.In (hidT s₁.heap H) := by
    intro b o e
    apply hidT_get (KX b o e)
    cases q : H b with
    | none => rfl
    | some u =>
      exfalso
      rcases EN.at_ b (by rw [q]; simp) with e' | e'
      · rw [e'] at e q
        rw [EN.notK (by rw [q]; simp)] at e
        cases e
      · obtain ⟨r, hr, er⟩ := List.mem_map.mp e'
        rw [← er, nT r hr] at e
        cases e
  have md : L2.Mod K mg (hidT s₁.heap H) := by
    obtain ⟨mc, h1, h2⟩ := hlim
    exact ⟨kinB, nsT hns, ⟨mb, nsT hb, hbb⟩, ⟨mc, nsT h1, h2⟩⟩
  have tb : ∀ q ∈ cs, TabB (hidT s₁.heap H) mg q.1 q.2 := by
    intro q hq
    have hTq := hT q hq
    constructor
    · obtain ⟨o, us, file, tf, flags, tg, inF, text, tt, e1, r1, r2, r3, r4⟩ := C q hq
      refine ⟨o, us, file, tf, flags, tg, inF, text, tt, plain e1 ?_ ?_, r1, r2, r3, r4⟩
      · intro vs n z; rw [r2] at z; cases z
      · intro z; rw [r2] at z; cases z; simp at r3
    · obtain ⟨bm, ob, b1, b2, b3, b4, b5, b6⟩ := hbm
      refine ⟨bm, ob, b1, b2, ?_, ?_, plain b3 ?_ ?_, b4, b5, b6⟩
      · intro z
        obtain ⟨o, es, ep, e, hd, _⟩ := hns
        rw [z, e] at b3; cases b3
        rw [hd] at b6; cases b6
      · intro z
        rw [z, hTq] at b3; cases b3; cases b6
      · intro vs n z; rw [b6] at z; cases z
      · intro z; rw [b6] at z; cases z
    · intro z
      obtain ⟨o, es, ep, e, hd, _⟩ := hns
      rw [z, hTq] at e; cases e; cases hd
  have env : Env0 P w K mg (hidT s₁.heap H) callerA [] s₁ H := by
    refine ⟨rfl, md, fun b o e => of_hidT e, Nat.le_of_eq (hidT_size _ _), trivial, ?_, EN.ok, .of_eq hg⟩
    intro b z
    exact absurd (show b ∈ ([] : List Addr) from z) (by simp)
  have go := (F _ kinB (nsT hns) tb).run callerA [] s₁ H ⟨[.ref a], []⟩ [.ref a] [.ref a] (fun v _ => v = .bl true) (fun _ _ _ => False) hr rfl env (hbind s₁ (.ref a)) (.cons rfl .nil) (hsp H EN.tab EN.sq)
  apply codeAny_mono go
  intro r s' z
  cases r with
  | error e =>
    obtain ⟨_, _, _, _, _, _, _, _, _, _, _, _, q⟩ := z
    exact q.elim
  | ok fl =>
    cases fl with
    | next => exact z.elim
    | brk => exact z.elim
    | cont => exact z.elim
    | ret u =>
      obtain ⟨v, H', os, bare, un, ok', rv, q⟩ := z
      have q2 : v = .bl true := q
      subst q2
      cases (show u = Value.bool true from rv)
      have kept : ∀ b o, b ∉ cs.map (·.2) → s₁.heap.get? b = some o → s'.heap.get? b = some o := by
        intro b o nb e
        rcases EN.only b with y | y | ⟨ob, xs, y⟩
        · apply un.keep b o e y
          · intro y2; exact absurd (show b ∈ ([] : List Addr) from y2) (by simp)
          · simp
        · exact absurd y nb
        · obtain ⟨e1, _⟩ := EN.ok b _ y
          obtain ⟨e2, _⟩ := ok' b _ (un.frzs b ob _ y)
          rw [e] at e1; cases e1
          exact e2
      have grown : ∀ q ∈ cs, ∃ more : Array Value, s'.heap.get? q.2 = some { cls := .none, data := .fields more } := by
        intro q hq
        obtain ⟨more, y⟩ := un.tbls q.2 #[] (EN.tab q hq)
        exact ⟨_, ok' q.2 _ y⟩
      refine ⟨rfl, ⟨?_, ?_⟩, os, bare⟩
      · intro b o e
        by_cases hb : b ∈ cs.map (·.2)
        · obtain ⟨q, hq, rfl⟩ := List.mem_map.mp hb
          obtain ⟨more, hm⟩ := grown q hq
          rw [hT q hq] at e
          cases e
          exact Or.inr (Or.inl ⟨((C q hq).tab (hT q hq)).isCodeTable, rfl, #[], more, rfl, by rw [Array.empty_append]; exact hm⟩)
        · exact Or.inl (kept b o hb e)
      · intro b o e
        by_cases hb : b ∈ cs.map (·.2)
        · obtain ⟨q, hq, rfl⟩ := List.mem_map.mp hb
          obtain ⟨more, hm⟩ := grown q hq
          exact ⟨_, hm⟩
        · exact ⟨o, kept b o hb e⟩
end
def LawG (l : PySem.W.OpenLaw) (w : World) (K : PySem.W.Frag) (k n : Nat) (x : Str) (mg : Str → Option Value) (fa : Addr) (h : Heap) : Prop :=
  ∃ (fd : FuncData) (cs : List (Addr × Addr)) (sp : Sp), (∀ q ∈ cs, h.get? q.2 = some { cls := .none, data := .fields #[] }) ∧ (∀ q ∈ cs, K.lookup q.2 = none) ∧ (∀ q ∈ cs, PySem.W.CodeHd h q.1 q.2) ∧
    (∀ (s : Shared) (u : Value), BindsTo s fd ⟨[u], []⟩ [(x, u)]) ∧
    (∀ (H : Hp) (a : Addr) (ns : List Int), ns.length ≤ n → (∀ q ∈ cs, H q.2 = some (.tbl #[])) → SqL K H a (ns.map V.int) → sp [.ref a] H (fun v _ => v = .bl true) fun _ _ _ => False) ∧
    ∀ base : Heap, K.In base → base.Ns mainGlobals mg → (∀ q ∈ cs, TabB base mg q.1 q.2) → FnG l.prog w K mg base k fa fd [x] sp
theorem walkG {l : PySem.W.OpenLaw} {n k : Nat} {q : Program} {loose : List Str} {XP : (Str → Option Value) → Heap → Prop} {YP : World → Heap → Prop} {d : DefRec} {x : Str}
    (hn : l.most = some n) (hn2 : n ≤ sizeLine) (hdf : d.params.defaults = []) (hr : Room k callerA)
    (F : ∀ (w : World) (mg : Str → Option Value) (fa : Addr) (h : Heap), YP w h → h.Ns mainGlobals mg → mg d.name = some (.ref fa) → ∃ K : PySem.W.Frag, K.In h ∧ LawG l w K k n x mg fa h) :
    PySem.W.WalkO q loose XP YP l.row.toRowW d [] (fun f vs => PySem.call f vs) := by
  apply Att.attach_callB hn hdf
  intro w s₀ s₁ mg mb fa o pm cd doc a vs ns G Y ho hd hcd hmg hobj hints hlen _ hg
  obtain ⟨K, KX, fd, cs, sp, hT, nT, C, hb, hsp, hF⟩ := F w mg fa _ Y G.T.g hmg
  exact lawG_call KX G.T.g G.T.b G.T.builtins G.T.nolimit hg hT nT C G.T.bmain hobj hints (Nat.le_trans hlen hn2) hr hF hb (fun H hH hS => hsp H a ns hlen hH hS)
def seenAt (g : Addr → Option Obj) (n : Nat) : PySem.W.Frag := He.frT g (sysModules :: He.asD g n)
structure Told (fn : List He.DefD) (tf : List He.Defn) (ex : PySem.W.Frag → Bool) (h : Heap) (K : PySem.W.Frag) : Prop where
  d : He.SaysD [] fn K
  more : ex K = true
  hd : ∀ q ∈ tf, PySem.W.codeHdIn K (He.cT K q).1 (He.cT K q).2 = true
  out : ∀ q ∈ tf, K.lookup (He.cT K q).2 = none
  empty : ∀ q ∈ tf, h.get? (He.cT K q).2 = some { cls := .none, data := .fields #[] }
abbrev AlZ : Type := He.AlD × Bool
def obsZ (n : Nat) (fn : List He.DefD) (tf : List He.Defn) (ex : PySem.W.Frag → Bool) (g : Addr → Option Obj) : AlZ := (He.obsD [] fn (seenAt g n), ex (seenAt g n) && He.tabsB g tf (seenAt g n))
def valZ (fn : List He.DefD) : AlZ := (He.valD fn, true)
theorem told_of {n : Nat} {fn : List He.DefD} {tf : List He.Defn} {ex : PySem.W.Frag → Bool} {h : Heap} (e : obsZ n fn tf ex h.get? = valZ fn) : Told fn tf ex h (seenAt h.get? n) := by
  have e1 : He.obsD [] fn (seenAt h.get? n) = He.valD fn := congrArg (fun z : AlZ => z.1) e
  have e2 : (ex (seenAt h.get? n) && He.tabsB h.get? tf (seenAt h.get? n)) = true := congrArg (fun z : AlZ => z.2) e
  obtain ⟨h1, h2⟩ := Bool.and_eq_true_iff.mp e2
  have one : ∀ q ∈ tf, PySem.W.codeHdIn (seenAt h.get? n) (He.cT (seenAt h.get? n) q).1 (He.cT (seenAt h.get? n) q).2 = true ∧ ∃ o, h.get? (He.cT (seenAt h.get? n) q).2 = some o ∧ He.emptyTab o = true := by
    intro q hq
    obtain ⟨h3, h4⟩ := Bool.and_eq_true_iff.mp (List.all_eq_true.mp h2 q hq)
    refine ⟨h3, ?_⟩
    cases z : h.get? (He.cT (seenAt h.get? n) q).2 with
    | none => rw [z] at h4; cases h4
    | some o => rw [z] at h4; exact ⟨o, rfl, h4⟩
  constructor
  · exact e1
  · exact h1
  · exact fun q hq => (one q hq).1
  · intro q hq
    obtain ⟨_, o, z, y⟩ := one q hq
    exact He.frT_none z y
  · intro q hq
    obtain ⟨_, o, z, y⟩ := one q hq
    rw [z, He.emptyTab_eq y]
def hookZ (n : Nat) (fn : List He.DefD) (tf : List He.Defn) (ex : PySem.W.Frag → Bool) : PySem.W.Hook where
  α := AlZ
  obs := fun s => obsZ n fn tf ex s.heap.get?
  val := fun _ => valZ fn
  says := fun _ h => ∃ K : PySem.W.Frag, K.In h ∧ Told fn tf ex h K
  of := fun _ _ e => ⟨_, He.frT_in, told_of e⟩
  keeps := fun _ _ _ ⟨K, hK, c⟩ kp => ⟨K, PySem.W.Frag.In.keeps hK kp, ⟨c.d, c.more, c.hd, c.out, fun q hq => kp _ _ (c.empty q hq)⟩⟩
theorem obsZ_eq {n : Nat} {fn : List He.DefD} {tf : List He.Defn} {ex : PySem.W.Frag → Bool} {g : Addr → Option Obj} {s : Shared} (h : ∀ a, g a = s.heap.get? a) : obsZ n fn tf ex g = (hookZ n fn tf ex).obs s := by
  have e : g = s.heap.get? := funext h
  subst e
  rfl
end OZ
set_option maxRecDepth 100000
set_option maxHeartbeats 1000000
namespace OZ
open PySem PySem.Spec PyProof.Rows L2
def FncK (P : Program) (w : World) (K : PySem.W.Frag) (mg : Str → Option Value) (base : Heap) (k : Nat) (x : Str) (ps ks : List Str) (gV : List V → List V → List V) (sp : Sp) : Prop :=
  ∃ (f : Addr) (fd : FuncData) (g : List Value → List Value → List Value), mg x = some (.ref f) ∧ PySem.W.keepIn K (.ref f) = true ∧ KBn K fd ps 0 ks g gV ∧ FnOk P w K mg base (L2.CX P w) k f fd ps sp
def tCallKw (m : Nat) (sp : Sp) (gV : List V → List V → List V) (E : L2.St → XK) (tk : TA) : TE := fun σ H Q => tk σ H fun zs H2 => zs.length = m ∧ sp (gV [] zs) H2 Q (E σ)
theorem y_callKw {m : Nat} {sp : Sp} {gV : List V → List V → List V} {E : L2.St → XK} {tk : TA} {σ : L2.St} {H : Hp} {Q : VK} (h : tk σ H fun zs H2 => zs.length = m ∧ sp (gV [] zs) H2 Q (E σ)) : tCallKw m sp gV E tk σ H Q := h
section
variable {X : Cx} {k : Nat} {x : Str} {ps ks : List Str} {gV : List V → List V → List V} {sp : Sp} {kws : List Keyword} {tk : TA} {p pos : Pos}
theorem ock0E {E : L2.St → XK} (F : FncK X.prog X.w X.K X.mg X.base k x ps ks gV sp) (hr : Room k X.A) (hx : ∀ σ, PassesAt (L2.CX X.prog X.w) X σ (E σ)) (hkw : PK X kws tk) (hg : Gl X x)
    (hall : (backToKw pos (keywordEach kws X.env)).all (·.1.isSome) = true) (hks : (backToKw pos (keywordEach kws X.env)).filterMap (·.1) = ks)
    (hdb : (x == ("__debug__" : Str)) = false) (hpl : ((backTo pos (starEach [] X.env)).any (·.1) || (backToKw pos (keywordEach kws X.env)).any (·.1.isNone)) = false) :
    PE X (.Call (.Name x p) [] kws pos) (tCallKw ks.length sp gV E tk) := by
  obtain ⟨f, fd, g, hm, hk, hb, G⟩ := F
  constructor
  intro pins s σ H Q I h
  apply wpAny_Call_Name_kw (ld_glob I hg hm ?_ hdb)
  apply PySem.W.callWith_KW0 (h₀ := X.base) I.ok.mod.kin hk hall ?_ hpl
  apply thn (hkw.run pos pins s σ H _ I h)
  rintro ws s2 ⟨zs, H2, I2, rz, l2, q2⟩
  refine ⟨I2.kIn, ?_⟩
  rw [hks]
  have r2 := hb.rel (vs := []) (us := []) .nil rz
  show wpAny (model X.prog X.w) X.A (call (.ref f) [] (ks.zip ws)) _ _ _
  apply wpAny_call
  apply codeAny_mono (G.run X.A X.stack s2 H2 ⟨[], ks.zip ws⟩ _ _ Q (E σ) hr I2.env0 (hb.to s2 [] ws I2.kIn rfl (rz.length.symm.trans l2)) r2 q2)
  intro r s' z
  cases r with
  | error e => exact hx σ pins H2 s2 e s' I2 z
  | ok fl =>
    cases fl with
    | ret u => exact I2.after z
    | next => exact z.elim
    | brk => exact z.elim
    | cont => exact z.elim
theorem ock0 (F : FncK X.prog X.w X.K X.mg X.base k x ps ks gV sp) (hr : Room k X.A) (hkw : PK X kws tk) (hg : Gl X x := by rfl)
    (hall : (backToKw pos (keywordEach kws X.env)).all (·.1.isSome) = true := by rfl) (hks : (backToKw pos (keywordEach kws X.env)).filterMap (·.1) = ks := by rfl)
    (hdb : (x == ("__debug__" : Str)) = false := by decide) (hpl : ((backTo pos (starEach [] X.env)).any (·.1) || (backToKw pos (keywordEach kws X.env)).any (·.1.isNone)) = false := by rfl) :
    PE X (.Call (.Name x p) [] kws pos) (tCallKw ks.length sp gV (fun _ => E0) tk) :=
  ock0E F hr (fun σ pins H s e s' I c => passL pins σ H s e s' I c) hkw hg hall hks hdb hpl
theorem ock0X {W : WX} (F : FncK X.prog X.w X.K X.mg X.base k x ps ks gV sp) (hr : Room k X.A) (tks : Takes X W) (hkw : PK X kws tk) (hg : Gl X x := by rfl)
    (hall : (backToKw pos (keywordEach kws X.env)).all (·.1.isSome) = true := by rfl) (hks : (backToKw pos (keywordEach kws X.env)).filterMap (·.1) = ks := by rfl)
    (hdb : (x == ("__debug__" : Str)) = false := by decide) (hpl : ((backTo pos (starEach [] X.env)).any (·.1) || (backToKw pos (keywordEach kws X.env)).any (·.1.isNone)) = false := by rfl) :
    PE X (.Call (.Name x p) [] kws pos) (tCallKw ks.length sp gV (WE W) tk) :=
  ock0E F hr (fun σ => passAt tks σ) hkw hg hall hks hdb hpl
end
theorem ob_ty {X : Cx} {x : Str} {T : String} {pos : Pos} (hm : X.mg x = none) (hv : bootBuiltins x = some (.type T)) (hg : Gl X x := by rfl) (hn : x ≠ "__name__" := by decide) (hd : (x == ("__debug__" : Str)) = false := by decide) :
    PE X (.Name x pos) (tC (.ty T)) := pe_bltn hg hm hv rfl hn hd
def XMk (P : Program) (w : World) (K : PySem.W.Frag) (mg : Str → Option Value) (base : Heap) (x : Str) (C : Addr) (ps : List Str) (sp : Sp) : Prop :=
  mg x = some (.ref C) ∧ XC K C ∧ ∃ (fI : Addr) (fd : FuncData), PySem.W.findIn K (.ref C) "__init__" = some (some (.ref fI)) ∧ PySem.W.typeIn K (.ref fI) = some (.type "function") ∧ Binds K fd ps [] ∧ FnOk P w K mg base (L2.CX P w) 1 fI fd ps sp
theorem raiseX {X : Cx} {W : WX} {x : Str} {C : Addr} {ps : List Str} {sp : Sp} {e : Expr} {es : List Expr} {ta : TA} {p pos pos2 : Pos} (M : XMk X.prog X.w X.K X.mg X.base x C ps sp) (hr : Room 2 X.A) (hc : X.calm = true) (tk : Takes X W) (ha : PA X (e :: es) ta)
    (hg : Gl X x := by rfl) (hdb : (x == ("__debug__" : Str)) = false := by decide) (he : starEach (e :: es) X.env = (false, eval e X.env) :: starEach es X.env := by rfl) (hpl : (backTo pos (starEach es X.env)).any (·.1) = false := by rfl) :
    PS X (.Raise (some (.Call (.Name x p) (e :: es) [] pos)) none pos2) (fun _ σ H => tMkO C sp [] ta σ H fun cls d H' => W cls d σ H') := by
  obtain ⟨hm, xc, fI, fd, iC, tI, hb, G⟩ := M
  exact ps_raise hc tk (pmk_oex xc.oex iC tI G hr hb .nil passL hg hm ha hdb he hpl)
def spX1 (f : Str) (C : Addr) : Sp := fun vs H Q _ => ∃ (a : Addr) (v : V), vs = [.ref a, v] ∧ H a = some (exo a C none) ∧ ∀ dx, H dx = none → dx ≠ a → Q .non (upd (upd H dx (exd dx [(f, v)])) a (exo a C (some dx)))
def spX2 (f g : Str) (C : Addr) : Sp := fun vs H Q _ => ∃ (a : Addr) (v u : V), vs = [.ref a, v, u] ∧ H a = some (exo a C none) ∧
  ∀ dx, H dx = none → dx ≠ a → Q .non (upd (upd (upd H dx (exd dx [(f, v)])) a (exo a C (some dx))) dx (exd dx [(g, u), (f, v)]))
section
variable {P : Program} {w : World} {K : PySem.W.Frag} {mg : Str → Option Value} {base : Heap}
def iBody1 (f : Str) (q1 q2 q3 q4 : Pos) : List Stmt := [.Assign [.Attribute (.Name "self" q1) f q2] (.Name f q3) q4]
def iBody2 (f g : Str) (q1 q2 q3 q4 r1 r2 r3 r4 : Pos) : List Stmt := [.Assign [.Attribute (.Name "self" q1) f q2] (.Name f q3) q4, .Assign [.Attribute (.Name "self" r1) g r2] (.Name g r3) r4]
end
theorem del_upds {H : Hp} {a d : Addr} {o u v w : HO} (ha : H a = none) : upd (del (upd (upd (upd H a o) d u) a v) a) d w = upd H d w := by
  funext b
  by_cases hb : b = d
  · rw [hb, upd_same, upd_same]
  · rw [upd_ne hb, upd_ne hb]
    by_cases hba : b = a
    · rw [hba, del_same, ha]
    · rw [del_ne hba, upd_ne hba, upd_ne hb, upd_ne hba]
theorem y_mk1 {f : Str} {C : Addr} {H : Hp} {v : V} {Q : XK} (h : ∀ d, H d = none → Q (.ref C) (some d) (upd H d (.xd [(f, v)]))) :
    [v].length ≤ 1000 ∧ ∀ a, H a = none → spX1 f C (.ref a :: ([v] ++ [])) (upd H a (exo a C none)) (fun v H2 => v = .non ∧ ∃ (d : Addr) (fs : List (Str × V)), H2 a = some (exo a C (some d)) ∧ H2 d = some (exd d fs) ∧ H d = none ∧ Q (.ref C) (some d) (upd (del H2 a) d (.xd fs))) (fun _ _ _ => False) := by
  refine ⟨by show 1 ≤ 1000; decide, fun a ha => ⟨a, v, rfl, upd_same, fun d hd nda => ⟨rfl, d, [(f, v)], upd_same, ?_, free_upd hd, ?_⟩⟩⟩
  · rw [upd_ne nda, upd_same]
  · rw [del_upds ha]
    exact h d (free_upd hd)
theorem y_mkO {C : Addr} {sp : Sp} {dvs : List V} {ta : TA} {σ : L2.St} {H : Hp} {Q : XK} (h : ta σ H fun vs H1 => vs.length ≤ 1000 ∧ ∀ a, H1 a = none → sp (.ref a :: (vs ++ dvs)) (upd H1 a (exo a C none))
  (fun v H2 => v = .non ∧ ∃ (d : Addr) (fs : List (Str × V)), H2 a = some (exo a C (some d)) ∧ H2 d = some (exd d fs) ∧ H1 d = none ∧ Q (.ref C) (some d) (upd (del H2 a) d (.xd fs))) (fun _ _ _ => False)) : tMkO C sp dvs ta σ H Q := h
theorem take_more {α : Type} {l : List α} {i : Nat} {x : α} (h : l[i]? = some x) : l.take (i + 1) = l.take i ++ [x] := by
  rw [List.take_add_one, h]
  rfl
theorem ix_ltN {xs : List Nat} {i : Int} {v : Nat} {j : Nat} (h : xs[j]? = some v) (e : i = (j : Int)) : atI xs i = some v := by rw [e]; exact atI_nat h
theorem kb_of {K : PySem.W.Frag} {x qual : Str} {params : Arguments} {body : List Stmt} {scope : Scope} {f : Addr} {fd : FuncData} {ps ks : List Str} (F : FunD K x qual params body scope [] [] f fd)
    (h : ∀ (kV doc pm : Value) (an : Option Addr) (cdv ct : Value) (ws : List Value), ws.length = ks.length → bindArgs (PySem.W.fnOf x qual params body scope .none kV doc pm an cdv ct) ⟨[], ks.zip ws⟩ = pure (ps.zip ws)) : KBn K fd ps 0 ks (fun _ ws => ws) (fun _ zs => zs) := by
  obtain ⟨oc, od, dV, kV, doc, pm, an, cdv, ct, osl, rfl, lk, hcd, hD, hK⟩ := F.ex
  rcases hD with ⟨_, rfl⟩ | ⟨z, _⟩
  · constructor
    · intro s us ws _ hu hw
      cases us with
      | nil => exact .of_eq (h kV doc pm an cdv ct ws hw)
      | cons a r => cases hu
    · intro vs us zs ws r1 r2
      exact r2
  · exact absurd rfl z
end OZ
set_option maxRecDepth 100000
namespace LW
open PySem PySem.Spec PyProof.Rows L2 OZ
def topS (i : Nat) : Stmt := PySem.Challenge.pw_ownzeros_k02_names_told.main.body.getD i (.Pass ⟨0, 0, 0, 0⟩)
abbrev FnP (K : PySem.W.Frag) (x : Str) (st : Stmt) (f : Addr) (fd : FuncData) : Prop := FunD K x x (defArgs st) (defBody st) (defScope st) [] [] f fd
abbrev LET : Str := "abcdefghijklmnopqrstuvwxyz"
structure Top (K : PySem.W.Frag) (mg : Str → Option Value) : Prop where
  n_len : mg "len" = none
  n_int : mg "int" = none
  n_abs : mg "abs" = none
  n_list : mg "list" = none
  n_str : mg "str" = none
  n_all : mg "all" = none
  n_range : mg "range" = none
  n_repr : mg "repr" = none
  n_isinstance : mg "isinstance" = none
  c_LONGEST : ∃ t, mg "LONGEST" = some (.int 8 t)
  c_LETTERS : ∃ t, mg "LETTERS" = some (.str LET t)
  sm : ∃ o, K.lookup sysModules = some o
local macro_rules | `(tactic| walk_at "hp") => `(tactic| first
  | assumption
  | exact upd_same
  | (refine upd_old ?_ ?_; (first | assumption | exact free_upd (by assumption)); walk_at "hp")
  | (refine upd_oth ?_ ?_; (first | assumption | exact Ne.symm (by assumption)); walk_at "hp"))
local macro_rules | `(tactic| walk_at "side") => `(tactic| first
  | assumption
  | decide
  | omega
  | exact ⟨by omega, by omega, by omega⟩
  | exact Or.inl ⟨by omega, by omega⟩
  | exact Or.inr ⟨by omega, by omega⟩
  | (show (_ : Int) ≠ 0; omega)
  | exact wide_div (b := 64) (by omega) (by omega) (by decide) (by decide)
  | exact wide_div (b := 4000) (by assumption) (by assumption) (by decide) (by decide))
local macro_rules | `(tactic| walk_at "y") => `(tactic| first
  | ((with_reducible refine y_var ?_); refine ⟨_, rfl, ?_⟩)
  | with_reducible refine y_c ?_
  | with_reducible refine y_op ?_
  | with_reducible refine y_cb ?_
  | with_reducible refine y_cons ?_
  | with_reducible refine y_nil ?_
  | with_reducible refine y_seq ?_
  | with_reducible refine y_asg ?_
  | with_reducible refine y_gn ?_
  | with_reducible refine y_gsub ?_
  | with_reducible refine y_ret ?_
  | with_reducible refine y_drop ?_
  | with_reducible refine y_next ?_
  | with_reducible refine y_ifS ?_
  | with_reducible refine y_test ?_
  | with_reducible refine y_B ?_
  | with_reducible refine y_ex ?_
  | with_reducible refine y_not ?_
  | with_reducible refine y_and ?_
  | with_reducible refine y_or ?_
  | with_reducible refine y_notV ?_
  | with_reducible refine y_andV ?_
  | with_reducible refine y_orV ?_
  | with_reducible refine y_ifE ?_
  | with_reducible refine y_un ?_
  | with_reducible refine y_par ?_
  | with_reducible refine y_ex2 ?_
  | with_reducible refine y_call ?_
  | with_reducible refine y_callS ?_
  | with_reducible refine y_I0 ?_
  | ((with_reducible refine y_I ?_ ?_); (walk_at "side"))
  | with_reducible refine y_U ?_
  | ((with_reducible refine y_eq ?_ ?_); (exact rfl))
  | ((with_reducible refine y_ne ?_ ?_); (exact rfl))
  | ((with_reducible refine' y_ixL ?k1 ?k2 ?k3); (case k1 => walk_at "hp"); (case k2 => exact rfl))
  | ((with_reducible refine' y_ixT ?k1 ?k2 ?k3); (case k1 => walk_at "hp"); (case k2 => exact rfl))
  | ((with_reducible refine' y_setL ?k1 ?k2 ?k3); (case k1 => walk_at "hp"); (case k2 => exact rfl))
  | with_reducible refine y_int ?_
  | with_reducible refine y_intB ?_
  | with_reducible refine y_abs ?_
  | ((with_reducible refine' y_lenL ?k1 ?k3); (case k1 => walk_at "hp"))
  | ((with_reducible refine' y_lenT ?k1 ?k3); (case k1 => walk_at "hp"))
  | ((with_reducible refine y_lenS ?_ ?_); (walk_at "side"))
  | with_reducible refine y_isN ?_
  | with_reducible refine y_notN ?_
  | ((with_reducible refine y_addS ?_ ?_); (walk_at "side"))
  | with_reducible refine y_inC ?_
  | with_reducible refine y_notInC ?_
  | with_reducible refine y_sl ?_
  | with_reducible refine y_part ?_
  | with_reducible refine y_nopart ?_
  | with_reducible refine y_exI ?_
  | ((with_reducible refine y_slS ?_ ?_); (walk_at "side"))
  | with_reducible refine y_lst ?_
  | with_reducible refine y_tup ?_
  | with_reducible refine y_chain ?_
  | with_reducible refine y_yes ?_
  | with_reducible refine y_att ?_
  | ((with_reducible refine y_disp ?_ ?_); (exact Nat.le_of_ble_eq_true rfl); (intro pp hpp))
  | ((with_reducible refine' y_gtup ?k1 ?k2 ?k3); (case k1 => walk_at "hp"); (case k2 => exact rfl))
  | with_reducible refine y_gcons ?_
  | with_reducible refine y_gnil ?_
  | with_reducible refine y_mkO ?_
  | with_reducible refine y_callKw ?_
  | with_reducible refine y_iteT ?_
  | with_reducible refine y_iteF ?_
  | with_reducible refine y_iteNT ?_
  | with_reducible refine y_iteNF ?_
  | ((with_reducible refine y_iteY ?_ ?_); (first | exact rfl | assumption | omega))
  | ((with_reducible refine y_iteX ?_ ?_); (first | focus (intro zz; cases zz; done) | assumption | omega))
  | ((with_reducible refine y_iteNY ?_ ?_); (first | exact rfl | assumption | omega))
  | ((with_reducible refine y_iteNX ?_ ?_); (first | focus (intro zz; cases zz; done) | assumption | omega))
  | ((with_reducible refine y_ite ?_ ?_) <;> intro hh)
  | ((with_reducible refine y_iteN ?_ ?_) <;> intro hh)
  | dsimp only)
section
variable {P : Program} {w : World} {K : PySem.W.Frag} {mg : Str → Option Value} {base : Heap}
def isNm (x : Str) : Bool := decide (1 ≤ x.length) && (decide (x.length ≤ 8) && x.cps.toList.all fun c => decide (c ∈ LET.cps.toList))
def nameD : PyData → Bool
  | .str x => isNm x
  | _ => false
def isStrD : PyData → Bool
  | .str _ => true
  | _ => false
theorem kitStr (d : PyData) : PySem.W.kitOne K (.type (tyN d)) (.type "str") = some (isStrD d) := by
  cases d <;> first
    | exact kit_ty (a := "str") (b := "str") (r := true) (by decide +kernel)
    | exact kit_ty (a := "NoneType") (b := "str") (r := false) (by decide +kernel)
    | exact kit_ty (a := "bool") (b := "str") (r := false) (by decide +kernel)
    | exact kit_ty (a := "int") (b := "str") (r := false) (by decide +kernel)
    | exact kit_ty (a := "list") (b := "str") (r := false) (by decide +kernel)
    | exact kit_ty (a := "tuple") (b := "str") (r := false) (by decide +kernel)
    | exact kit_ty (a := "dict") (b := "str") (r := false) (by decide +kernel)
def spIsN : Sp := fun vs H Q _ => ∃ (p : Addr) (v : V) (d : PyData), vs = [v] ∧ Dq p H v d ∧ (∀ x, d = .str x → x.length ≤ 10000) ∧ ∀ H', Same H H' → Q (.bl (nameD d)) H'
abbrev s_isn : Stmt := topS 7
theorem sc_isn : FnScope ["value", "letter"] ["value"] (defScope s_isn) := ⟨rfl, rfl, rfl, by decide +kernel, rfl, by decide +kernel, by decide +kernel⟩
theorem ok_isn {f : Addr} {fd : FuncData} (F : FnP K "is_name" s_isn f fd) (T : Top K mg) : FnOk P w K mg base (L2.CX P w) 1 f fd ["value"] spIsN := by
  have nd := sc_isn.nd
  refine F.ok sc_isn (fun vs H Q E h => ?_) (fun cdv A outer s H vs Q E hr h => ?_)
  · obtain ⟨p, v, d, rfl, _⟩ := h
    rfl
  · obtain ⟨p, v, d, rfl, hd, hz, k⟩ := h
    refine ⟨_, PSs.nox (pss_cons (ps_if (PW.pt (pw_or (pt_not (pt_val (pe_callB c_isA (by rfl) T.n_isinstance (by decide +kernel) (pa_cons (pv 0) (pa_cons (ob_ty (T := "str") T.n_str (by decide +kernel)) pa_nil))))) (pw_or1 (pt_not (pt_chain op_le op_le pe_int (pe_callB c_lenS (by rfl) T.n_len (by decide +kernel) (pa_cons (pv 0) pa_nil)) (og_int T.c_LONGEST))))))
        (pss_one (ps_ret pe_bl))
        pss_nil)
      (pss_one (ps_ret (pe_callB (cr_all rfl) (by rfl) T.n_all (by decide +kernel) (pa_cons (pe_lc (own := [("letter", 1)]) (g := gName 1) rfl nd (pi_str (pv 0)) (blkOk_by (N := ["value", "letter"]) (sc := defScope (topS 7)) (by decide +kernel)) (fun _ _ _ _ _ => (pg_name (i := 1) nd rfl (Or.inl rfl))) (fun _ _ _ _ _ => pts_nil) (fun _ _ _ _ _ => (pe_cmpR o_inC (pv 1) (og_str T.c_LETTERS) (by rfl)))) pa_nil))))), ?_⟩
    repeat walk_at "y"
    refine .inl ⟨_, _, _, _, _, rfl, .ty "str", hd.ty, kitStr d, ?_⟩
    repeat walk_at "y"
    have no : isStrD d = false → nameD d = false := by cases d <;> simp [isStrD, nameD]
    refine y_iteB (fun h1 => ?_) (fun h1 => ?_)
    · repeat walk_at "y"
      have e := no (by simpa using h1)
      rw [e] at k
      exact k H (Same.refl H)
    · cases d with
      | str x =>
        cases hd
        have hx := hz x rfl
        have hsz : x.length ≤ sizeLine := by rw [sizeLine_eq]; omega
        have bad : nameD (.str x) = false → Q (.bl false) H := fun e => by rw [e] at k; exact k H (Same.refl H)
        repeat walk_at "y"
        · exact bad (by simp only [nameD, isNm]; rw [decide_eq_false (show ¬ x.length ≤ 8 by omega)]; simp)
        · repeat walk_at "y"
          refine ⟨_, rfl, x, rfl, fun D hD => ?_⟩
          refine lc_it walk_str (fun i H' => Same H H' ∧ H' D = some (.lst ((x.cps.toList.take i).map fun c => V.bl (decide (c ∈ LET.cps.toList))))) ⟨fun b o e => upd_old hD e, upd_same⟩ (fun _ _ _ _ => trivial) ?_ ?_
          · rintro i v H1 H2 hi ⟨s1, hl⟩ ⟨rfl, c, hc, rfl⟩
            refine ⟨rfl, ?_⟩
            repeat walk_at "y"
            have hc2 : x.cps.toList[i]? = some c := by rw [Array.getElem?_toList]; exact hc
            refine ⟨_, hl, ?_, ?_⟩
            · rw [List.length_map, List.length_take]
              rw [sizeLine_eq]
              have : x.cps.toList.length = x.length := by simp [Str.length]
              omega
            · refine ⟨fun b o e => upd_oth (ne_of_none e hD) (s1 b o e), ?_⟩
              rw [upd_same, take_more hc2, List.map_append]
              rfl
          · rintro H1 ⟨s1, hl⟩
            repeat walk_at "y"
            refine ⟨D, (x.cps.toList.map fun c => decide (c ∈ LET.cps.toList)), rfl, SqL.of ?_, ?_⟩
            · rw [hl]
              have : x.cps.size = x.cps.toList.length := by simp
              rw [this, List.take_length, List.map_map]
              rfl
            · have e : nameD (.str x) = (x.cps.toList.map fun c => decide (c ∈ LET.cps.toList)).all id := by
                simp only [nameD, isNm]
                rw [decide_eq_true (show 1 ≤ x.length by omega), decide_eq_true (show x.length ≤ 8 by omega), List.all_map]
                rfl
              rw [e] at k
              exact k H1 s1
        · repeat walk_at "y"
          exact bad (by simp only [nameD, isNm]; rw [decide_eq_false (show ¬ 1 ≤ x.length by omega)]; simp)
      | _ => cases h1
end
end LW
set_option maxRecDepth 100000
namespace LW
open PySem PySem.Spec PyProof.Rows L2 OZ
local macro_rules | `(tactic| walk_at "hp") => `(tactic| first
  | assumption
  | exact upd_same
  | (refine upd_old ?_ ?_; (first | assumption | exact free_upd (by assumption)); walk_at "hp")
  | (refine upd_oth ?_ ?_; (first | assumption | exact Ne.symm (by assumption)); walk_at "hp"))
local macro_rules | `(tactic| walk_at "side") => `(tactic| first
  | assumption
  | decide
  | omega
  | exact ⟨by omega, by omega, by omega⟩
  | exact Or.inl ⟨by omega, by omega⟩
  | exact Or.inr ⟨by omega, by omega⟩
  | (show (_ : Int) ≠ 0; omega)
  | exact wide_div (b := 64) (by omega) (by omega) (by decide) (by decide)
  | exact wide_div (b := 4000) (by assumption) (by assumption) (by decide) (by decide))
local macro_rules | `(tactic| walk_at "y") => `(tactic| first
  | ((with_reducible refine y_var ?_); refine ⟨_, rfl, ?_⟩)
  | with_reducible refine y_c ?_
  | with_reducible refine y_op ?_
  | with_reducible refine y_cb ?_
  | with_reducible refine y_cons ?_
  | with_reducible refine y_nil ?_
  | with_reducible refine y_seq ?_
  | with_reducible refine y_asg ?_
  | with_reducible refine y_gn ?_
  | with_reducible refine y_gsub ?_
  | with_reducible refine y_ret ?_
  | with_reducible refine y_drop ?_
  | with_reducible refine y_next ?_
  | with_reducible refine y_ifS ?_
  | with_reducible refine y_test ?_
  | with_reducible refine y_B ?_
  | with_reducible refine y_ex ?_
  | with_reducible refine y_not ?_
  | with_reducible refine y_and ?_
  | with_reducible refine y_or ?_
  | with_reducible refine y_notV ?_
  | with_reducible refine y_andV ?_
  | with_reducible refine y_orV ?_
  | with_reducible refine y_ifE ?_
  | with_reducible refine y_un ?_
  | with_reducible refine y_par ?_
  | with_reducible refine y_ex2 ?_
  | with_reducible refine y_call ?_
  | with_reducible refine y_callS ?_
  | with_reducible refine y_I0 ?_
  | ((with_reducible refine y_I ?_ ?_); (walk_at "side"))
  | with_reducible refine y_U ?_
  | ((with_reducible refine y_eq ?_ ?_); (exact rfl))
  | ((with_reducible refine y_ne ?_ ?_); (exact rfl))
  | ((with_reducible refine' y_ixL ?k1 ?k2 ?k3); (case k1 => walk_at "hp"); (case k2 => exact rfl))
  | ((with_reducible refine' y_ixT ?k1 ?k2 ?k3); (case k1 => walk_at "hp"); (case k2 => exact rfl))
  | ((with_reducible refine' y_setL ?k1 ?k2 ?k3); (case k1 => walk_at "hp"); (case k2 => exact rfl))
  | with_reducible refine y_int ?_
  | with_reducible refine y_intB ?_
  | with_reducible refine y_abs ?_
  | ((with_reducible refine' y_lenL ?k1 ?k3); (case k1 => walk_at "hp"))
  | ((with_reducible refine' y_lenT ?k1 ?k3); (case k1 => walk_at "hp"))
  | ((with_reducible refine y_lenS ?_ ?_); (walk_at "side"))
  | with_reducible refine y_isN ?_
  | with_reducible refine y_notN ?_
  | ((with_reducible refine y_addS ?_ ?_); (walk_at "side"))
  | with_reducible refine y_inC ?_
  | with_reducible refine y_notInC ?_
  | with_reducible refine y_sl ?_
  | with_reducible refine y_part ?_
  | with_reducible refine y_nopart ?_
  | with_reducible refine y_exI ?_
  | ((with_reducible refine y_slS ?_ ?_); (walk_at "side"))
  | with_reducible refine y_lst ?_
  | with_reducible refine y_tup ?_
  | with_reducible refine y_chain ?_
  | with_reducible refine y_yes ?_
  | with_reducible refine y_att ?_
  | ((with_reducible refine y_disp ?_ ?_); (exact Nat.le_of_ble_eq_true rfl); (intro pp hpp))
  | ((with_reducible refine' y_gtup ?k1 ?k2 ?k3); (case k1 => walk_at "hp"); (case k2 => exact rfl))
  | with_reducible refine y_gcons ?_
  | with_reducible refine y_gnil ?_
  | with_reducible refine y_mkO ?_
  | with_reducible refine y_callKw ?_
  | with_reducible refine y_iteT ?_
  | with_reducible refine y_iteF ?_
  | with_reducible refine y_iteNT ?_
  | with_reducible refine y_iteNF ?_
  | ((with_reducible refine y_iteY ?_ ?_); (first | exact rfl | assumption | omega))
  | ((with_reducible refine y_iteX ?_ ?_); (first | focus (intro zz; cases zz; done) | assumption | omega))
  | ((with_reducible refine y_iteNY ?_ ?_); (first | exact rfl | assumption | omega))
  | ((with_reducible refine y_iteNX ?_ ?_); (first | focus (intro zz; cases zz; done) | assumption | omega))
  | ((with_reducible refine y_ite ?_ ?_) <;> intro hh)
  | ((with_reducible refine y_iteN ?_ ?_) <;> intro hh)
  | dsimp only)
section
variable {P : Program} {w : World} {K : PySem.W.Frag} {mg : Str → Option Value} {base : Heap}
abbrev s_draw : Stmt := topS 11
theorem sc_draw : FnScope ["_law_pen_here", "_law_many", "_law_digit", "_law_begun", "_law_lone", "_law_great", "_law_mixed"] ["_law_pen_here", "_law_many"] (defScope s_draw) := ⟨rfl, rfl, rfl, by decide +kernel, rfl, by decide +kernel, by decide +kernel⟩
theorem ok_draw {f : Addr} {fd : FuncData} (F : FnP K "_law_draw" s_draw f fd) (T : Top K mg) : FnOk P w K mg base (L2.CX P w) 1 f fd ["_law_pen_here", "_law_many"] spDraw := by
  have nd := sc_draw.nd
  refine F.ok sc_draw (fun vs H Q E h => ?_) (fun cdv A outer s H vs Q E hr h => ?_)
  · obtain ⟨p, c, n, m, rfl, _⟩ := h
    rfl
  · obtain ⟨p, c, n, m, rfl, ⟨ns, b, l, hp, hc, hb0, hbn, hl0⟩, hn, hm0, hm1, k⟩ := h
    have hu64 := hr.units
    refine ⟨_, PSs.nox (pss_cons (ps_if (pt_cmpR op_gt (pe_ix ix_list (pv 0) pe_int (fun _ _ => rfl)) pe_int (nomark _))
    (pss_cons (ps_set (i := 2) nd rfl (Or.inl rfl) (pe_op op_modN (pe_callTy c_int (by rfl) T.n_int (by decide +kernel) (pa_cons (pe_ix ix_list (pv 0) pe_int (fun _ _ => rfl)) pa_nil)) (pv 1)))
    (pss_cons (ps_asg (pe_op op_fdivW (pe_callTy c_int (by rfl) T.n_int (by decide +kernel) (pa_cons (pe_ix ix_list (pv 0) pe_int (fun _ _ => rfl)) pa_nil)) (pv 1)) (pg_sub (pv 0) pe_int set_list))
    (pss_one (ps_ret (pv 2)))))
    pss_nil)
  (pss_cons (ps_set (i := 3) nd rfl (Or.inl rfl) (pe_ix ix_list (pv 0) pe_int (fun _ _ => rfl)))
  (pss_cons (ps_asg (pe_op op_add (pv 3) pe_int) (pg_sub (pv 0) pe_int set_list))
  (pss_cons (ps_set (i := 4) nd rfl (Or.inl rfl) (pe_op op_add (pe_op op_mul pe_int (pv 3)) pe_int))
  (Evl.pss_cut (ps_if (pt_cmpR (op_neD hu64) (pe_ix ix_list (pv 0) pe_int (fun _ _ => rfl)) (pe_lst pa_nil) (nomark _))
    (pss_one (ps_set (i := 4) nd rfl (Or.inl rfl) (pe_ix ix_list (pe_ix ix_list (pv 0) pe_int (fun _ _ => rfl)) (pe_op op_modN (pe_callTy c_int (by rfl) T.n_int (by decide +kernel) (pa_cons (pv 3) pa_nil)) (pe_callB c_len (by rfl) T.n_len (by decide +kernel) (pa_cons (pe_ix ix_list (pv 0) pe_int (fun _ _ => rfl)) pa_nil))) (fun _ _ => rfl))))
    pss_nil)
  (pss_cons (ps_if (PW.pt (pw_and (pt_cmpR op_lt (pv 3) (pe_callB c_len (by rfl) T.n_len (by decide +kernel) (pa_cons (pe_ix ix_list (pv 0) pe_int (fun _ _ => rfl)) pa_nil)) (nomark _)) (pw_and1 (pt_cmpR op_ge (pe_callB c_abs (by rfl) T.n_abs (by decide +kernel) (pa_cons (pv 4) pa_nil)) (pe_op op_pow pe_int pe_int) (nomark _)))))
    (pss_cons (ps_set (i := 5) nd rfl (Or.inl rfl) (pe_op op_add (pe_op op_mul pe_int (pe_op op_sub (pe_callB c_abs (by rfl) T.n_abs (by decide +kernel) (pa_cons (pv 4) pa_nil)) (pe_op op_pow pe_int pe_int))) (pe_callTy c_int (by rfl) T.n_int (by decide +kernel) (pa_cons (pe_cmpR op_lt (pv 4) pe_int (nomark _)) pa_nil))))
    (pss_cons (ps_asg (pe_op op_fdivW (pe_callTy c_int (by rfl) T.n_int (by decide +kernel) (pa_cons (pv 5) pa_nil)) (pv 1)) (pg_sub (pv 0) pe_int set_list))
    (pss_one (ps_ret (pe_op op_modN (pe_callTy c_int (by rfl) T.n_int (by decide +kernel) (pa_cons (pv 5) pa_nil)) (pv 1))))))
    pss_nil)
  (pss_cons (ps_set (i := 6) nd rfl (Or.inl rfl) (pe_op op_modN (pe_callTy c_int (by rfl) T.n_int (by decide +kernel) (pa_cons (pe_op op_pow (pe_op op_add (pe_op op_add (pe_op op_modN (pe_callTy c_int (by rfl) T.n_int (by decide +kernel) (pa_cons (pv 4) pa_nil)) pe_int) (pe_op op_mul pe_int (pv 3))) pe_int) pe_int) pa_nil)) pe_int))
  (pss_cons (ps_set (i := 6) nd rfl (Or.inl rfl) (pe_op op_modN (pe_callTy c_int (by rfl) T.n_int (by decide +kernel) (pa_cons (pe_op op_pow (pe_op op_add (pe_op op_add (pe_op op_mul (pv 6) (pe_op op_add (pe_op op_mul pe_int (pv 3)) pe_int)) (pe_op op_mul (pe_op op_mul pe_int (pv 3)) (pv 3))) pe_int) pe_int) pa_nil)) pe_int))
  (pss_one (ps_ret (pe_op op_modN (pe_callTy c_int (by rfl) T.n_int (by decide +kernel) (pa_cons (pe_op op_fdivW (pv 6) pe_int) pa_nil)) (pv 1)))))))))))), ?_⟩
    have ncp : c ≠ p := ne_of hc hp (Ne.symm (lst_ne ns))
    have dv : ∀ a : Int, CDivW a m := fun a => wide_div hm0 hm1 (by decide) (by decide)
    repeat walk_at "y"
    · exact k _ _ (fmod_pos hm0).1 (fmod_pos hm0).2 ⟨ns, b, _, upd_same, upd_oth ncp hc, hb0, by omega, ediv_nn hm0 (by omega)⟩ Kp.set
    · repeat walk_at "y"
      refine ⟨fun σ' H' => ∃ z : Int, σ' = [some (.ref p), some (.int m), none, some (.int b), some (.int z), none, none] ∧ H' p = some (.lst [.ref c, .int (b + 1), .int l]) ∧ H' c = some (.lst (ns.map V.int)) ∧ Kp p H H', ?_, ?_⟩
      · repeat walk_at "y"
        rename_i q hq
        have hc1 : (upd H p (.lst [.ref c, .int (b + 1), .int l])) c = some (.lst (ns.map V.int)) := upd_oth ncp hc
        have kp2 : Kp p H (upd (upd H p (.lst [.ref c, .int (b + 1), .int l])) q (.lst [])) := Kp.set.trans (Kp.new hq)
        refine ⟨_, _, .lst (SqL.of (upd_old hq hc1)) (ints_dp ns), .lst (SqL.of upd_same) .nil, PySem.W.ke_shaped_ints ns, rfl, ?_⟩
        repeat walk_at "y"
        refine y_iteB (fun h1 => ?_) (fun h1 => ?_)
        · have hns : 0 < ns.length := by
            cases ns with
            | nil => exact absurd h1 (by decide)
            | cons a r => exact Nat.succ_pos _
          have hfm := fmod_pos (a := b) (m := (ns.length : Int)) (by omega)
          have hlt : (b.fmod (ns.length : Int)).toNat < ns.length := by omega
          have hp2 : (upd (upd H p (.lst [.ref c, .int (b + 1), .int l])) q (.lst [])) p = some (.lst [.ref c, .int (b + 1), .int l]) := upd_old hq upd_same
          have hc2 : (upd (upd H p (.lst [.ref c, .int (b + 1), .int l])) q (.lst [])) c = some (.lst (ns.map V.int)) := upd_old hq hc1
          repeat walk_at "y"
          refine y_I ?_ ?_
          · show ((ns.map V.int).length : Int) ≠ 0
            rw [List.length_map]; omega
          refine y_ixL (v := V.int (ns[(b.fmod (ns.length : Int)).toNat]'hlt)) hc2 (ix_lt (j := (b.fmod (ns.length : Int)).toNat) ?_ ?_) ?_
          · rw [List.getElem?_map, List.getElem?_eq_getElem hlt]; rfl
          · rw [List.length_map]; omega
          · exact ⟨_, rfl, hp2, hc2, kp2⟩
        · exact ⟨_, rfl, upd_old hq upd_same, upd_old hq hc1, kp2⟩
      · rintro σ' H1 ⟨z, rfl, hp1, hc1, kp1⟩
        have fin : ∀ (r : Int) (H' : Hp) (l' : Int), 0 ≤ r → r < m → 0 ≤ l' → H' p = some (.lst [.ref c, .int (b + 1), .int l']) → H' c = some (.lst (ns.map V.int)) → Kp p H H' → Q (.int r) H' := fun r H' l' h1 h2 h3 h4 h5 h6 =>
          k r H' h1 h2 ⟨ns, b + 1, l', h4, h5, by omega, by omega, h3⟩ h6
        have gre : ∀ z : Int, 10 ^ Int.toNat 18 ≤ (if z < 0 then -z else z) → 0 ≤ 2 * ((if z < 0 then -z else z) - 10 ^ Int.toNat 18) + (if decide (z < 0) = true then 1 else 0) := fun z h => by
          have : (0 : Int) ≤ (if decide (z < 0) = true then 1 else 0) := by split <;> decide
          omega
        repeat walk_at "y"
        · exact fin _ _ _ (fmod_pos hm0).1 (fmod_pos hm0).2 (ediv_nn hm0 (gre z ‹_›)) upd_same (upd_oth ncp hc1) (kp1.trans Kp.set)
        all_goals
          have q1 := fmod_pos (a := z) (m := 2147483563) (by decide)
          repeat walk_at "y"
          have q2 := fmod_pos (a := (z.fmod 2147483563 + 76113 * b + 629) ^ Int.toNat 5) (m := 2147483629) (by decide)
          generalize Int.fmod ((z.fmod 2147483563 + 76113 * b + 629) ^ _) 2147483629 = mx at *
          have q3 := mul_bd (x := mx) (y := 2 * b + 85) (A := 2147483648) (B := 2000200) q2.1 (by omega) (by omega) (by omega)
          have q4 := mul_bd (x := 57083 * b) (y := b) (A := 100000000000) (B := 1000001) (by omega) (by omega) (by omega) (by omega)
          repeat walk_at "y"
          exact fin _ _ _ (fmod_pos hm0).1 (fmod_pos hm0).2 hl0 hp1 hc1 kp1
end
end LW
set_option maxRecDepth 100000
namespace LW
open PySem PySem.Spec PyProof.Rows L2 OZ
local macro_rules | `(tactic| walk_at "hp") => `(tactic| first
  | assumption
  | exact upd_same
  | (refine upd_old ?_ ?_; (first | assumption | exact free_upd (by assumption)); walk_at "hp")
  | (refine upd_oth ?_ ?_; (first | assumption | exact Ne.symm (by assumption)); walk_at "hp"))
local macro_rules | `(tactic| walk_at "side") => `(tactic| first
  | assumption
  | decide
  | omega
  | exact ⟨by omega, by omega, by omega⟩
  | exact Or.inl ⟨by omega, by omega⟩
  | exact Or.inr ⟨by omega, by omega⟩
  | (show (_ : Int) ≠ 0; omega)
  | exact wide_div (b := 64) (by omega) (by omega) (by decide) (by decide)
  | exact wide_div (b := 4000) (by assumption) (by assumption) (by decide) (by decide))
local macro_rules | `(tactic| walk_at "y") => `(tactic| first
  | ((with_reducible refine y_var ?_); refine ⟨_, rfl, ?_⟩)
  | with_reducible refine y_c ?_
  | with_reducible refine y_op ?_
  | with_reducible refine y_cb ?_
  | with_reducible refine y_cons ?_
  | with_reducible refine y_nil ?_
  | with_reducible refine y_seq ?_
  | with_reducible refine y_asg ?_
  | with_reducible refine y_gn ?_
  | with_reducible refine y_gsub ?_
  | with_reducible refine y_ret ?_
  | with_reducible refine y_drop ?_
  | with_reducible refine y_next ?_
  | with_reducible refine y_ifS ?_
  | with_reducible refine y_test ?_
  | with_reducible refine y_B ?_
  | with_reducible refine y_ex ?_
  | with_reducible refine y_not ?_
  | with_reducible refine y_and ?_
  | with_reducible refine y_or ?_
  | with_reducible refine y_notV ?_
  | with_reducible refine y_andV ?_
  | with_reducible refine y_orV ?_
  | with_reducible refine y_ifE ?_
  | with_reducible refine y_un ?_
  | with_reducible refine y_par ?_
  | with_reducible refine y_ex2 ?_
  | with_reducible refine y_call ?_
  | with_reducible refine y_callS ?_
  | with_reducible refine y_I0 ?_
  | ((with_reducible refine y_I ?_ ?_); (walk_at "side"))
  | with_reducible refine y_U ?_
  | ((with_reducible refine y_eq ?_ ?_); (exact rfl))
  | ((with_reducible refine y_ne ?_ ?_); (exact rfl))
  | ((with_reducible refine' y_ixL ?k1 ?k2 ?k3); (case k1 => walk_at "hp"); (case k2 => exact rfl))
  | ((with_reducible refine' y_ixT ?k1 ?k2 ?k3); (case k1 => walk_at "hp"); (case k2 => exact rfl))
  | ((with_reducible refine' y_setL ?k1 ?k2 ?k3); (case k1 => walk_at "hp"); (case k2 => exact rfl))
  | with_reducible refine y_int ?_
  | with_reducible refine y_intB ?_
  | with_reducible refine y_abs ?_
  | ((with_reducible refine' y_lenL ?k1 ?k3); (case k1 => walk_at "hp"))
  | ((with_reducible refine' y_lenT ?k1 ?k3); (case k1 => walk_at "hp"))
  | ((with_reducible refine y_lenS ?_ ?_); (walk_at "side"))
  | with_reducible refine y_isN ?_
  | with_reducible refine y_notN ?_
  | ((with_reducible refine y_addS ?_ ?_); (walk_at "side"))
  | with_reducible refine y_inC ?_
  | with_reducible refine y_notInC ?_
  | with_reducible refine y_sl ?_
  | with_reducible refine y_part ?_
  | with_reducible refine y_nopart ?_
  | with_reducible refine y_exI ?_
  | ((with_reducible refine y_slS ?_ ?_); (walk_at "side"))
  | with_reducible refine y_lst ?_
  | with_reducible refine y_tup ?_
  | with_reducible refine y_chain ?_
  | with_reducible refine y_yes ?_
  | with_reducible refine y_att ?_
  | ((with_reducible refine y_disp ?_ ?_); (exact Nat.le_of_ble_eq_true rfl); (intro pp hpp))
  | ((with_reducible refine' y_gtup ?k1 ?k2 ?k3); (case k1 => walk_at "hp"); (case k2 => exact rfl))
  | with_reducible refine y_gcons ?_
  | with_reducible refine y_gnil ?_
  | with_reducible refine y_mkO ?_
  | with_reducible refine y_callKw ?_
  | with_reducible refine y_iteT ?_
  | with_reducible refine y_iteF ?_
  | with_reducible refine y_iteNT ?_
  | with_reducible refine y_iteNF ?_
  | ((with_reducible refine y_iteY ?_ ?_); (first | exact rfl | assumption | omega))
  | ((with_reducible refine y_iteX ?_ ?_); (first | focus (intro zz; cases zz; done) | assumption | omega))
  | ((with_reducible refine y_iteNY ?_ ?_); (first | exact rfl | assumption | omega))
  | ((with_reducible refine y_iteNX ?_ ?_); (first | focus (intro zz; cases zz; done) | assumption | omega))
  | ((with_reducible refine y_ite ?_ ?_) <;> intro hh)
  | ((with_reducible refine y_iteN ?_ ?_) <;> intro hh)
  | dsimp only)
section
variable {P : Program} {w : World} {K : PySem.W.Frag} {mg : Str → Option Value} {base : Heap}
abbrev s_xin : Stmt := inClass (topS 3) 0
theorem sc_xin : FnScope ["self", "value"] ["self", "value"] (defScope s_xin) := ⟨rfl, rfl, rfl, by decide +kernel, rfl, by decide +kernel, by decide +kernel⟩
theorem ok_xin {f C : Addr} {fd : FuncData} (F : FunD K "__init__" "BadName.__init__" (defArgs s_xin) (defBody s_xin) (defScope s_xin) [] [] f fd) (xc : XC K C) (na : NoAttr K C "value") : FnOk P w K mg base (L2.CX P w) 1 f fd ["self", "value"] (spX1 "value" C) := by
  refine F.ok sc_xin (fun vs H Q E h => ?_) (fun cdv A outer s H vs Q E hr h => ?_)
  · obtain ⟨a, v, rfl, _⟩ := h
    rfl
  · obtain ⟨a, v, rfl, ha, k⟩ := h
    refine ⟨_, PSs.nox (pss_one (ps_ost (pv 0) (pv 1))), ?_⟩
    exact ⟨_, rfl, _, rfl, a, C, rfl, xc.oex, na, .inl ⟨ha, fun dx h1 h2 => k dx h1 h2⟩⟩
def spNeed (C : Addr) : Sp := fun vs H Q E => ∃ (p : Addr) (v : V) (d : PyData), vs = [v] ∧ Dq p H v d ∧ (∀ x, d = .str x → x.length ≤ 10000) ∧ (nameD d = true → ∀ H', Same H H' → Q .non H') ∧
  (nameD d = false → ∀ H' dd, Same H H' → H dd = none → H' dd = some (.xd [("value", v)]) → E (.ref C) (some dd) H')
abbrev s_need : Stmt := topS 8
theorem sc_need : FnScope ["value"] ["value"] (defScope s_need) := ⟨rfl, rfl, rfl, by decide +kernel, rfl, by decide +kernel, by decide +kernel⟩
theorem ok_need {f C : Addr} {fd : FuncData} (F : FnP K "need_name" s_need f fd) (Fis_name : Fnc P w K mg base 1 "is_name" ["value"] spIsN) (MBadName : XMk P w K mg base "BadName" C ["self", "value"] (spX1 "value" C)) : FnOk P w K mg base (L2.CX P w) 3 f fd ["value"] (spNeed C) := by
  have nd := sc_need.nd
  refine F.ok sc_need (fun vs H Q E h => ?_) (fun cdv A outer s H vs Q E hr h => ?_)
  · obtain ⟨p, v, d, rfl, _⟩ := h
    rfl
  · obtain ⟨p, v, d, rfl, hd, hz, k1, k2⟩ := h
    refine ⟨_, (pss_one (ps_if (pt_not (pt_val (oc Fis_name (hr.mono (by decide)) (pa_cons (pv 0) pa_nil))))
        (pss_one (raiseX MBadName (hr.mono (by decide)) rfl (takes_of rfl rfl rfl rfl) (pa_cons (pv 0) pa_nil)))
        pss_nil)), ?_⟩
    repeat walk_at "y"
    refine ⟨p, v, d, rfl, hd, hz, fun H1 s1 => ?_⟩
    repeat walk_at "y"
    refine y_iteB (fun h1 => ?_) (fun h1 => ?_)
    · repeat walk_at "y"
      refine y_mk1 fun dd hdd => k2 (by simpa using h1) _ dd (fun b o e => upd_old hdd (s1 b o e)) (s1.free hdd) upd_same
    · exact k1 (by simpa using h1) H1 s1
def spPen (K : PySem.W.Frag) : Sp := fun vs H Q _ => ∃ (a : Addr) (ns : List Int), vs = [.ref a] ∧ SqL K H a (ns.map V.int) ∧ ns.length ≤ 63 ∧ ∀ p c H', Same H H' → H p = none → H c = none → PenAt H' p c 0 → Q (.ref p) H'
abbrev s_pen : Stmt := topS 10
theorem sc_pen : FnScope ["_law_script"] ["_law_script"] (defScope s_pen) := ⟨rfl, rfl, rfl, by decide +kernel, rfl, by decide +kernel, by decide +kernel⟩
theorem ok_pen {f : Addr} {fd : FuncData} (F : FnP K "_law_pen" s_pen f fd) (T : Top K mg) : FnOk P w K mg base (L2.CX P w) 1 f fd ["_law_script"] (spPen K) := by
  have nd := sc_pen.nd
  refine F.ok sc_pen (fun vs H Q E h => ?_) (fun cdv A outer s H vs Q E hr h => ?_)
  · obtain ⟨a, ns, rfl, _⟩ := h
    rfl
  · obtain ⟨a, ns, rfl, hS, hl, k⟩ := h
    refine ⟨_, PSs.nox (pss_one (ps_ret (pe_lst (pa_cons (pe_callTy c_list (by rfl) T.n_list (by decide +kernel) (pa_cons (pe_slice sl_list (pv 0) po_none (po_some pe_int)) pa_nil)) (pa_cons pe_int (pa_cons pe_int pa_nil)))))), ?_⟩
    repeat walk_at "y"
    refine ⟨a, _, rfl, hS, fun q hq => ?_⟩
    repeat walk_at "y"
    refine ⟨q, _, rfl, .inl (SqL.of upd_same), fun c hc => ?_⟩
    repeat walk_at "y"
    rename_i p hp
    refine k p c _ (fun b o e => upd_old hp (upd_old hc (upd_old hq e))) (free_upd (free_upd hp)) (free_upd hc) ⟨(ns.take 63), 0, 0, upd_same, upd_old hp ?_, by decide, by decide, by decide⟩
    rw [upd_same]
    have e : cutV (ns.map V.int) none (some 63) = (ns.take 63).map V.int := by
      unfold cutV
      have h1 : HT.sIx (ns.map V.int).length 0 none = 0 := rfl
      have h2 : HT.sIx (ns.map V.int).length (ns.map V.int).length (some 63) = min 63 (ns.map V.int).length := HT.sIx_nat _ _ 63
      rw [h1, h2, List.drop_zero, List.map_take, Nat.sub_zero]
      rw [← List.take_take, List.take_length]
    rw [e]
def spPick : Sp := fun vs H Q _ => ∃ (p c : Addr) (n : Nat) (v : V), vs = [.ref p, v] ∧ PenAt H p c n ∧ n ≤ 1000000 ∧
  ((∃ (l : Addr) (xs : List V), v = .ref l ∧ l ≠ p ∧ H l = some (.lst xs) ∧ 0 < xs.length ∧ xs.length ≤ 1000 ∧ ∀ (i : Nat) x H', xs[i]? = some x → PenAt H' p c (n + 1) → Kp p H H' → Q x H') ∨
   ∃ z : Str, v = .str z ∧ 0 < z.length ∧ z.length ≤ 1000 ∧ ∀ (i : Nat) j H', z.cps.toList[i]? = some j → PenAt H' p c (n + 1) → Kp p H H' → Q (.str ⟨#[j]⟩) H')
abbrev s_pick : Stmt := topS 12
theorem sc_pick : FnScope ["_law_pen_here", "_law_some"] ["_law_pen_here", "_law_some"] (defScope s_pick) := ⟨rfl, rfl, rfl, by decide +kernel, rfl, by decide +kernel, by decide +kernel⟩
theorem ok_pick {f : Addr} {fd : FuncData} (F : FnP K "_law_pick" s_pick f fd) (T : Top K mg) (F_law_draw : Fnc P w K mg base 1 "_law_draw" ["_law_pen_here", "_law_many"] spDraw) : FnOk P w K mg base (L2.CX P w) 2 f fd ["_law_pen_here", "_law_some"] spPick := by
  have nd := sc_pick.nd
  refine F.ok sc_pick (fun vs H Q E h => ?_) (fun cdv A outer s H vs Q E hr h => ?_)
  · obtain ⟨p, c, n, v, rfl, _⟩ := h
    rfl
  · obtain ⟨p, c, n, v, rfl, hP, hn, h⟩ := h
    refine ⟨_, PSs.nox (pss_one (ps_ret (pe_ix ix_seq (pv 1) (oc F_law_draw (hr.mono (by decide)) (pa_cons (pv 0) (pa_cons (pe_callB call_len (by rfl) T.n_len (by decide +kernel) (pa_cons (pv 1) pa_nil)) pa_nil))) (fun _ _ => rfl)))), ?_⟩
    rcases h with ⟨l, xs, rfl, nl, hl, h0, h1, k⟩ | ⟨z, rfl, h0, h1, k⟩
    · repeat walk_at "y"
      refine ⟨_, _, rfl, .inl ⟨xs, SqL.of hl, rfl⟩, ?_⟩
      repeat walk_at "y"
      refine ⟨p, c, n, _, rfl, hP, hn, by omega, ?_, fun r H1 r0 r1 P1 k1 => ?_⟩
      · exact Nat.lt_of_le_of_lt (show _ ≤ 1000 by omega) (by decide)
      · have hlt : r.toNat < xs.length := by omega
        exact .inl ⟨l, xs, r, xs[r.toNat]'hlt, rfl, rfl, SqL.of (k1 _ _ nl hl), ix_lt (j := r.toNat) (List.getElem?_eq_getElem hlt) (by omega), k r.toNat _ H1 (List.getElem?_eq_getElem hlt) P1 k1⟩
    · have hsz : z.length ≤ sizeLine := by rw [sizeLine_eq]; omega
      repeat walk_at "y"
      refine ⟨_, _, rfl, ⟨hsz, rfl⟩, ?_⟩
      repeat walk_at "y"
      refine ⟨p, c, n, _, rfl, hP, hn, by omega, ?_, fun r H1 r0 r1 P1 k1 => ?_⟩
      · exact Nat.lt_of_le_of_lt (show _ ≤ 1000 by omega) (by decide)
      · have hlen : z.cps.toList.length = z.length := by simp [Str.length]
        have hlt : r.toNat < z.cps.toList.length := by omega
        exact .inr (.inr ⟨z, r, z.cps.toList[r.toNat]'hlt, rfl, rfl, hsz, ix_ltN (j := r.toNat) (List.getElem?_eq_getElem hlt) (by omega), k r.toNat _ H1 (List.getElem?_eq_getElem hlt) P1 k1⟩)
end
end LW
set_option maxRecDepth 100000
namespace LW
open PySem PySem.Spec PyProof.Rows L2 OZ
local macro_rules | `(tactic| walk_at "hp") => `(tactic| first
  | assumption
  | exact upd_same
  | (refine upd_old ?_ ?_; (first | assumption | exact free_upd (by assumption)); walk_at "hp")
  | (refine upd_oth ?_ ?_; (first | assumption | exact Ne.symm (by assumption)); walk_at "hp"))
local macro_rules | `(tactic| walk_at "side") => `(tactic| first
  | assumption
  | decide
  | omega
  | exact ⟨by omega, by omega, by omega⟩
  | exact Or.inl ⟨by omega, by omega⟩
  | exact Or.inr ⟨by omega, by omega⟩
  | (show (_ : Int) ≠ 0; omega)
  | exact wide_div (b := 64) (by omega) (by omega) (by decide) (by decide)
  | exact wide_div (b := 4000) (by assumption) (by assumption) (by decide) (by decide))
local macro_rules | `(tactic| walk_at "y") => `(tactic| first
  | ((with_reducible refine y_var ?_); refine ⟨_, rfl, ?_⟩)
  | with_reducible refine y_c ?_
  | with_reducible refine y_op ?_
  | with_reducible refine y_cb ?_
  | with_reducible refine y_cons ?_
  | with_reducible refine y_nil ?_
  | with_reducible refine y_seq ?_
  | with_reducible refine y_asg ?_
  | with_reducible refine y_gn ?_
  | with_reducible refine y_gsub ?_
  | with_reducible refine y_ret ?_
  | with_reducible refine y_drop ?_
  | with_reducible refine y_next ?_
  | with_reducible refine y_ifS ?_
  | with_reducible refine y_test ?_
  | with_reducible refine y_B ?_
  | with_reducible refine y_ex ?_
  | with_reducible refine y_not ?_
  | with_reducible refine y_and ?_
  | with_reducible refine y_or ?_
  | with_reducible refine y_notV ?_
  | with_reducible refine y_andV ?_
  | with_reducible refine y_orV ?_
  | with_reducible refine y_ifE ?_
  | with_reducible refine y_un ?_
  | with_reducible refine y_par ?_
  | with_reducible refine y_ex2 ?_
  | with_reducible refine y_call ?_
  | with_reducible refine y_callS ?_
  | with_reducible refine y_I0 ?_
  | ((with_reducible refine y_I ?_ ?_); (walk_at "side"))
  | with_reducible refine y_U ?_
  | ((with_reducible refine y_eq ?_ ?_); (exact rfl))
  | ((with_reducible refine y_ne ?_ ?_); (exact rfl))
  | ((with_reducible refine' y_ixL ?k1 ?k2 ?k3); (case k1 => walk_at "hp"); (case k2 => exact rfl))
  | ((with_reducible refine' y_ixT ?k1 ?k2 ?k3); (case k1 => walk_at "hp"); (case k2 => exact rfl))
  | ((with_reducible refine' y_setL ?k1 ?k2 ?k3); (case k1 => walk_at "hp"); (case k2 => exact rfl))
  | with_reducible refine y_int ?_
  | with_reducible refine y_intB ?_
  | with_reducible refine y_abs ?_
  | ((with_reducible refine' y_lenL ?k1 ?k3); (case k1 => walk_at "hp"))
  | ((with_reducible refine' y_lenT ?k1 ?k3); (case k1 => walk_at "hp"))
  | ((with_reducible refine y_lenS ?_ ?_); (walk_at "side"))
  | with_reducible refine y_isN ?_
  | with_reducible refine y_notN ?_
  | ((with_reducible refine y_addS ?_ ?_); (walk_at "side"))
  | with_reducible refine y_inC ?_
  | with_reducible refine y_notInC ?_
  | with_reducible refine y_sl ?_
  | with_reducible refine y_part ?_
  | with_reducible refine y_nopart ?_
  | with_reducible refine y_exI ?_
  | ((with_reducible refine y_slS ?_ ?_); (walk_at "side"))
  | with_reducible refine y_lst ?_
  | with_reducible refine y_tup ?_
  | with_reducible refine y_chain ?_
  | with_reducible refine y_yes ?_
  | with_reducible refine y_att ?_
  | ((with_reducible refine y_disp ?_ ?_); (exact Nat.le_of_ble_eq_true rfl); (intro pp hpp))
  | ((with_reducible refine' y_gtup ?k1 ?k2 ?k3); (case k1 => walk_at "hp"); (case k2 => exact rfl))
  | with_reducible refine y_gcons ?_
  | with_reducible refine y_gnil ?_
  | with_reducible refine y_mkO ?_
  | with_reducible refine y_callKw ?_
  | with_reducible refine y_iteT ?_
  | with_reducible refine y_iteF ?_
  | with_reducible refine y_iteNT ?_
  | with_reducible refine y_iteNF ?_
  | ((with_reducible refine y_iteY ?_ ?_); (first | exact rfl | assumption | omega))
  | ((with_reducible refine y_iteX ?_ ?_); (first | focus (intro zz; cases zz; done) | assumption | omega))
  | ((with_reducible refine y_iteNY ?_ ?_); (first | exact rfl | assumption | omega))
  | ((with_reducible refine y_iteNX ?_ ?_); (first | focus (intro zz; cases zz; done) | assumption | omega))
  | ((with_reducible refine y_ite ?_ ?_) <;> intro hh)
  | ((with_reducible refine y_iteN ?_ ?_) <;> intro hh)
  | dsimp only)
section
variable {P : Program} {w : World} {K : PySem.W.Frag} {mg : Str → Option Value} {base : Heap}
def Lett (x : Str) : Prop := ∀ c ∈ x.cps.toList, c ∈ LET.cps.toList
def spWord : Sp := fun vs H Q _ => ∃ (p c : Addr) (n m : Nat), vs = [.ref p, .int (m : Int)] ∧ PenAt H p c n ∧ n + m ≤ 1000000 ∧ m ≤ 100 ∧
  ∀ (x : Str) H', x.length = m → Lett x → PenAt H' p c (n + m) → Kp p H H' → Q (.str x) H'
theorem join_nil (ys : List Str) : (Txt.join "" ys).cps.toList = (ys.map fun y => y.cps.toList).flatten := by
  rw [TL.join_eq]
  induction ys with
  | nil => rfl
  | cons y r ih =>
    cases r with
    | nil => simp [Str.join]
    | cons z r =>
      have e : Str.join "" (y :: z :: r) = y ++ ("" : Str) ++ Str.join "" (z :: r) := rfl
      rw [e]
      have h2 : ∀ a b : Str, (a ++ b).cps.toList = a.cps.toList ++ b.cps.toList := fun a b => by
        show (a.cps ++ b.cps).toList = _
        rw [Array.toList_append]
      rw [h2, h2, ih]
      have h3 : (("" : Str)).cps.toList = [] := rfl
      rw [h3]
      simp
abbrev s_word : Stmt := topS 13
theorem sc_word : FnScope ["_law_pen_here", "_law_many", "_law_turn"] ["_law_pen_here", "_law_many"] (defScope s_word) := ⟨rfl, rfl, rfl, by decide +kernel, rfl, by decide +kernel, by decide +kernel⟩
theorem ok_word {f : Addr} {fd : FuncData} (F : FnP K "_law_word" s_word f fd) (T : Top K mg) (F_law_pick : Fnc P w K mg base 2 "_law_pick" ["_law_pen_here", "_law_some"] spPick) : FnOk P w K mg base (L2.CX P w) 3 f fd ["_law_pen_here", "_law_many"] spWord := by
  have nd := sc_word.nd
  refine F.ok sc_word (fun vs H Q E h => ?_) (fun cdv A outer s H vs Q E hr h => ?_)
  · obtain ⟨p, c, n, m, rfl, _⟩ := h
    rfl
  · obtain ⟨p, c, n, m, rfl, hP, hn, hm, k⟩ := h
    refine ⟨_, PSs.nox (pss_one (ps_ret (pe_join pe_str (pe_lc (own := [("_law_turn", 2)]) (g := gName 2) rfl nd (pi_range1 (by rfl) T.n_range (pa_cons (pv 1) pa_nil)) (blkOk_by (N := ["_law_pen_here", "_law_many", "_law_turn"]) (sc := defScope (topS 13)) (by decide +kernel)) (fun _ _ _ _ _ => (pg_name (i := 2) nd rfl (Or.inl rfl))) (fun _ _ _ _ _ => pts_nil) (fun _ _ _ _ _ => (oc F_law_pick (hr.mono (by decide)) (pa_cons (pv 0) (pa_cons pe_str pa_nil)))))))), ?_⟩
    repeat walk_at "y"
    refine ⟨⟨_, rfl⟩, ?_⟩
    refine ⟨_, rfl, (m : Int), rfl, by omega, by omega, fun D hD => ?_⟩
    have nDp := hP.p_ne hD
    have nDc := hP.c_ne hD
    rw [show (m : Int).toNat = m by omega]
    refine lc_range (lo := 0) (n := m) (fun i H1 => PenAt H1 p c (n + i) ∧ Kp p H H1 ∧ ∃ cs : List Nat, cs.length = i ∧ (∀ c ∈ cs, c ∈ LET.cps.toList) ∧ H1 D = some (.lst (cs.map fun c => V.str ⟨#[c]⟩))) ?_ ?_ ?_
    · exact ⟨hP.new hD, Kp.new hD, [], rfl, by simp, upd_same⟩
    · rintro i H1 hi ⟨P1, k1, cs, hl, hcs, hD1⟩
      refine ⟨rfl, ?_⟩
      repeat walk_at "y"
      refine ⟨p, c, n + i, _, rfl, P1, by omega, .inr ⟨LET, rfl, by decide, by decide, fun j u H2 hj P2 k2 => ?_⟩⟩
      have hD2 := k2 D _ nDp hD1
      refine ⟨_, hD2, ?_, ?_⟩
      · rw [List.length_map, sizeLine_eq]; omega
      · refine ⟨P2.oth nDp nDc, ?_, cs ++ [u], by simp [hl], ?_, ?_⟩
        · exact fun a o na e => upd_oth (fun z => by rw [z, hD] at e; cases e) (k2 a o na (k1 a o na e))
        · intro c2 hc2
          rcases List.mem_append.mp hc2 with h | h
          · exact hcs c2 h
          · rw [List.mem_singleton.mp h]; exact List.mem_of_getElem? hj
        · rw [upd_same, List.map_append]; rfl
    · rintro H1 ⟨P1, k1, cs, hl, hcs, hD1⟩
      refine ⟨_, D, cs.map fun c => (⟨#[c]⟩ : Str), rfl, rfl, .inl (SqL.of ?_), ?_, ?_⟩
      · rw [hD1, List.map_map]; rfl
      · have h1 : ((cs.map fun c => (⟨#[c]⟩ : Str)).map (·.length)).sum = cs.length := by
          rw [List.map_map]
          clear hl hcs hD1
          induction cs with
          | nil => rfl
          | cons c r ih => rw [List.map_cons, List.sum_cons, ih]; show 1 + r.length = r.length + 1; omega
        have h2 : (("" : Str)).length = 0 := rfl
        rw [h1, h2]
        omega
      · have e : (Txt.join "" (cs.map fun c => (⟨#[c]⟩ : Str))).cps.toList = cs := by
          rw [join_nil, List.map_map]
          clear hl hcs hD1
          induction cs with
          | nil => rfl
          | cons c r ih => rw [List.map_cons, List.flatten_cons, ih]; rfl
        refine k _ H1 ?_ (fun c hc => hcs c (by rw [e] at hc; exact hc)) P1 k1
        have : (Txt.join "" (cs.map fun c => (⟨#[c]⟩ : Str))).cps.toList.length = m := by rw [e, hl]
        simpa [Str.length] using this
end
end LW
set_option maxRecDepth 100000
namespace LW
open PySem PySem.Spec PyProof.Rows L2 OZ
local macro_rules | `(tactic| walk_at "hp") => `(tactic| first
  | assumption
  | exact upd_same
  | (refine upd_old ?_ ?_; (first | assumption | exact free_upd (by assumption)); walk_at "hp")
  | (refine upd_oth ?_ ?_; (first | assumption | exact Ne.symm (by assumption)); walk_at "hp"))
local macro_rules | `(tactic| walk_at "side") => `(tactic| first
  | assumption
  | decide
  | omega
  | exact ⟨by omega, by omega, by omega⟩
  | exact Or.inl ⟨by omega, by omega⟩
  | exact Or.inr ⟨by omega, by omega⟩
  | (show (_ : Int) ≠ 0; omega)
  | exact wide_div (b := 64) (by omega) (by omega) (by decide) (by decide)
  | exact wide_div (b := 4000) (by assumption) (by assumption) (by decide) (by decide))
local macro_rules | `(tactic| walk_at "y") => `(tactic| first
  | ((with_reducible refine y_var ?_); refine ⟨_, rfl, ?_⟩)
  | with_reducible refine y_c ?_
  | with_reducible refine y_op ?_
  | with_reducible refine y_cb ?_
  | with_reducible refine y_cons ?_
  | with_reducible refine y_nil ?_
  | with_reducible refine y_seq ?_
  | with_reducible refine y_asg ?_
  | with_reducible refine y_gn ?_
  | with_reducible refine y_gsub ?_
  | with_reducible refine y_ret ?_
  | with_reducible refine y_drop ?_
  | with_reducible refine y_next ?_
  | with_reducible refine y_ifS ?_
  | with_reducible refine y_test ?_
  | with_reducible refine y_B ?_
  | with_reducible refine y_ex ?_
  | with_reducible refine y_not ?_
  | with_reducible refine y_and ?_
  | with_reducible refine y_or ?_
  | with_reducible refine y_notV ?_
  | with_reducible refine y_andV ?_
  | with_reducible refine y_orV ?_
  | with_reducible refine y_ifE ?_
  | with_reducible refine y_un ?_
  | with_reducible refine y_par ?_
  | with_reducible refine y_ex2 ?_
  | with_reducible refine y_call ?_
  | with_reducible refine y_callS ?_
  | with_reducible refine y_I0 ?_
  | ((with_reducible refine y_I ?_ ?_); (walk_at "side"))
  | with_reducible refine y_U ?_
  | ((with_reducible refine y_eq ?_ ?_); (exact rfl))
  | ((with_reducible refine y_ne ?_ ?_); (exact rfl))
  | ((with_reducible refine' y_ixL ?k1 ?k2 ?k3); (case k1 => walk_at "hp"); (case k2 => exact rfl))
  | ((with_reducible refine' y_ixT ?k1 ?k2 ?k3); (case k1 => walk_at "hp"); (case k2 => exact rfl))
  | ((with_reducible refine' y_setL ?k1 ?k2 ?k3); (case k1 => walk_at "hp"); (case k2 => exact rfl))
  | with_reducible refine y_int ?_
  | with_reducible refine y_intB ?_
  | with_reducible refine y_abs ?_
  | ((with_reducible refine' y_lenL ?k1 ?k3); (case k1 => walk_at "hp"))
  | ((with_reducible refine' y_lenT ?k1 ?k3); (case k1 => walk_at "hp"))
  | ((with_reducible refine y_lenS ?_ ?_); (walk_at "side"))
  | with_reducible refine y_isN ?_
  | with_reducible refine y_notN ?_
  | ((with_reducible refine y_addS ?_ ?_); (walk_at "side"))
  | with_reducible refine y_inC ?_
  | with_reducible refine y_notInC ?_
  | with_reducible refine y_sl ?_
  | with_reducible refine y_part ?_
  | with_reducible refine y_nopart ?_
  | with_reducible refine y_exI ?_
  | ((with_reducible refine y_slS ?_ ?_); (walk_at "side"))
  | with_reducible refine y_lst ?_
  | with_reducible refine y_tup ?_
  | with_reducible refine y_chain ?_
  | with_reducible refine y_yes ?_
  | with_reducible refine y_att ?_
  | ((with_reducible refine y_disp ?_ ?_); (exact Nat.le_of_ble_eq_true rfl); (intro pp hpp))
  | ((with_reducible refine' y_gtup ?k1 ?k2 ?k3); (case k1 => walk_at "hp"); (case k2 => exact rfl))
  | with_reducible refine y_gcons ?_
  | with_reducible refine y_gnil ?_
  | with_reducible refine y_mkO ?_
  | with_reducible refine y_callKw ?_
  | with_reducible refine y_iteT ?_
  | with_reducible refine y_iteF ?_
  | with_reducible refine y_iteNT ?_
  | with_reducible refine y_iteNF ?_
  | ((with_reducible refine y_iteY ?_ ?_); (first | exact rfl | assumption | omega))
  | ((with_reducible refine y_iteX ?_ ?_); (first | focus (intro zz; cases zz; done) | assumption | omega))
  | ((with_reducible refine y_iteNY ?_ ?_); (first | exact rfl | assumption | omega))
  | ((with_reducible refine y_iteNX ?_ ?_); (first | focus (intro zz; cases zz; done) | assumption | omega))
  | ((with_reducible refine y_ite ?_ ?_) <;> intro hh)
  | ((with_reducible refine y_iteN ?_ ?_) <;> intro hh)
  | dsimp only)
section
variable {P : Program} {w : World} {K : PySem.W.Frag} {mg : Str → Option Value} {base : Heap}
structure TopX (K : PySem.W.Frag) (mg : Str → Option Value) (C O : Addr) : Prop where
  g_BadName : mg "BadName" = some (.ref C)
  g_OwnError : mg "OwnError" = some (.ref O)
  sm : ∃ o, K.lookup sysModules = some o
  n_isinstance : mg "isinstance" = none
  n_repr : mg "repr" = none
  xc : XC K C
  na : NoAttr K C "value"
  ex : PySem.W.exmOne K (.ref C) (.ref O) = some true
  kit : PySem.W.kitOne K (.ref C) (.ref C) = some true
def spHeard : Sp := fun vs H Q _ => ∃ (p : Addr) (v : V) (d : PyData), vs = [v] ∧ Dq p H v d ∧ (∀ x, d = .str x → x.length ≤ 10000) ∧ (nameD d = true → ∀ H', Same H H' → Q .non H') ∧
  (nameD d = false → ∀ H' l, Same H H' → H l = none → H' l = some (.lst [v]) → Q (.ref l) H')
abbrev s_heard : Stmt := topS 14
theorem sc_heard : FnScope ["_law_thing", "_law_caught", "_law_found", "error"] ["_law_thing"] (defScope s_heard) := ⟨rfl, rfl, rfl, by decide +kernel, rfl, by decide +kernel, by decide +kernel⟩
theorem ok_heard {f C O : Addr} {fd : FuncData} (F : FnP K "_law_heard" s_heard f fd) (T : TopX K mg C O) (Fneed_name : Fnc P w K mg base 3 "need_name" ["value"] (spNeed C)) (Kneed_name : FncK P w K mg base 3 "need_name" ["value"] ["value"] (fun _ zs => zs) (spNeed C)) :
    FnOk P w K mg base (L2.CX P w) 5 f fd ["_law_thing"] spHeard := by
  have nd := sc_heard.nd
  refine F.ok sc_heard (fun vs H Q E h => ?_) (fun cdv A outer s H vs Q E hr h => ?_)
  · obtain ⟨p, v, d, rfl, _⟩ := h
    rfl
  · obtain ⟨p, v, d, rfl, hd, hz, k1, k2⟩ := h
    have hu64 := hr.units
    refine ⟨_, PSs.nox (pss_cons (ps_asg (pe_tup (pa_cons pe_non (pa_cons pe_non pa_nil))) (pg_tup rfl (pgs_cons (pg_name (i := 1) nd rfl (Or.inl rfl)) (pgs_cons (pg_name (i := 2) nd rfl (Or.inl rfl)) pgs_nil))))
      (pss_cons (ps_try_keep (i := 3) rfl rfl rfl nd rfl rfl ⟨rfl, by decide, Or.inl T.g_OwnError⟩ takes0
        (fun W pn xe tk _ => (pss_one (ps_set (i := 2) nd rfl (Or.inl rfl) (pe_lst (pa_cons (ocX Fneed_name (hr.mono (by decide)) tk (pa_cons (pv 0) pa_nil)) (pa_cons (ock0X Kneed_name (hr.mono (by decide)) tk  (pk_cons (pv 0) pk_nil)) pa_nil))))))
        (fun a oe cls d pn hz hf => (pss_one (ps_set (i := 1) nd rfl (Or.inl rfl) (pv 3)))))
      (pss_cons (ps_if (pt_cmpR o_isN (pv 1) pe_non (nomark _))
        (pss_one (ps_ret (pe_ifExp (pt_cmpR (op_eqD hu64) (pv 2) (pe_lst (pa_cons pe_non (pa_cons pe_non pa_nil))) (nomark _)) pe_non pe_str)))
        pss_nil)
      (pss_one (ps_ret (pe_ifExp (pt_val (pe_callB c_isA (by rfl) T.n_isinstance (by decide +kernel) (pa_cons (pv 1) (pa_cons (og_ref T.g_BadName) pa_nil)))) (pe_lst (pa_cons (pe_att (pv 1)) pa_nil)) pe_str)))))), ?_⟩
    repeat walk_at "y"
    rename_i q hq
    have s0 : Same H (upd H q (.tup [.non, .non])) := fun b o e => upd_old hq e
    have hd0 := hd.kp (Kp.of (p := p) s0)
    have dead : ∀ {H1 : Hp}, Same H H1 → Dq p H1 v d := fun s => hd.kp (Kp.of s)
    refine ⟨p, v, d, rfl, hd0, hz, fun hy H1 s1 => ?_, fun hn H1 dd s1 hdd hx => ?_⟩
    · repeat walk_at "y"
      refine ⟨rfl, p, v, d, rfl, dead (s0.trans s1), hz, fun _ H2 s2 => ?_, fun hn => absurd hy (by rw [hn]; decide)⟩
      repeat walk_at "y"
      rename_i l hl l2 hl2
      refine ⟨_, _, .lst (SqL.of (upd_old hl2 upd_same)) (.cons .non (.cons .non .nil)), .lst (SqL.of upd_same) (.cons .non (.cons .non .nil)), rfl, rfl, ?_⟩
      repeat walk_at "y"
      exact k1 hy _ (fun b o e => upd_old hl2 (upd_old hl (s2 b o (s1 b o (s0 b o e)))))
    · refine ⟨true, T.ex, fun _ a ha => ?_, fun z => by cases z⟩
      repeat walk_at "y"
      have s2 : Same H (upd H1 a (exk a (.ref C) (some dd))) := fun b o e => upd_old ha (s1 b o (s0 b o e))
      have hx2 : (upd H1 a (exk a (.ref C) (some dd))) dd = some (.xd [("value", v)]) := upd_old ha hx
      refine .inr ⟨a, C, _, _, _, true, rfl, .inl ⟨dd, upd_same, hx2⟩, T.xc, .own C, T.kit, ?_⟩
      repeat walk_at "y"
      refine y_attX (.inl ⟨dd, upd_same, hx2⟩) T.xc T.na rfl ?_
      repeat walk_at "y"
      rename_i l hl
      exact k2 hn _ l (fun b o e => upd_old hl (s2 b o e)) (s2.free hl) upd_same
def spRight : Sp := fun vs H Q _ => ∃ (p : Addr) (v : V) (d : PyData), vs = [v, .bl (nameD d)] ∧ Dq p H v d ∧ (∃ o, H p = some o) ∧ (∀ x, d = .str x → x.length ≤ 10000) ∧ Fit d 10 5000 ∧ ∀ H', Same H H' → Q (.bl true) H'
theorem fit_list1 {d : PyData} (h : Fit d 10 5000) : Fit (.list [d]) 20 10000 := by
  obtain ⟨h1, h2, h3, h4⟩ := h
  refine ⟨?_, ?_, ?_, ?_⟩
  · simp [PyData.showable, PyData.showableAll, h1]
  · simp [PyData.leavesShort, PyData.leavesShortAll, h2]
  · simp [PyData.depth, PyData.depthAll]; omega
  · simp [PyData.weight, PyData.weightAll]; omega
theorem fit_bools (a b : Bool) : Fit (.list [.bool a, .bool b]) 20 10000 := by
  refine ⟨rfl, rfl, ?_, ?_⟩
  · simp [PyData.depth, PyData.depthAll]
  · simp [PyData.weight, PyData.weightAll]
abbrev s_right : Stmt := topS 15
theorem sc_right : FnScope ["_law_thing", "_law_fact"] ["_law_thing", "_law_fact"] (defScope s_right) := ⟨rfl, rfl, rfl, by decide +kernel, rfl, by decide +kernel, by decide +kernel⟩
theorem ok_right {f C O : Addr} {fd : FuncData} (F : FnP K "_law_right" s_right f fd) (T : TopX K mg C O) (Fis_name : Fnc P w K mg base 1 "is_name" ["value"] spIsN) (Kis_name : FncK P w K mg base 1 "is_name" ["value"] ["value"] (fun _ zs => zs) spIsN)
    (F_law_heard : Fnc P w K mg base 5 "_law_heard" ["_law_thing"] spHeard) : FnG P w K mg base 6 f fd ["_law_thing", "_law_fact"] spRight := by
  have nd := sc_right.nd
  refine fnG_of F sc_right (fun vs H Q E h => ?_) (fun cdv A outer s H vs Q E hr gd h => ?_)
  · obtain ⟨p, v, d, rfl, _⟩ := h
    rfl
  · obtain ⟨p, v, d, rfl, hd, ⟨o, hp⟩, hz, hf, k⟩ := h
    refine ⟨_, PSs.nox (pss_cons (ps_if (pt_cmpR op_ne (pe_callB (c_repr (p := p) gd hr T.sm) (by rfl) T.n_repr (by decide +kernel) (pa_cons (pe_lst (pa_cons (oc Fis_name (hr.mono (by decide)) (pa_cons (pv 0) pa_nil)) (pa_cons (ock0 Kis_name (hr.mono (by decide))  (pk_cons (pv 0) pk_nil)) pa_nil))) pa_nil)) (pe_callB (c_repr (p := p) gd hr T.sm) (by rfl) T.n_repr (by decide +kernel) (pa_cons (pe_lst (pa_cons (pv 1) (pa_cons (pv 1) pa_nil))) pa_nil)) (nomark _))
        (pss_one (ps_ret pe_bl))
        pss_nil)
      (pss_one (ps_ret (pe_cmpR op_eq (pe_callB (c_repr (p := p) gd hr T.sm) (by rfl) T.n_repr (by decide +kernel) (pa_cons (oc F_law_heard (hr.mono (by decide)) (pa_cons (pv 0) pa_nil)) pa_nil)) (pe_callB (c_repr (p := p) gd hr T.sm) (by rfl) T.n_repr (by decide +kernel) (pa_cons (pe_ifExp (pt_val (pv 1)) pe_non (pe_lst (pa_cons (pv 0) pa_nil))) pa_nil)) (nomark _))))), ?_⟩
    have dead : ∀ {H1 : Hp}, Same H H1 → Dq p H1 v d := fun s => hd.kp (Kp.of s)
    repeat walk_at "y"
    refine ⟨p, v, d, rfl, hd, hz, fun H1 s1 => ?_⟩
    repeat walk_at "y"
    refine ⟨rfl, p, v, d, rfl, dead s1, hz, fun H2 s2 => ?_⟩
    repeat walk_at "y"
    rename_i l hl
    have s12 := s1.trans s2
    have nl : l ≠ p := Ne.symm (ne_of_none (s12 _ _ hp) hl)
    have s3 : Same H (upd H2 l (.lst [.bl (nameD d), .bl (nameD d)])) := fun b o e => upd_old hl (s12 b o e)
    refine ⟨_, _, rfl, .lst nl upd_same (.cons (.bl _) (.cons (.bl _) .nil)), fit_bools _ _, ?_⟩
    repeat walk_at "y"
    rename_i l2 hl2
    have nl2 : l2 ≠ p := Ne.symm (ne_of_none (s3 _ _ hp) hl2)
    refine ⟨_, _, rfl, .lst nl2 upd_same (.cons (.bl _) (.cons (.bl _) .nil)), fit_bools _ _, ?_⟩
    repeat walk_at "y"
    have s4 : Same H (upd (upd H2 l (.lst [.bl (nameD d), .bl (nameD d)])) l2 (.lst [.bl (nameD d), .bl (nameD d)])) := fun b o e => upd_old hl2 (s3 b o e)
    generalize (upd (upd H2 l (.lst [.bl (nameD d), .bl (nameD d)])) l2 (.lst [.bl (nameD d), .bl (nameD d)])) = H4 at s4 ⊢
    refine ⟨p, v, d, rfl, dead s4, hz, fun hy H5 s5 => ?_, fun hn H5 l5 s5 hl5 hx5 => ?_⟩
    · refine ⟨_, _, rfl, .non, ⟨rfl, rfl, by decide, by decide⟩, ?_⟩
      rw [hy]
      repeat walk_at "y"
      refine ⟨_, _, rfl, .non, ⟨rfl, rfl, by decide, by decide⟩, ?_⟩
      repeat walk_at "y"
      rw [decide_eq_true rfl]
      exact k H5 (s4.trans s5)
    · have n5 : l5 ≠ p := Ne.symm (ne_of_none (s4 _ _ hp) hl5)
      have s45 := s4.trans s5
      refine ⟨_, _, rfl, .lst n5 hx5 (.cons (dead s45) .nil), fit_list1 hf, ?_⟩
      rw [hn]
      repeat walk_at "y"
      rename_i l6 hl6
      have n6 : l6 ≠ p := Ne.symm (ne_of_none (s45 _ _ hp) hl6)
      have s6 : Same H (upd H5 l6 (.lst [v])) := fun b o e => upd_old hl6 (s45 b o e)
      refine ⟨_, _, rfl, .lst n6 upd_same (.cons (dead s6) .nil), fit_list1 hf, ?_⟩
      repeat walk_at "y"
      rw [decide_eq_true rfl]
      exact k _ s6
end
end LW
set_option maxRecDepth 100000
namespace LW
open PySem PySem.Spec PyProof.Rows L2 OZ
local macro_rules | `(tactic| walk_at "hp") => `(tactic| first
  | assumption
  | exact upd_same
  | (refine upd_old ?_ ?_; (first | assumption | exact free_upd (by assumption)); walk_at "hp")
  | (refine upd_oth ?_ ?_; (first | assumption | exact Ne.symm (by assumption)); walk_at "hp"))
local macro_rules | `(tactic| walk_at "side") => `(tactic| first
  | assumption
  | decide
  | omega
  | exact ⟨by omega, by omega, by omega⟩
  | exact Or.inl ⟨by omega, by omega⟩
  | exact Or.inr ⟨by omega, by omega⟩
  | (show (_ : Int) ≠ 0; omega)
  | exact wide_div (b := 64) (by omega) (by omega) (by decide) (by decide)
  | exact wide_div (b := 4000) (by assumption) (by assumption) (by decide) (by decide))
local macro_rules | `(tactic| walk_at "y") => `(tactic| first
  | ((with_reducible refine y_var ?_); refine ⟨_, rfl, ?_⟩)
  | with_reducible refine y_c ?_
  | with_reducible refine y_op ?_
  | with_reducible refine y_cb ?_
  | with_reducible refine y_cons ?_
  | with_reducible refine y_nil ?_
  | with_reducible refine y_seq ?_
  | with_reducible refine y_asg ?_
  | with_reducible refine y_gn ?_
  | with_reducible refine y_gsub ?_
  | with_reducible refine y_ret ?_
  | with_reducible refine y_drop ?_
  | with_reducible refine y_next ?_
  | with_reducible refine y_ifS ?_
  | with_reducible refine y_test ?_
  | with_reducible refine y_B ?_
  | with_reducible refine y_ex ?_
  | with_reducible refine y_not ?_
  | with_reducible refine y_and ?_
  | with_reducible refine y_or ?_
  | with_reducible refine y_notV ?_
  | with_reducible refine y_andV ?_
  | with_reducible refine y_orV ?_
  | with_reducible refine y_ifE ?_
  | with_reducible refine y_un ?_
  | with_reducible refine y_par ?_
  | with_reducible refine y_ex2 ?_
  | with_reducible refine y_call ?_
  | with_reducible refine y_callS ?_
  | with_reducible refine y_I0 ?_
  | ((with_reducible refine y_I ?_ ?_); (walk_at "side"))
  | with_reducible refine y_U ?_
  | ((with_reducible refine y_eq ?_ ?_); (exact rfl))
  | ((with_reducible refine y_ne ?_ ?_); (exact rfl))
  | ((with_reducible refine' y_ixL ?k1 ?k2 ?k3); (case k1 => walk_at "hp"); (case k2 => exact rfl))
  | ((with_reducible refine' y_ixT ?k1 ?k2 ?k3); (case k1 => walk_at "hp"); (case k2 => exact rfl))
  | ((with_reducible refine' y_setL ?k1 ?k2 ?k3); (case k1 => walk_at "hp"); (case k2 => exact rfl))
  | with_reducible refine y_int ?_
  | with_reducible refine y_intB ?_
  | with_reducible refine y_abs ?_
  | ((with_reducible refine' y_lenL ?k1 ?k3); (case k1 => walk_at "hp"))
  | ((with_reducible refine' y_lenT ?k1 ?k3); (case k1 => walk_at "hp"))
  | ((with_reducible refine y_lenS ?_ ?_); (walk_at "side"))
  | with_reducible refine y_isN ?_
  | with_reducible refine y_notN ?_
  | ((with_reducible refine y_addS ?_ ?_); (walk_at "side"))
  | with_reducible refine y_inC ?_
  | with_reducible refine y_notInC ?_
  | with_reducible refine y_sl ?_
  | with_reducible refine y_part ?_
  | with_reducible refine y_nopart ?_
  | with_reducible refine y_exI ?_
  | ((with_reducible refine y_slS ?_ ?_); (walk_at "side"))
  | with_reducible refine y_lst ?_
  | with_reducible refine y_tup ?_
  | with_reducible refine y_chain ?_
  | with_reducible refine y_yes ?_
  | with_reducible refine y_att ?_
  | ((with_reducible refine y_disp ?_ ?_); (exact Nat.le_of_ble_eq_true rfl); (intro pp hpp))
  | ((with_reducible refine' y_gtup ?k1 ?k2 ?k3); (case k1 => walk_at "hp"); (case k2 => exact rfl))
  | with_reducible refine y_gcons ?_
  | with_reducible refine y_gnil ?_
  | with_reducible refine y_mkO ?_
  | with_reducible refine y_callKw ?_
  | with_reducible refine y_iteT ?_
  | with_reducible refine y_iteF ?_
  | with_reducible refine y_iteNT ?_
  | with_reducible refine y_iteNF ?_
  | ((with_reducible refine y_iteY ?_ ?_); (first | exact rfl | assumption | omega))
  | ((with_reducible refine y_iteX ?_ ?_); (first | focus (intro zz; cases zz; done) | assumption | omega))
  | ((with_reducible refine y_iteNY ?_ ?_); (first | exact rfl | assumption | omega))
  | ((with_reducible refine y_iteNX ?_ ?_); (first | focus (intro zz; cases zz; done) | assumption | omega))
  | ((with_reducible refine y_ite ?_ ?_) <;> intro hh)
  | ((with_reducible refine y_iteN ?_ ?_) <;> intro hh)
  | dsimp only)
section
variable {P : Program} {w : World} {K : PySem.W.Frag} {mg : Str → Option Value} {base : Heap}
theorem len_list (x : Str) : x.cps.toList.length = x.length := by simp [Str.length]
theorem nm_no {x : Str} {c : Nat} (h : c ∈ x.cps.toList) (h2 : c ∉ LET.cps.toList) : isNm x = false := by
  have : (x.cps.toList.all fun c => decide (c ∈ LET.cps.toList)) = false := by
    rw [List.all_eq_false]
    exact ⟨c, h, by simpa using h2⟩
  simp only [isNm, this, Bool.and_false]
theorem nm_long {x : Str} (h : 8 < x.length) : isNm x = false := by
  simp only [isNm]
  rw [decide_eq_false (show ¬ x.length ≤ 8 by omega)]
  simp
theorem nm_yes {x : Str} (h1 : 1 ≤ x.length) (h8 : x.length ≤ 8) (hl : Lett x) : isNm x = true := by
  simp only [isNm]
  rw [decide_eq_true h1, decide_eq_true h8]
  rw [Bool.true_and, Bool.true_and, List.all_eq_true]
  exact fun c hc => decide_eq_true (hl c hc)
theorem let_lt : ∀ c ∈ LET.cps.toList, c < 16 ^ 8 := by decide +kernel
theorem app_list (a b : Str) : (a ++ b).cps.toList = a.cps.toList ++ b.cps.toList := by
  show (a.cps ++ b.cps).toList = _
  rw [Array.toList_append]
theorem cut_mem {z : Str} {lo hi : Option Int} {c : Nat} (h : c ∈ (cutS z lo hi).cps.toList) : c ∈ z.cps.toList := by
  unfold cutS at h
  exact List.mem_of_mem_drop (List.mem_of_mem_take h)
theorem cut_len (z : Str) (lo hi : Option Int) : (cutS z lo hi).length ≤ z.length := by
  rw [← len_list, ← len_list]
  unfold cutS
  simp only [List.length_take, List.length_drop]
  omega
theorem app_len (a b : Str) : (a ++ b).length = a.length + b.length := by rw [← len_list, app_list, List.length_append, len_list, len_list]
theorem fit_str {z : Str} (hl : z.length ≤ 1000) (h : ∀ c ∈ z.cps.toList, c < 16 ^ 8) : Fit (.str z) 10 5000 := by
  refine ⟨rfl, ?_, by simp [PyData.depth], ?_⟩
  · simp only [PyData.leavesShort, List.all_eq_true, decide_eq_true_eq]; exact h
  · simp only [PyData.weight]; have := len_list z; simp only [Array.length_toList] at this; omega
theorem spoilt {x s : Str} {lo hi : Option Int} {c : Nat} (hs : s = ⟨#[c]⟩) (hc : c ∉ LET.cps.toList) (hc2 : c < 16 ^ 8) (hx : Lett x) (hl : x.length ≤ 8) :
    isNm (cutS x none lo ++ s ++ cutS x hi none) = false ∧ Fit (.str (cutS x none lo ++ s ++ cutS x hi none)) 10 5000 ∧ (cutS x none lo ++ s ++ cutS x hi none).length ≤ 17 := by
  have h1 := cut_len x none lo
  have h2 := cut_len x hi none
  have hl2 : s.length = 1 := by rw [hs]; rfl
  have hlen : (cutS x none lo ++ s ++ cutS x hi none).length ≤ 17 := by rw [app_len, app_len]; omega
  refine ⟨nm_no (c := c) ?_ hc, fit_str (by omega) ?_, hlen⟩
  · rw [app_list, app_list, hs]; simp
  · intro d hd
    rw [app_list, app_list] at hd
    rcases List.mem_append.mp hd with hd | hd
    · rcases List.mem_append.mp hd with hd | hd
      · exact let_lt d (hx d (cut_mem hd))
      · rw [hs] at hd
        have : d = c := by simpa using hd
        rw [this]; exact hc2
    · exact let_lt d (hx d (cut_mem hd))
theorem fit_of1 {x : Str} {d : PyData} (h : Fit (.str x) 0 8) (e : d = .tuple [.str x] ∨ d = .list [.str x] ∨ d = .dict [(.str x, .int 1)]) : Fit d 10 5000 := by
  obtain ⟨h1, h2, h3, h4⟩ := h
  have i1 : PyData.leavesShort 1000 (.int 1) = true := by decide +kernel
  have i2 : PyData.showable (.int 1) = true := by decide
  rcases e with rfl | rfl | rfl
  · refine ⟨?_, ?_, ?_, ?_⟩
    · simp [PyData.showable, PyData.showableAll]
    · simp [PyData.leavesShort, PyData.leavesShortAll] at h2 ⊢; exact h2
    · simp [PyData.depth, PyData.depthAll]
    · simp [PyData.weight, PyData.weightAll] at h4 ⊢; omega
  · refine ⟨?_, ?_, ?_, ?_⟩
    · simp [PyData.showable, PyData.showableAll]
    · simp [PyData.leavesShort, PyData.leavesShortAll] at h2 ⊢; exact h2
    · simp [PyData.depth, PyData.depthAll]
    · simp [PyData.weight, PyData.weightAll] at h4 ⊢; omega
  · refine ⟨?_, ?_, ?_, ?_⟩
    · simp only [PyData.showable, PyData.showableKv, i2]; rfl
    · have e2 : PyData.leavesShort 1000 (.dict [(.str x, .int 1)]) = (PyData.leavesShort 1000 (.str x) && PyData.leavesShort 1000 (.int 1) && true) := rfl
      rw [e2, h2, i1]; rfl
    · simp [PyData.depth, PyData.depthKv]
    · simp [PyData.weight, PyData.weightKv] at h4 ⊢; have l1 : Nat.log2 1 = 0 := by decide +kernel
      omega
def signs : List V := [.str "A", .str "Z", .str "0", .str "5", .str "_", .str "-", .str " ", .str "/", .str ":", .str "`", .str "{", .str "\n", .str "~"]
theorem sign_of {j : Nat} {x : V} (h : signs[j]? = some x) : ∃ (s : Str) (c : Nat), x = .str s ∧ s = ⟨#[c]⟩ ∧ c ∉ LET.cps.toList ∧ c < 16 ^ 8 := by
  have m := List.mem_of_getElem? h
  simp only [signs, List.mem_cons, List.not_mem_nil, or_false] at m
  rcases m with rfl | rfl | rfl | rfl | rfl | rfl | rfl | rfl | rfl | rfl | rfl | rfl | rfl
  all_goals exact ⟨_, _, rfl, rfl, by decide +kernel, by decide⟩
def spLaw (K : PySem.W.Frag) : Sp := fun vs H Q _ => ∃ (a : Addr) (ns : List Int), vs = [.ref a] ∧ SqL K H a (ns.map V.int) ∧ ns.length ≤ 63 ∧ ∀ H', Q (.bl true) H'
theorem useR {p c : Addr} {n : Nat} {H : Hp} {v : V} {d : PyData} {b : Bool} {Q : VK} {E : XK} (hp : PenAt H p c n) (hd : Dq p H v d) (hn : nameD d = b) (hf : Fit d 10 5000) (hz : ∀ x, d = .str x → x.length ≤ 10000) (k : ∀ H', Same H H' → PenAt H' p c n → Q (.bl true) H') : spRight [v, .bl b] H Q E := by
  have hp2 := hp
  obtain ⟨_, _, _, h1, _⟩ := hp
  exact ⟨p, v, d, by rw [hn], hd, ⟨_, h1⟩, hz, hf, fun H' s => k H' s (hp2.same s)⟩
theorem useS {p c : Addr} {n : Nat} {H : Hp} {z : Str} {b : Bool} {Q : VK} {E : XK} (hp : PenAt H p c n) (hn : isNm z = b) (hf : Fit (.str z) 10 5000) (hz : z.length ≤ 10000) (k : ∀ H', Same H H' → PenAt H' p c n → Q (.bl true) H') : spRight [.str z, .bl b] H Q E :=
  useR hp (.str z) hn hf (fun x e => by cases e; exact hz) k
abbrev s_law : Stmt := topS 16
theorem sc_law : FnScope ["_law_script", "_law_pen_here", "_law_turn", "_law_word_here", "_law_spot", "_law_sign", "_law_thing"] ["_law_script"] (defScope s_law) := ⟨rfl, rfl, rfl, by decide +kernel, rfl, by decide +kernel, by decide +kernel⟩
theorem ok_law {f C O : Addr} {fd : FuncData} (F : FnP K "law" s_law f fd) (T : Top K mg) (F_law_pen : Fnc P w K mg base 1 "_law_pen" ["_law_script"] (spPen K)) (F_law_draw : Fnc P w K mg base 1 "_law_draw" ["_law_pen_here", "_law_many"] spDraw)
    (F_law_pick : Fnc P w K mg base 2 "_law_pick" ["_law_pen_here", "_law_some"] spPick) (F_law_word : Fnc P w K mg base 3 "_law_word" ["_law_pen_here", "_law_many"] spWord) (F_law_right : FncG P w K mg base 6 "_law_right" ["_law_thing", "_law_fact"] spRight) :
    FnG P w K mg base 8 f fd ["_law_script"] (spLaw K) := by
  have nd := sc_law.nd
  have PO := @PassesOwn.never
  refine fnG_of F sc_law (fun vs H Q E h => ?_) (fun cdv A outer s H vs Q E hr gd h => ?_)
  · obtain ⟨a, ns, rfl, _⟩ := h
    rfl
  · obtain ⟨a, ns, rfl, hS, hl, k⟩ := h
    refine ⟨_, PSs.nox (pss_cons (ps_set (i := 1) nd rfl (Or.inl rfl) (oc F_law_pen (hr.mono (by decide)) (pa_cons (pv 0) pa_nil)))
      (pss_cons (ps_for PassesOwn.never rfl (pi_range1 (by rfl) T.n_range (pa_cons pe_int pa_nil)) (pg_name (i := 2) nd rfl (Or.inl rfl))
        (pss_cons (ps_set (i := 3) nd rfl (Or.inl rfl) (oc F_law_word (hr.mono (by decide)) (pa_cons (pv 1) (pa_cons (pe_op op_add pe_int (oc F_law_draw (hr.mono (by decide)) (pa_cons (pv 1) (pa_cons pe_int pa_nil)))) pa_nil))))
        (pss_cons (ps_set (i := 4) nd rfl (Or.inl rfl) (oc F_law_draw (hr.mono (by decide)) (pa_cons (pv 1) (pa_cons (pe_op op_add (pe_callB c_lenS (by rfl) T.n_len (by decide +kernel) (pa_cons (pv 3) pa_nil)) pe_int) pa_nil))))
        (pss_cons (ps_set (i := 5) nd rfl (Or.inl rfl) (oc F_law_pick (hr.mono (by decide)) (pa_cons (pv 1) (pa_cons (pe_lst (pa_cons pe_str (pa_cons pe_str (pa_cons pe_str (pa_cons pe_str (pa_cons pe_str (pa_cons pe_str (pa_cons pe_str (pa_cons pe_str (pa_cons pe_str (pa_cons pe_str (pa_cons pe_str (pa_cons pe_str (pa_cons pe_str pa_nil)))))))))))))) pa_nil))))
        (pss_cons (ps_if (PW.pt (pw_or (pt_not (pt_val (ocG F_law_right (hr.mono (by decide)) gd (pa_cons (pv 3) (pa_cons pe_bl pa_nil))))) (pw_or1 (pt_not (pt_val (ocG F_law_right (hr.mono (by decide)) gd (pa_cons (pe_op o_addS (pe_op o_addS (pe_slice sl_str (pv 3) po_none (po_some (pv 4))) (pv 5)) (pe_slice sl_str (pv 3) (po_some (pv 4)) po_none)) (pa_cons pe_bl pa_nil))))))))
          (pss_one (ps_ret pe_bl))
          pss_nil)
        (pss_cons (ps_if (pt_not (pt_val (ocG F_law_right (hr.mono (by decide)) gd (pa_cons (pe_op o_addS (pe_op o_addS (pe_slice sl_str (pv 3) po_none (po_some (pv 4))) (pv 5)) (pe_slice sl_str (pv 3) (po_some (pe_op op_add (pv 4) pe_int)) po_none)) (pa_cons pe_bl pa_nil)))))
          (pss_one (ps_ret pe_bl))
          pss_nil)
        (pss_cons (ps_if (pt_not (pt_val (ocG F_law_right (hr.mono (by decide)) gd (pa_cons (oc F_law_word (hr.mono (by decide)) (pa_cons (pv 1) (pa_cons (pe_op op_add pe_int (oc F_law_draw (hr.mono (by decide)) (pa_cons (pv 1) (pa_cons pe_int pa_nil)))) pa_nil))) (pa_cons pe_bl pa_nil)))))
          (pss_one (ps_ret pe_bl))
          pss_nil)
        (pss_cons (ps_set (i := 6) nd rfl (Or.inl rfl) (oc F_law_pick (hr.mono (by decide)) (pa_cons (pv 1) (pa_cons (pe_lst (pa_cons pe_non (pa_cons pe_bl (pa_cons pe_int (pa_cons pe_int (pa_cons pe_str (pa_cons (pe_tup (pa_cons (pv 3) pa_nil)) (pa_cons (pe_lst (pa_cons (pv 3) pa_nil)) (pa_cons (pe_disp (pps_cons (pv 3) pe_int pps_nil) (by rfl) (by rfl) (fun z => by cases z) (by decide)) (pa_cons (pe_tup pa_nil) (pa_cons (pe_lst pa_nil) (pa_cons pe_dnewK pa_nil)))))))))))) pa_nil))))
        (pss_one (ps_if (pt_not (pt_val (ocG F_law_right (hr.mono (by decide)) gd (pa_cons (pv 6) (pa_cons pe_bl pa_nil)))))
          (pss_one (ps_ret pe_bl))
          pss_nil))))))))))
      (pss_one (ps_ret (pe_and (ocG F_law_right (hr.mono (by decide)) gd (pa_cons pe_str (pa_cons pe_bl pa_nil))) (pe_and (ocG F_law_right (hr.mono (by decide)) gd (pa_cons pe_str (pa_cons pe_bl pa_nil))) (pe_one (ocG F_law_right (hr.mono (by decide)) gd (pa_cons pe_str (pa_cons pe_bl pa_nil)))))))))), ?_⟩
    repeat walk_at "y"
    refine ⟨a, ns, rfl, hS, hl, fun p c H1 s1 _ _ P1 => ?_⟩
    repeat walk_at "y"
    refine ⟨10, rfl, by decide, by decide, for_range (lo := 0) (n := 10) (fun i σ' H' => ∃ t x3 x4 x5 x6 : Option V, σ' = [some (.ref a), some (.ref p), t, x3, x4, x5, x6] ∧ PenAt H' p c (60 * i)) ⟨none, none, none, none, none, rfl, P1⟩ ?_ ?_⟩
    · rintro i σ' H2 hi ⟨t, x3, x4, x5, x6, rfl, P2⟩
      repeat walk_at "y"
      refine ⟨p, c, _, _, rfl, P2, by omega, by decide, by decide, fun r1 H3 r10 r11 P3 k3 => ?_⟩
      repeat walk_at "y"
      refine ⟨p, c, _, (1 + r1).toNat, by rw [Int.toNat_of_nonneg (by omega)]; rfl, P3, by omega, by omega, fun x H4 hx hxl P4 k4 => ?_⟩
      have hx1 : 1 ≤ x.length := by omega
      have hx8 : x.length ≤ 8 := by omega
      have hxs : x.length ≤ sizeLine := by rw [sizeLine_eq]; omega
      repeat walk_at "y"
      refine ⟨p, c, _, _, rfl, P4, by omega, by omega, Nat.lt_of_le_of_lt (show _ ≤ 100 by omega) (by decide), fun r2 H5 r20 r21 P5 k5 => ?_⟩
      repeat walk_at "y"
      rename_i l5 hl5
      have n5 := P5.p_ne hl5
      refine ⟨p, c, _, _, rfl, P5.new hl5, by omega, .inl ⟨l5, signs, rfl, n5, upd_same, by decide, by decide, fun j sv H6 hj P6 k6 => ?_⟩⟩
      obtain ⟨sg, sc, rfl, hsg, hsc, hsc2⟩ := sign_of hj
      have hsl : sg.length = 1 := by rw [hsg]; rfl
      have cutn : ∀ lo hi, (cutS x lo hi).length ≤ 8 := fun lo hi => Nat.le_trans (cut_len x lo hi) hx8
      have fx : Fit (.str x) 10 5000 := fit_str (by omega) (fun d hd => let_lt d (hxl d hd))
      repeat walk_at "y"
      refine useS P6 (nm_yes hx1 hx8 hxl) fx (by omega) fun H7 s7 P7 => ?_
      have sz : ∀ n : Nat, n ≤ 100 → n ≤ sizeLine := fun n h => Nat.le_trans h (by decide)
      have sp1 := spoilt (lo := some r2) (hi := some r2) hsg hsc hsc2 hxl hx8
      have sp2 := spoilt (lo := some r2) (hi := some (r2 + 1)) hsg hsc hsc2 hxl hx8
      have z1 : (cutS x none (some r2)).length + sg.length ≤ sizeLine := sz _ (by have := cutn none (some r2); omega)
      have z2 : ∀ hi, (cutS x none (some r2) ++ sg).length + (cutS x hi none).length ≤ sizeLine := fun hi => sz _ (by rw [app_len]; have := cutn none (some r2); have := cutn hi none; omega)
      have z3 := z2 (some r2)
      have z4 := z2 (some (r2 + 1))
      repeat walk_at "y"
      refine useS P7 sp1.1 sp1.2.1 (by have := sp1.2.2; omega) fun H8 s8 P8 => ?_
      repeat walk_at "y"
      refine useS P8 sp2.1 sp2.2.1 (by have := sp2.2.2; omega) fun H9 s9 P9 => ?_
      repeat walk_at "y"
      refine ⟨p, c, _, _, rfl, P9, by omega, by decide, by decide, fun r3 H10 r30 r31 P10 k10 => ?_⟩
      repeat walk_at "y"
      refine ⟨p, c, _, (9 + r3).toNat, by rw [Int.toNat_of_nonneg (by omega)]; rfl, P10, by omega, by omega, fun y H11 hy hyl P11 k11 => ?_⟩
      repeat walk_at "y"
      refine useS P11 (nm_long (by omega)) (fit_str (by omega) (fun d hd => let_lt d (hyl d hd))) (by omega) fun H12 s12 P12 => ?_
      repeat walk_at "y"
      rename_i q1 hq1 q2 hq2
      intro q3 hq3
      refine ⟨_, rfl, upd_same, [(Sum.inr x, .int 1)], rfl, Nat.le_of_ble_eq_true rfl, ?_⟩
      rw [upd_upd]
      repeat walk_at "y"
      rename_i q4 hq4 q5 hq5
      intro q6 hq6
      repeat walk_at "y"
      rename_i q7 hq7
      have Pf := ((((((P12.new (o := .tup [.str x]) hq1).new (o := .lst [.str x]) hq2).new (o := .dK (mergeK [] [(Sum.inr x, V.int 1)])) hq3).new (o := .tup []) hq4).new (o := .lst []) hq5).new (o := .dK []) hq6)
      have P7' := Pf.new (o := .lst [.non, .bl true, .int 0, .int 8, .str "", .ref q1, .ref q2, .ref q3, .ref q4, .ref q5, .ref q6]) hq7
      have n1 : q1 ≠ p := P12.p_ne hq1
      have n2 : q2 ≠ p := P12.p_ne (free_upd hq2)
      have n3 : q3 ≠ p := P12.p_ne (free_upd (free_upd hq3))
      have n4 : q4 ≠ p := P12.p_ne (free_upd (free_upd (free_upd hq4)))
      have n5 : q5 ≠ p := P12.p_ne (free_upd (free_upd (free_upd (free_upd hq5))))
      have n6 : q6 ≠ p := P12.p_ne (free_upd (free_upd (free_upd (free_upd (free_upd hq6)))))
      have n7 : q7 ≠ p := Pf.p_ne hq7
      refine ⟨p, c, _, _, rfl, P7', by omega, .inl ⟨q7, _, rfl, n7, upd_same, Nat.le_of_ble_eq_true rfl, Nat.le_of_ble_eq_true rfl, fun j v H13 hj P13 k13 => ?_⟩⟩
      have ob1 : H13 q1 = some (.tup [.str x]) := k13 _ _ n1 (upd_old hq7 (upd_old hq6 (upd_old hq5 (upd_old hq4 (upd_old hq3 (upd_old hq2 upd_same))))))
      have ob2 : H13 q2 = some (.lst [.str x]) := k13 _ _ n2 (upd_old hq7 (upd_old hq6 (upd_old hq5 (upd_old hq4 (upd_old hq3 upd_same)))))
      have ob3 : H13 q3 = some (.dK (mergeK [] [(Sum.inr x, V.int 1)])) := k13 _ _ n3 (upd_old hq7 (upd_old hq6 (upd_old hq5 (upd_old hq4 upd_same))))
      have ob4 : H13 q4 = some (.tup []) := k13 _ _ n4 (upd_old hq7 (upd_old hq6 (upd_old hq5 upd_same)))
      have ob5 : H13 q5 = some (.lst []) := k13 _ _ n5 (upd_old hq7 (upd_old hq6 upd_same))
      have ob6 : H13 q6 = some (.dK []) := k13 _ _ n6 (upd_old hq7 upd_same)
      have fin : ∃ d, Dq p H13 v d ∧ nameD d = false ∧ Fit d 10 5000 ∧ ∀ x, d = .str x → x.length ≤ 10000 := by
        have m := List.mem_of_getElem? hj
        simp only [List.mem_cons, List.not_mem_nil, or_false] at m
        have fx2 : Fit (.str x) 0 8 := ⟨rfl, fx.lv, by simp [PyData.depth], by simp only [PyData.weight]; have := len_list x; simp only [Array.length_toList] at this; omega⟩
        rcases m with rfl | rfl | rfl | rfl | rfl | rfl | rfl | rfl | rfl | rfl | rfl
        · exact ⟨_, .non, rfl, ⟨rfl, rfl, by decide, by decide⟩, fun _ e => by cases e⟩
        · exact ⟨_, .bl true, rfl, ⟨rfl, rfl, by decide, by decide⟩, fun _ e => by cases e⟩
        · exact ⟨_, .int 0, rfl, ⟨by decide, by decide +kernel, by decide, by decide⟩, fun _ e => by cases e⟩
        · exact ⟨_, .int 8, rfl, ⟨by decide, by decide +kernel, by decide, by decide⟩, fun _ e => by cases e⟩
        · exact ⟨_, .str "", by decide, ⟨rfl, rfl, by decide, by decide⟩, fun _ e => by cases e; decide⟩
        · exact ⟨_, .tup n1 ob1 (.cons (.str x) .nil), rfl, fit_of1 fx2 (.inl rfl), fun _ e => by cases e⟩
        · exact ⟨_, .lst n2 ob2 (.cons (.str x) .nil), rfl, fit_of1 fx2 (.inr (.inl rfl)), fun _ e => by cases e⟩
        · exact ⟨_, .dic n3 ob3 (.cons (.int 1) .nil), rfl, fit_of1 fx2 (.inr (.inr rfl)), fun _ e => by cases e⟩
        · exact ⟨_, .tup n4 ob4 .nil, rfl, ⟨rfl, rfl, by decide, by decide⟩, fun _ e => by cases e⟩
        · exact ⟨_, .lst n5 ob5 .nil, rfl, ⟨rfl, rfl, by decide, by decide⟩, fun _ e => by cases e⟩
        · exact ⟨_, .dic n6 ob6 .nil, rfl, ⟨rfl, rfl, by decide, by decide⟩, fun _ e => by cases e⟩
      obtain ⟨d, hd, hnd, hfd, hzd⟩ := fin
      repeat walk_at "y"
      refine useR P13 hd hnd hfd hzd fun H14 s14 P14 => ?_
      repeat walk_at "y"
      exact ⟨_, _, _, _, _, rfl, P14.mono (by omega)⟩
    · rintro σ' H2 ⟨t, x3, x4, x5, x6, rfl, P2⟩
      have fs : ∀ z : Str, z.length ≤ 9 → (∀ c ∈ z.cps.toList, c < 16 ^ 8) → Fit (.str z) 10 5000 := fun z h1 h2 => fit_str (by omega) h2
      repeat walk_at "y"
      refine useS P2 (by decide +kernel) (fs _ (by decide) (by decide +kernel)) (by decide) fun H3 s3 P3 => ?_
      repeat walk_at "y"
      refine useS P3 (by decide +kernel) (fs _ (by decide) (by decide +kernel)) (by decide) fun H4 s4 P4 => ?_
      repeat walk_at "y"
      refine useS P4 (by decide +kernel) (fs _ (by decide) (by decide +kernel)) (by decide) fun H5 s5 P5 => ?_
      exact k H5
end
end LW
set_option maxRecDepth 100000
set_option maxHeartbeats 0
namespace LW
open PySem PySem.Spec PyProof.Rows L2 OZ
def dIsn : He.DefD := ⟨("is_name", none), "is_name", "is_name", defArgs s_isn, defBody s_isn, defScope s_isn, [], []⟩
def dNeed : He.DefD := ⟨("need_name", none), "need_name", "need_name", defArgs s_need, defBody s_need, defScope s_need, [], []⟩
def dXin : He.DefD := ⟨("BadName", some "__init__"), "__init__", "BadName.__init__", defArgs s_xin, defBody s_xin, defScope s_xin, [], []⟩
def dPen : He.DefD := ⟨("_law_pen", none), "_law_pen", "_law_pen", defArgs s_pen, defBody s_pen, defScope s_pen, [], []⟩
def dDraw : He.DefD := ⟨("_law_draw", none), "_law_draw", "_law_draw", defArgs s_draw, defBody s_draw, defScope s_draw, [], []⟩
def dPick : He.DefD := ⟨("_law_pick", none), "_law_pick", "_law_pick", defArgs s_pick, defBody s_pick, defScope s_pick, [], []⟩
def dWord : He.DefD := ⟨("_law_word", none), "_law_word", "_law_word", defArgs s_word, defBody s_word, defScope s_word, [], []⟩
def dHeard : He.DefD := ⟨("_law_heard", none), "_law_heard", "_law_heard", defArgs s_heard, defBody s_heard, defScope s_heard, [], []⟩
def dRight : He.DefD := ⟨("_law_right", none), "_law_right", "_law_right", defArgs s_right, defBody s_right, defScope s_right, [], []⟩
def dLaw : He.DefD := ⟨("law", none), "law", "law", defArgs s_law, defBody s_law, defScope s_law, [], []⟩
def fn : List He.DefD := [dIsn, dNeed, dXin, dPen, dDraw, dPick, dWord, dHeard, dRight, dLaw]
def glos : List Str := ["is_name", "need_name", "BadName", "OwnError", "_law_pen", "_law_draw", "_law_pick", "_law_word", "_law_heard", "_law_right", "law"]
def frees : List Str := ["len", "int", "abs", "list", "str", "all", "range", "repr", "isinstance"]
def facts : List He.Fa := [.int "LONGEST" 8, .str "LETTERS" LET]
def exB (K : PySem.W.Frag) : Bool := (glos.all fun x => (He.Fa.glo x).ok K) && ((frees.all fun x => (He.Fa.free x).ok K) && ((facts.all fun f => f.ok K) && (xcB K (He.ga K "BadName") &&
  (decide (PySem.W.findIn K (.ref (He.ga K "BadName")) "value" = some none) && (decide (PySem.W.exmOne K (.ref (He.ga K "BadName")) (.ref (He.ga K "OwnError")) = some true) &&
  (decide (PySem.W.kitOne K (.ref (He.ga K "BadName")) (.ref (He.ga K "BadName")) = some true) && (decide (PySem.W.findIn K (.ref (He.ga K "BadName")) "__init__" = some (some (.ref (He.ma K (He.ga K "BadName") "__init__")))) &&
  (decide (PySem.W.typeIn K (.ref (He.ma K (He.ga K "BadName") "__init__")) = some (.type "function")) && (K.lookup sysModules).isSome))))))))
abbrev R : PySem.W.OpenRow := PySem.W.OpenLaw.row PySem.Challenge.rw_ownzeros_k02_names_told
abbrev hk : PySem.W.Hook := hookZ 6 fn [] exB
def ob (s : PySem.W.SharedT) : AlZ := obsZ 6 fn [] exB (HandSHeadRun.getT s)
theorem ob_eq (s : PySem.W.SharedT) : ob s = hk.obs s.abs := obsZ_eq (HandSHeadRun.getT_eq s)
def names : List Str := ["OwnError", "BadInput", "BadName", "LETTERS", "LONGEST", "is_name", "need_name", "_law_pen", "_law_draw", "_law_pick", "_law_word", "_law_heard", "_law_right"]
theorem run (w : World) : HandSHeadRun.RunEq R (PySem.W.view R.prog [16]) hk ob 4000 names w := by
  intro os
  kernel_rfl
end LW
set_option maxRecDepth 100000
set_option maxHeartbeats 0
namespace LW
open PySem PySem.Spec PyProof.Rows L2 OZ
abbrev PP : Program := (PySem.Challenge.rw_ownzeros_k02_names_told).prog
theorem fnc_of {P : Program} {w : World} {K : PySem.W.Frag} {mg : Str → Option Value} {base : Heap} {k : Nat} {x : Str} {ps : List Str} {sp : Sp} {st : Stmt} {f : Addr} {fd : FuncData} (F : FnP K x st f fd) (g : mg x = some (.ref f)) (b : Binds K fd ps [])
    (G : FnOk P w K mg base (L2.CX P w) k f fd ps sp) : Fnc P w K mg base k x ps sp := ⟨f, fd, g, F.kp, b, G⟩
theorem asm {w : World} {K : PySem.W.Frag} {h : Heap} {mg : Str → Option Value} {fa : Addr} (X : K.In h) (G : h.Ns mainGlobals mg) (hfa : mg ("law" : Str) = some (.ref fa)) (c : Told fn [] exB h K) :
    ∃ fd : FuncData, (∀ (s : Shared) (u : Value), BindsTo s fd ⟨[u], []⟩ [("_law_script", u)]) ∧ ∀ base : Heap, K.In base → base.Ns mainGlobals mg → FnG PP w K mg base 8 fa fd ["_law_script"] (spLaw K) := by
  have e := c.more
  unfold exB at e
  simp only [Bool.and_eq_true, decide_eq_true_eq] at e
  obtain ⟨e1, e2, e3, e4, e5, e6, e7, e8, e9, e10⟩ := e
  have gl : ∀ x ∈ glos, mg x = some (.ref (He.ga K x)) := fun x hx => He.glo_ok X G (List.all_eq_true.mp e1 x hx)
  have fr : ∀ x ∈ frees, mg x = none := fun x hx => He.free_ok X G (List.all_eq_true.mp e2 x hx)
  have sm : ∃ o, K.lookup sysModules = some o := Option.isSome_iff_exists.mp e10
  have T : Top K mg := ⟨fr _ (by simp [frees]), fr _ (by simp [frees]), fr _ (by simp [frees]), fr _ (by simp [frees]), fr _ (by simp [frees]), fr _ (by simp [frees]), fr _ (by simp [frees]), fr _ (by simp [frees]), fr _ (by simp [frees]),
    He.int_ok X G (List.all_eq_true.mp e3 _ (by simp [facts])), He.str_ok X G (List.all_eq_true.mp e3 _ (by simp [facts])), sm⟩
  have xc := xcB_ok e4
  have TX : TopX K mg (He.ga K "BadName") (He.ga K "OwnError") := ⟨gl _ (by simp [glos]), gl _ (by simp [glos]), sm, T.n_isinstance, T.n_repr, xc, e5, e6, e7⟩
  obtain ⟨f1, F1⟩ := c.d.def_ 0 (d := dIsn) rfl
  obtain ⟨f2, F2⟩ := c.d.def_ 1 (d := dNeed) rfl
  obtain ⟨f3, F3⟩ := c.d.def_ 2 (d := dXin) rfl
  obtain ⟨f4, F4⟩ := c.d.def_ 3 (d := dPen) rfl
  obtain ⟨f5, F5⟩ := c.d.def_ 4 (d := dDraw) rfl
  obtain ⟨f6, F6⟩ := c.d.def_ 5 (d := dPick) rfl
  obtain ⟨f7, F7⟩ := c.d.def_ 6 (d := dWord) rfl
  obtain ⟨f8, F8⟩ := c.d.def_ 7 (d := dHeard) rfl
  obtain ⟨f9, F9⟩ := c.d.def_ 8 (d := dRight) rfl
  obtain ⟨f10, F10⟩ := c.d.def_ 9 (d := dLaw) rfl
  have ef := hfa.symm.trans (gl "law" (by simp [glos]))
  cases ef
  have bL := FunD.bindsA (ps := ["_law_script"]) F10 fun _ _ _ _ _ _ us hl => match us, hl with | [_], _ => rfl
  refine ⟨f10, fun s v => bL s [v] rfl, fun base _ _ => ?_⟩
  have b1 : Binds K f1 ["value"] [] := F1.bindsN fun _ _ _ _ _ _ us hl => match us, hl with | [_], _ => rfl
  have b2 : Binds K f2 ["value"] [] := F2.bindsN fun _ _ _ _ _ _ us hl => match us, hl with | [_], _ => rfl
  have b3 : Binds K f3 ["self", "value"] [] := F3.bindsN fun _ _ _ _ _ _ us hl => match us, hl with | [_, _], _ => rfl
  have b4 : Binds K f4 ["_law_script"] [] := F4.bindsN fun _ _ _ _ _ _ us hl => match us, hl with | [_], _ => rfl
  have b5 : Binds K f5 ["_law_pen_here", "_law_many"] [] := F5.bindsN fun _ _ _ _ _ _ us hl => match us, hl with | [_, _], _ => rfl
  have b6 : Binds K f6 ["_law_pen_here", "_law_some"] [] := F6.bindsN fun _ _ _ _ _ _ us hl => match us, hl with | [_, _], _ => rfl
  have b7 : Binds K f7 ["_law_pen_here", "_law_many"] [] := F7.bindsN fun _ _ _ _ _ _ us hl => match us, hl with | [_, _], _ => rfl
  have b8 : Binds K f8 ["_law_thing"] [] := F8.bindsN fun _ _ _ _ _ _ us hl => match us, hl with | [_], _ => rfl
  have b9 : Binds K f9 ["_law_thing", "_law_fact"] [] := F9.bindsN fun _ _ _ _ _ _ us hl => match us, hl with | [_, _], _ => rfl
  have k1 : KBn K f1 ["value"] 0 ["value"] (fun _ ws => ws) (fun _ zs => zs) := kb_of F1 (fun kV doc pm an cdv ct ws hw => match ws, hw with | [_], _ => rfl)
  have k2 : KBn K f2 ["value"] 0 ["value"] (fun _ ws => ws) (fun _ zs => zs) := kb_of F2 (fun kV doc pm an cdv ct ws hw => match ws, hw with | [_], _ => rfl)
  have G1 := ok_isn (P := PP) (w := w) (base := base) F1 T
  have C1 : Fnc PP w K mg base 1 "is_name" ["value"] spIsN := ⟨_, _, gl _ (by simp [glos]), F1.kp, b1, G1⟩
  have D1 : FncK PP w K mg base 1 "is_name" ["value"] ["value"] (fun _ zs => zs) spIsN := ⟨_, _, _, gl _ (by simp [glos]), F1.kp, k1, G1⟩
  have M : XMk PP w K mg base "BadName" (He.ga K "BadName") ["self", "value"] (spX1 "value" (He.ga K "BadName")) := ⟨gl _ (by simp [glos]), xc, _, f3, e8, e9, b3, ok_xin F3 xc e5⟩
  have G2 := ok_need F2 C1 M
  have C2 : Fnc PP w K mg base 3 "need_name" ["value"] (spNeed (He.ga K "BadName")) := ⟨_, _, gl _ (by simp [glos]), F2.kp, b2, G2⟩
  have D2 : FncK PP w K mg base 3 "need_name" ["value"] ["value"] (fun _ zs => zs) (spNeed (He.ga K "BadName")) := ⟨_, _, _, gl _ (by simp [glos]), F2.kp, k2, G2⟩
  have C4 : Fnc PP w K mg base 1 "_law_pen" ["_law_script"] (spPen K) := ⟨_, _, gl _ (by simp [glos]), F4.kp, b4, ok_pen F4 T⟩
  have C5 : Fnc PP w K mg base 1 "_law_draw" ["_law_pen_here", "_law_many"] spDraw := ⟨_, _, gl _ (by simp [glos]), F5.kp, b5, ok_draw F5 T⟩
  have C6 : Fnc PP w K mg base 2 "_law_pick" ["_law_pen_here", "_law_some"] spPick := ⟨_, _, gl _ (by simp [glos]), F6.kp, b6, ok_pick F6 T C5⟩
  have C7 : Fnc PP w K mg base 3 "_law_word" ["_law_pen_here", "_law_many"] spWord := ⟨_, _, gl _ (by simp [glos]), F7.kp, b7, ok_word F7 T C6⟩
  have C8 : Fnc PP w K mg base 5 "_law_heard" ["_law_thing"] spHeard := ⟨_, _, gl _ (by simp [glos]), F8.kp, b8, ok_heard F8 TX C2 D2⟩
  have C9 : FncG PP w K mg base 6 "_law_right" ["_law_thing", "_law_fact"] spRight := ⟨_, _, gl _ (by simp [glos]), F9.kp, b9, ok_right F9 TX C1 D1 C8⟩
  exact ok_law (C := He.ga K "BadName") (O := He.ga K "OwnError") F10 T C4 C5 C6 C7 C9
end LW
open PySem PySem.W PySem.Calls PyProof.Rows
theorem PySem.Challenge.cw_ownzeros_k02_names_told_holds : PySem.Challenge.rw_ownzeros_k02_names_told.Holds := by
  w_on; o_law
  refine HandSHeadRun.head_any (r := OpenLaw.row PySem.Challenge.rw_ownzeros_k02_names_told) (q := view (OpenLaw.row PySem.Challenge.rw_ownzeros_k02_names_told).prog [16]) (H := LW.hk) (ob := LW.ob) (M := 4000) (loose := LW.names) (d := HandSHeadRun.topDef (OpenLaw.row PySem.Challenge.rw_ownzeros_k02_names_told).prog 16) (kwd := []) LW.ob_eq
    (by kernel_rfl) (fun s => by kernel_rfl) LW.run (by kernel_rfl) (by kernel_rfl) (by kernel_rfl) (by rfl) (by first | assumption | decide +kernel) (by decide +kernel) ⟨rfl, rfl, rfl, rfl, rfl, by decide +kernel⟩ ?hw ?hc
  case hw => w_witness2
  case hc =>
    refine OZ.walkG (l := PySem.Challenge.rw_ownzeros_k02_names_told) (n := 63) (k := 8) (x := "_law_script") rfl (by decide) (by kernel_rfl) ⟨rfl, by decide, by decide⟩ ?F
    intro w mg fa h Y G hmg0
    obtain ⟨K, KX, c⟩ := Y
    have hmg : mg ("law" : PySem.Str) = some (.ref fa) := by
      have e : (HandSHeadRun.topDef (OpenLaw.row PySem.Challenge.rw_ownzeros_k02_names_told).prog 16).name = ("law" : PySem.Str) := by kernel_rfl
      rw [← e]
      exact hmg0
    obtain ⟨fd, hb, hF⟩ := LW.asm (w := w) KX G hmg c
    exact ⟨K, KX, fd, [], LW.spLaw K, (fun q hq => absurd hq (by simp)), (fun q hq => absurd hq (by simp)), (fun q hq => absurd hq (by simp)), hb, fun H a ns hl _ hS => ⟨a, ns, rfl, hS, hl, fun _ => rfl⟩, fun base h1 h2 _ => hF base h1 h2⟩
