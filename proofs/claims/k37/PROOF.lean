import PyProof.Rows.All
import Wide.All
import OpenK.AllK
import Wide.FinOn
import KE.KStateDown
import Lean
import HandS.ForMost
import HandS.Exc
import HandS.WordsExc
import HandS.Defaults
import HandS.Flow
import HandS.Style
import HandS.Wide
import HandS.WideBits
import HandS.ClsMeth
import HandS.Property
import HandS.IsInst
import KE.KOpsOwn
import HandS.Head0
import HandS.Head1
import HandS.Head2
import HandS.HeadEnd
import HandS.HeadHook1
import HandS.HeadHook2
import PyProof.ReprLen
import KE.KExcSuper
import HandS.ExcInit
import HandS.ExcField
import HandS.TryMany
import HandS.RaiseMore
import KE.KExcIs
import KE.KIsAll
import PySem.Challenge.RW_twozeros_k37_orders_and_shared
set_option Elab.async false
set_option linter.all false
set_option maxRecDepth 100000
set_option maxHeartbeats 4000000
/-! Z: own layer over HandS: heap relations, readings step by step. -/
namespace Z
open PySem PySem.Spec PyProof.Rows L2

/-! ### heaps -/
/-- all that was told stays -/
def Ex (H H' : Hp) : Prop := ∀ a o, H a = some o → H' a = some o
/-- a pen: its cells, the next one's index, what is left of a great one -/
def isPen : HO → Bool
  | .lst [.ref _, .int _, .int _] => true
  | _ => false
/-- what a pen may become: its cells stay the same ones -/
def penTo (o : HO) (x : Option HO) : Prop := match o with
  | .lst [.ref l, .int _, .int _] => ∃ i j, x = some (.lst [.ref l, .int i, .int j])
  | o => x = some o
theorem penTo_no {o : HO} {x : Option HO} (n : isPen o = false) (h : penTo o x) : x = some o := by
  unfold penTo at h
  split at h
  · cases n
  · exact h
theorem penTo_self (o : HO) : penTo o (some o) := by
  unfold penTo
  split
  · exact ⟨_, _, rfl⟩
  · rfl
/-- all but pens stays -/
def Gr (H H' : Hp) : Prop := ∀ a o, H a = some o → penTo o (H' a)
/-- all but what stands at l stays -/
def But (l : Addr) (H H' : Hp) : Prop := ∀ a o, a ≠ l → H a = some o → H' a = some o
theorem Ex.refl (H : Hp) : Ex H H := fun _ _ h => h
theorem Ex.trans {H H1 H2 : Hp} (a : Ex H H1) (b : Ex H1 H2) : Ex H H2 := fun x o h => b x o (a x o h)
theorem Ex.new {H : Hp} {p : Addr} {o : HO} (h : H p = none) : Ex H (upd H p o) := fun a u e => by
  rw [upd_ne (ne_of_none e h)]
  exact e
theorem Ex.gr {H H' : Hp} (a : Ex H H') : Gr H H' := fun x o h => by
  rw [a x o h]
  exact penTo_self o
theorem Gr.refl (H : Hp) : Gr H H := (Ex.refl H).gr
theorem Gr.trans {H H1 H2 : Hp} (a : Gr H H1) (b : Gr H1 H2) : Gr H H2 := fun x o h => by
  have h1 := a x o h
  unfold penTo at h1
  split at h1
  · obtain ⟨i, j, h2⟩ := h1
    obtain ⟨i', j', h3⟩ := b x _ h2
    exact ⟨i', j', h3⟩
  · exact b x _ h1
theorem Ex.get {H H' : Hp} {a : Addr} {o : HO} (e : Ex H H') (h : H a = some o) : H' a = some o := e a o h
theorem Gr.get {H H' : Hp} {a : Addr} {o : HO} (e : Gr H H') (h : H a = some o) (n : isPen o = false) : H' a = some o := penTo_no n (e a o h)
theorem But.get {l : Addr} {H H' : Hp} {a : Addr} {o : HO} (e : But l H H') (h : H a = some o) (n : a ≠ l) : H' a = some o := e a o n h
theorem But.upd {l : Addr} {H : Hp} {o : HO} : But l H (upd H l o) := fun a u n h => by
  rw [upd_ne n]
  exact h
theorem Ex.free {H H' : Hp} {a : Addr} (e : Ex H H') (h : H' a = none) : H a = none := by
  cases q : H a with
  | none => rfl
  | some o =>
    rw [e a o q] at h
    cases h
/-- fresh behind Gr: either fresh before, or a pen -/
theorem Ex.sql {K : PySem.W.Frag} {H H' : Hp} {a : Addr} {xs : List V} (e : Ex H H') (h : SqL K H a xs) : SqL K H' a xs := by
  rcases h with (h | ⟨o, h⟩) | h
  · exact .inl (.inl (e _ _ h))
  · exact .inl (.inr ⟨o, e _ _ h⟩)
  · exact .inr h
theorem Ex.sqt {K : PySem.W.Frag} {H H' : Hp} {a : Addr} {xs : List V} (e : Ex H H') (h : SqT K H a xs) : SqT K H' a xs := by
  rcases h with (h | ⟨o, h⟩) | h
  · exact .inl (.inl (e _ _ h))
  · exact .inl (.inr ⟨o, e _ _ h⟩)
  · exact .inr h
theorem Gr.sql {K : PySem.W.Frag} {H H' : Hp} {a : Addr} {xs : List V} (e : Gr H H') (h : SqL K H a xs) (n : isPen (.lst xs) = false) : SqL K H' a xs := by
  rcases h with (h | ⟨o, h⟩) | h
  · exact .inl (.inl (e.get h n))
  · exact .inl (.inr ⟨o, e.get h rfl⟩)
  · exact .inr h
theorem Gr.sqt {K : PySem.W.Frag} {H H' : Hp} {a : Addr} {xs : List V} (e : Gr H H') (h : SqT K H a xs) : SqT K H' a xs := by
  rcases h with (h | ⟨o, h⟩) | h
  · exact .inl (.inl (e.get h rfl))
  · exact .inl (.inr ⟨o, e.get h rfl⟩)
  · exact .inr h
theorem But.sql {K : PySem.W.Frag} {l : Addr} {H H' : Hp} {a : Addr} {xs : List V} (e : But l H H') (h : SqL K H a xs) (n : a ≠ l) : SqL K H' a xs := by
  rcases h with (h | ⟨o, h⟩) | h
  · exact .inl (.inl (e _ _ n h))
  · exact .inl (.inr ⟨o, e _ _ n h⟩)
  · exact .inr h
theorem sql_of {K : PySem.W.Frag} {H : Hp} {a : Addr} {xs : List V} (h : H a = some (.lst xs)) : SqL K H a xs := .inl (.inl h)
theorem sqt_of {K : PySem.W.Frag} {H : Hp} {a : Addr} {xs : List V} (h : H a = some (.tup xs)) : SqT K H a xs := .inl (.inl h)
theorem pen_ints (ns : List Int) : isPen (.lst (ns.map V.int)) = false := by
  cases ns with
  | nil => rfl
  | cons a r => rfl
theorem pen_refs (ns : List Addr) : isPen (.lst (ns.map V.ref)) = false := by
  cases ns with
  | nil => rfl
  | cons a r =>
    cases r with
    | nil => rfl
    | cons b r => rfl

/-! ### readings, one step each -/
/-- what is wanted of an object's attribute -/
def FldP (K : PySem.W.Frag) (f : Str) (Q : VK) (x : V) (H : Hp) : Prop := ∃ a C dx fs v, x = .ref a ∧ H a = some (.ins C dx fs) ∧ Cls K C ∧ NoAttr K C f ∧ fs.lookup f = some v ∧ Q v H
/-- what is wanted of a new object -/
def NewO (Q : VK) (o : HO) (H : Hp) : Prop := ∀ p, H p = none → Q (.ref p) (upd H p o)
section
variable {K : PySem.W.Frag} {σ : L2.St} {H : Hp} {Q : VK} {QT : Bool → Hp → Prop} {QA : List V → Hp → Prop} {D : Ends} {E : XK}
variable {ta tb tc te tv : TE} {tt tu tw : TT} {t u : TS} {tr : TA} {r r' : R2} {v x y z : V} {i j : Nat}
theorem s_var (h : σ[i]? = some (some v)) (k : Q v H) : tVar i σ H Q := ⟨v, h, k⟩
theorem s_c (k : Q v H) : tC v σ H Q := k
theorem s_op (k : ta σ H fun x H1 => tb σ H1 fun y H2 => r x y H2 Q) : tOp r ta tb σ H Q := k
theorem s_un {r : V → Hp → VK → Prop} (k : ta σ H fun x H1 => r x H1 Q) : tUn r ta σ H Q := k
theorem s_test (k : te σ H fun x H' => ∃ k, x = .bl k ∧ QT k H') : tTest te σ H QT := k
theorem s_tb (k : te σ H fun x H' => ∃ k, x = .bl k ∧ QT k H') : tB te σ H QT := k
theorem s_not (k : tt σ H fun c H1 => QT (!c) H1) : tNot tt σ H QT := k
theorem s_and (k : tt σ H fun c H1 => if c = true then tu σ H1 QT else QT false H1) : tAnd tt tu σ H QT := k
theorem s_or (k : tt σ H fun c H1 => if c = true then QT true H1 else tu σ H1 QT) : tOr tt tu σ H QT := k
theorem s_andV (k : ta σ H fun x H1 => ∃ c, x = .bl c ∧ if c = true then tb σ H1 Q else Q (.bl false) H1) : tAndV ta tb σ H Q := k
theorem s_orV (k : ta σ H fun x H1 => ∃ c, x = .bl c ∧ if c = true then Q (.bl true) H1 else tb σ H1 Q) : tOrV ta tb σ H Q := k
theorem s_notV (k : ta σ H fun x H1 => ∃ c, x = .bl c ∧ Q (.bl (!c)) H1) : tNotV ta σ H Q := k
theorem s_ifE (k : tt σ H fun c H1 => if c = true then ta σ H1 Q else tb σ H1 Q) : tIf tt ta tb σ H Q := k
theorem s_chain (k : ta σ H fun x H1 => tb σ H1 fun y H2 => r x y H2 fun z H3 => ∃ k, z = .bl k ∧ (if k = true then tc σ H3 fun w' H4 => r' y w' H4 Q else Q (.bl false) H3)) : tChain r r' ta tb tc σ H Q := k
theorem s_seq (k : t { D with nx := u D } σ H) : tSeq t u D σ H := k
theorem s_next (k : D.nx σ H) : tNext D σ H := k
theorem s_drop (k : te σ H fun _ H1 => D.nx σ H1) : tDrop te D σ H := k
theorem s_ret (k : te σ H D.rt) : tRet te D σ H := k
theorem s_retN (k : D.rt .non H) : tRetN D σ H := k
theorem s_if (k : tt σ H fun b H1 => if b = true then t D σ H1 else u D σ H1) : tIfS tt t u D σ H := k
theorem s_asg {g : TG} (k : te σ H fun x H1 => g x σ H1 D.nx) : tAsg te g D σ H := k
theorem s_name {N : L2.St → Hp → Prop} (k : N (σ.set i (some v)) H) : gName i v σ H N := k
theorem s_sub {ts : TSet} {N : L2.St → Hp → Prop} (k : ta σ H fun o H1 => tb σ H1 fun i H2 => ts o i v H2 fun H3 => N σ H3) : gSub ta tb ts v σ H N := k
theorem s_par (k : tr σ H fun vs H1 => ∃ v w, vs = [v, w] ∧ D.nx ((σ.set i (some v)).set j (some w)) H1) : tPar i j tr D σ H := k
theorem s_nil (k : QA [] H) : tNil σ H QA := k
theorem s_cons (k : ta σ H fun x H1 => tr σ H1 fun xs H2 => QA (x :: xs) H2) : tCons ta tr σ H QA := k
theorem s_cb {r : List V → Hp → VK → Prop} (k : tr σ H fun vs H1 => r vs H1 Q) : tCB r tr σ H Q := k
theorem s_call {sp : Sp} (k : tr σ H fun vs H1 => sp vs H1 Q E) : tCall sp [] E tr σ H Q := by
  have e : (fun (vs : List V) (H1 : Hp) => sp (vs ++ []) H1 Q E) = fun vs H1 => sp vs H1 Q E := by
    funext vs H1
    rw [List.append_nil]
  unfold tCall
  rw [e]
  exact k
theorem s_lst0 (k : tr σ H fun xs H1 => xs.length ≤ sizeLine ∧ NewO Q (.lst xs) H1) : tLst tr σ H Q := k
theorem s_tup0 (k : tr σ H fun xs H1 => xs.length ≤ sizeLine ∧ NewO Q (.tup xs) H1) : tTup tr σ H Q := k
/-- a new object -/
theorem s_new {o : HO} (k : ∀ p H', H p = none → Ex H H' → H' p = some o → Q (.ref p) H') : ∀ p, H p = none → Q (.ref p) (upd H p o) := fun p hp => k p _ hp (Ex.new hp) upd_same
theorem s_len {xs : List V} {P : Prop} (h : xs.length ≤ 1000) (k : P) : xs.length ≤ sizeLine ∧ P := ⟨Nat.le_trans h (by decide), k⟩
theorem s_fld {f : Str} (k : ta σ H fun x H1 => FldP K f Q x H1) : tFld K ta f σ H Q := k
/-! values -/
theorem v_bl {b : Bool} (k : QT b H) : ∃ k, V.bl b = .bl k ∧ QT k H := ⟨b, rfl, k⟩
theorem r_i0 {g : Int → Int → V} {a b : Int} (k : Q (g a b) H) : rI0 g (.int a) (.int b) H Q := ⟨a, b, rfl, rfl, k⟩
theorem r_i {C : Int → Int → Prop} {g : Int → Int → V} {a b : Int} (c : C a b) (k : Q (g a b) H) : rI C g (.int a) (.int b) H Q := ⟨a, b, rfl, rfl, c, k⟩
theorem r_u {g : Int → V} {a : Int} (k : Q (g a) H) : rU g (.int a) H Q := ⟨a, rfl, k⟩
theorem r_eqI {a b : Int} (k : Q (.bl (decide (a = b))) H) : rEq (.int a) (.int b) H Q := ⟨rfl, by
  have e : decide (V.int a = V.int b) = decide (a = b) := by
    by_cases h : a = b
    · subst h
      simp
    · rw [decide_eq_false h, decide_eq_false (fun q => h (V.int.inj q))]
  rw [e]
  exact k⟩
theorem r_neI {a b : Int} (k : Q (.bl (!decide (a = b))) H) : rNe (.int a) (.int b) H Q := ⟨rfl, by
  have e : decide (V.int a = V.int b) = decide (a = b) := by
    by_cases h : a = b
    · subst h
      simp
    · rw [decide_eq_false h, decide_eq_false (fun q => h (V.int.inj q))]
  rw [e]
  exact k⟩
theorem r_eqB {a b : Bool} (k : Q (.bl (decide (a = b))) H) : rEq (.bl a) (.bl b) H Q := ⟨rfl, by
  have e : decide (V.bl a = V.bl b) = decide (a = b) := by cases a <;> cases b <;> decide
  rw [e]
  exact k⟩
theorem r_neB {a b : Bool} (k : Q (.bl (!decide (a = b))) H) : rNe (.bl a) (.bl b) H Q := ⟨rfl, by
  have e : decide (V.bl a = V.bl b) = decide (a = b) := by cases a <;> cases b <;> decide
  rw [e]
  exact k⟩
theorem r_ixL {p : Addr} {xs : List V} {n : Int} (h : SqL K H p xs) (ha : atI xs n = some v) (k : Q v H) : rIxL K (.ref p) (.int n) H Q := ⟨p, xs, n, v, rfl, rfl, h, ha, k⟩
theorem r_ixT {p : Addr} {xs : List V} {n : Int} (h : SqT K H p xs) (ha : atI xs n = some v) (k : Q v H) : rIxT K (.ref p) (.int n) H Q := ⟨p, xs, n, v, rfl, rfl, h, ha, k⟩
end
/-! tests -/
section
variable {A B : Prop}
theorem f_T {c : Prop} {dc : Decidable c} (h : c) (k : A) : if decide c = true then A else B := by
  rw [if_pos (decide_eq_true h)]
  exact k
theorem f_F {c : Prop} {dc : Decidable c} (h : ¬ c) (k : B) : if decide c = true then A else B := by
  rw [if_neg (by rw [decide_eq_false h]; decide)]
  exact k
theorem f_2 {c : Prop} {dc : Decidable c} (h1 : c → A) (h2 : ¬ c → B) : if decide c = true then A else B := by
  by_cases h : c
  · exact f_T h (h1 h)
  · exact f_F h (h2 h)
theorem f_b {b : Bool} (h1 : b = true → A) (h2 : b = false → B) : if b = true then A else B := by
  cases b with
  | true => exact iteT (h1 rfl)
  | false => exact iteF (h2 rfl)
theorem f_not {b : Bool} (k : if b = true then B else A) : if (!b) = true then A else B := by
  cases b with
  | true => exact k
  | false => exact k
theorem f_bT {b : Bool} (h : b = true) (k : A) : if b = true then A else B := by
  rw [if_pos h]
  exact k
theorem f_bF {b : Bool} (h : b = false) (k : B) : if b = true then A else B := by
  rw [h]
  exact iteF k
end
end Z
namespace Z
open PySem PySem.Spec PyProof.Rows L2
/-! ### bodies that may raise: what a call lets out leaves the body -/
section
variable {P : Program} {w : World} {K : PySem.W.Frag} {mg : Str → Option Value} {base : Heap} {N : List Str} {ql : Str} {sc : Scope} {f : Addr} {cd : Value} {A : Around} {outer : List Env} {s : Shared} {H : Hp} {E : XK}
theorem pT : Takes (cxOf (L2.CX P w) P w K mg base N ql sc f cd A outer s H E) (fun cls d _ H => E cls d H) := takes_of rfl rfl rfl rfl
theorem pX : Passes (L2.CX P w) (cxOf (L2.CX P w) P w K mg base N ql sc f cd A outer s H E) E := passes_call pT fun _ _ _ _ h => h
theorem pO : PassesOwn (model P w) (cxOf (L2.CX P w) P w K mg base N ql sc f cd A outer s H E).A (cxOf (L2.CX P w) P w K mg base N ql sc f cd A outer s H E).env (cxOf (L2.CX P w) P w K mg base N ql sc f cd A outer s H E).xe := passes_of rfl
end
/-! ### the pen -/
/-- a pen that may draw n times more -/
def PenAt (K : PySem.W.Frag) (H : Hp) (p : Addr) (n : Nat) : Prop := ∃ (l : Addr) (cs : List Int) (i j : Int), H p = some (.lst [.ref l, .int i, .int j]) ∧ H l = some (.lst (cs.map V.int)) ∧ 0 ≤ i ∧ i + n ≤ 1000000 ∧ cs.length ≤ 1000
theorem PenAt.ex {K : PySem.W.Frag} {H H' : Hp} {p : Addr} {n : Nat} (e : Ex H H') (h : PenAt K H p n) : PenAt K H' p n := by
  obtain ⟨l, cs, i, j, h1, h2, h3, h4, h5⟩ := h
  exact ⟨l, cs, i, j, e _ _ h1, e _ _ h2, h3, h4, h5⟩
theorem PenAt.mono {K : PySem.W.Frag} {H : Hp} {p : Addr} {n m : Nat} (h : PenAt K H p n) (hm : m ≤ n) : PenAt K H p m := by
  obtain ⟨l, cs, i, j, h1, h2, h3, h4, h5⟩ := h
  exact ⟨l, cs, i, j, h1, h2, h3, by omega, h5⟩
def spPen (K : PySem.W.Frag) : Sp := fun vs H Q _ => ∃ (a : Addr) (ns : List Int), vs = [.ref a] ∧ SqL K H a (ns.map V.int) ∧ ∀ p H', Ex H H' → PenAt K H' p 1000000 → Q (.ref p) H'
def spDraw (K : PySem.W.Frag) : Sp := fun vs H Q _ => ∃ (p : Addr) (m : Int) (n : Nat), vs = [.ref p, .int m] ∧ PenAt K H p (n + 1) ∧ 0 < m ∧ m.natAbs.log2 < 9000 ∧ ∀ r H', Gr H H' → PenAt K H' p n → 0 ≤ r → r < m → Q (.int r) H'
end Z
namespace Z
open PySem PySem.Spec PyProof.Rows L2
/-! ### readings with names -/
abbrev RC := List V → Hp → VK → Prop
def rInt1 : RC := fun xs H Q => (∃ i, xs = [.int i] ∧ Q (.int i) H) ∨ ∃ k, xs = [.bl k] ∧ Q (.int (if k then 1 else 0)) H
def rBool1 : RC := fun xs H Q => (∃ i, xs = [.int i] ∧ Q (.bl (i != 0)) H) ∨ ∃ k, xs = [.bl k] ∧ Q (.bl k) H
def rAbs : RC := fun xs H Q => ∃ i, xs = [.int i] ∧ Q (.int (if i < 0 then -i else i)) H
def rLenS (K : PySem.W.Frag) : RC := fun xs H Q => ∃ p ys, xs = [.ref p] ∧ (SqL K H p ys ∨ SqT K H p ys) ∧ Q (.int ys.length) H
def rListOf (K : PySem.W.Frag) : RC := fun xs H Q => ∃ p ys, xs = [.ref p] ∧ (SqL K H p ys ∨ SqT K H p ys) ∧ ∀ l, H l = none → Q (.ref l) (upd H l (.lst ys))
section
variable {X : Cx}
theorem zc_int : CallR X (.type "int") rInt1 := call_int1
theorem zc_bool : CallR X (.type "bool") rBool1 := call_bool1
theorem zc_abs : CallR X (.builtin "abs") rAbs := call_abs
theorem zc_len : CallR X (.builtin "len") (rLenS X.K) := call_len_seq
theorem zc_list : CallR X (.type "list") (rListOf X.K) := call_list_of
end
section
variable {K : PySem.W.Frag} {σ : L2.St} {H : Hp} {Q : VK} {QT : Bool → Hp → Prop} {QA : List V → Hp → Prop} {D : Ends} {E : XK} {te : TE} {tl th : TO} {tr : TA}
theorem r_intI {a : Int} (k : Q (.int a) H) : rInt1 [.int a] H Q := Or.inl ⟨a, rfl, k⟩
theorem r_intB {b : Bool} (k : Q (.int (if b then 1 else 0)) H) : rInt1 [.bl b] H Q := Or.inr ⟨b, rfl, k⟩
theorem r_boolI {a : Int} (k : Q (.bl (a != 0)) H) : rBool1 [.int a] H Q := Or.inl ⟨a, rfl, k⟩
theorem r_boolB {b : Bool} (k : Q (.bl b) H) : rBool1 [.bl b] H Q := Or.inr ⟨b, rfl, k⟩
theorem r_abs {a : Int} (k : Q (.int (if a < 0 then -a else a)) H) : rAbs [.int a] H Q := ⟨a, rfl, k⟩
theorem r_lenL {p : Addr} {ys : List V} (h : SqL K H p ys) (k : Q (.int ys.length) H) : rLenS K [.ref p] H Q := ⟨p, ys, rfl, Or.inl h, k⟩
theorem r_lenT {p : Addr} {ys : List V} (h : SqT K H p ys) (k : Q (.int ys.length) H) : rLenS K [.ref p] H Q := ⟨p, ys, rfl, Or.inr h, k⟩
theorem r_listL {p : Addr} {ys : List V} (h : SqL K H p ys) (k : ∀ l H', H l = none → Ex H H' → H' l = some (.lst ys) → Q (.ref l) H') : rListOf K [.ref p] H Q := ⟨p, ys, rfl, Or.inl h, s_new k⟩
theorem r_listT {p : Addr} {ys : List V} (h : SqT K H p ys) (k : ∀ l H', H l = none → Ex H H' → H' l = some (.lst ys) → Q (.ref l) H') : rListOf K [.ref p] H Q := ⟨p, ys, rfl, Or.inr h, s_new k⟩
theorem s_slc {r : V → Option Int → Option Int → Hp → VK → Prop} (k : te σ H fun x H1 => tl σ H1 fun l H2 => th σ H2 fun u H3 => r x l u H3 Q) : tSl r te tl th σ H Q := k
theorem s_noPart {QO : Option Int → Hp → Prop} (k : QO none H) : tNoPart σ H QO := k
theorem s_part {QO : Option Int → Hp → Prop} (k : te σ H fun x H1 => ∃ i, x = .int i ∧ QO (some i) H1) : tPart te σ H QO := k
theorem v_int {QO : Option Int → Hp → Prop} {a : Int} (k : QO (some a) H) : ∃ i, V.int a = .int i ∧ QO (some i) H := ⟨a, rfl, k⟩
theorem r_slL {p : Addr} {ys : List V} {lo hi : Option Int} (h : SqL K H p ys) (k : ∀ l H', H l = none → Ex H H' → H' l = some (.lst (cutV ys lo hi)) → Q (.ref l) H') : rSlL K (.ref p) lo hi H Q := ⟨p, ys, rfl, h, s_new k⟩
theorem v_pair {N : V → V → Hp → Prop} {a b : V} (k : N a b H) : ∃ v w, [a, b] = [v, w] ∧ N v w H := ⟨a, b, rfl, k⟩
theorem r_setL {p : Addr} {xs : List V} {n : Int} {j : Nat} {v : V} {N : Hp → Prop} (h : H p = some (.lst xs)) (hj : ixN xs.length n = some j) (k : ∀ H', But p H H' → H' p = some (.lst (xs.set j v)) → N H') : rSetL (.ref p) (.int n) v H N :=
  ⟨p, xs, n, j, rfl, rfl, h, hj, k _ But.upd upd_same⟩
theorem s_newN {xs : List V} {o : HO} (h : xs.length ≤ 1000) (k : ∀ p H', H p = none → Ex H H' → H' p = some o → Q (.ref p) H') : xs.length ≤ sizeLine ∧ NewO Q o H := ⟨Nat.le_trans h (by decide), s_new k⟩
end
end Z
namespace Z
open PySem PySem.Spec PyProof.Rows L2
theorem cut_upto {ns : List Int} {m : Nat} : cutV (ns.map V.int) none (some (m : Int)) = (ns.take m).map V.int := by
  unfold cutV
  have e1 : HT.sIx (ns.map V.int).length 0 none = 0 := rfl
  rw [e1]
  have e2 : HT.sIx (ns.map V.int).length (ns.map V.int).length (some (m : Int)) = min m ns.length := by
    simp [HT.sIx]
    omega
  rw [e2, List.drop_zero, Nat.sub_zero, List.map_take]
  by_cases h : m ≤ ns.length
  · rw [Nat.min_eq_left h]
  · rw [Nat.min_eq_right (by omega), List.take_of_length_le (by simp), List.take_of_length_le (by simp; omega)]
end Z
namespace Z
open PySem PySem.Spec PyProof.Rows L2
theorem But.gr {p l : Addr} {H H' : Hp} {i j i' j' : Int} (e : But p H H') (h : H p = some (.lst [.ref l, .int i, .int j])) (h' : H' p = some (.lst [.ref l, .int i', .int j'])) : Gr H H' := fun a u ha => by
  by_cases z : a = p
  · subst z
    rw [h] at ha
    cases ha
    exact ⟨_, _, h'⟩
  · rw [e a u z ha]
    exact penTo_self u
theorem PenAt.set {K : PySem.W.Frag} {H H' : Hp} {p l : Addr} {cs : List Int} {i j i' j' : Int} {n' : Nat} (h : H p = some (.lst [.ref l, .int i, .int j])) (hl : H l = some (.lst (cs.map V.int))) (hc : cs.length ≤ 1000) (e : But p H H')
    (h' : H' p = some (.lst [.ref l, .int i', .int j'])) (h1 : 0 ≤ i') (h2 : i' + n' ≤ 1000000) : Gr H H' ∧ PenAt K H' p n' := by
  have g := e.gr h h'
  exact ⟨g, l, cs, i', j', h', g.get hl (pen_ints _), h1, h2, hc⟩
/-- something that was not there when the pen was is changed -/
theorem PenAt.but {K : PySem.W.Frag} {H H1 H2 : Hp} {p q : Addr} {n0 n : Nat} (h0 : PenAt K H p n0) (g : Gr H H1) (h1 : PenAt K H1 p n) (hq : H q = none) (e : But q H1 H2) : PenAt K H2 p n := by
  obtain ⟨l, cs, i, j, a1, a2, _, _, _⟩ := h0
  obtain ⟨l', cs', i', j', b1, b2, b3, b4, b5⟩ := h1
  obtain ⟨i2, j2, c1⟩ := g p _ a1
  rw [b1] at c1
  have el : l' = l := by
    injection c1 with c2
    injection c2 with c3
    injection c3 with c4
    injection c4
  subst el
  exact ⟨l', cs', i', j', e _ _ (ne_of_none a1 hq) b1, e _ _ (ne_of_none a2 hq) b2, b3, b4, b5⟩
/-- .. and all else is as it was -/
theorem Gr.but {H H1 H2 : Hp} {q : Addr} (g : Gr H H1) (hq : H q = none) (e : But q H1 H2) : Gr H H2 := fun a o h => by
  have h1 := g a o h
  have ne : a ≠ q := ne_of_none h hq
  unfold penTo at h1 ⊢
  split at h1
  · obtain ⟨i, j, h2⟩ := h1
    exact ⟨i, j, e a _ ne h2⟩
  · exact e a _ ne h1
theorem pow_bound {x : Int} {a : Nat} (h0 : 0 ≤ x) (h1 : x < 2 ^ a) : x.natAbs < 2 ^ a := by
  have := Int.natAbs_of_nonneg h0
  have h2 : (x.natAbs : Int) < ((2 ^ a : Nat) : Int) := by rw [this]; simpa using h1
  exact Int.ofNat_lt.mp h2
end Z
namespace Z
open PySem PySem.Spec PyProof.Rows L2
theorem dp_ints {K : PySem.W.Frag} {H : Hp} : ∀ ns : List Int, DpAll K H (ns.map V.int) (ns.map PyData.int)
  | [] => .nil
  | a :: r => .cons (.int a) (dp_ints r)
theorem lay_ints : ∀ ns : List Int, PyData.canLayAll0 (ns.map PyData.int) = true
  | [] => rfl
  | a :: r => by
    show (true && PyData.canLayAll0 (r.map PyData.int)) = true
    rw [lay_ints r]
    rfl
theorem deep_ints : ∀ ns : List Int, PyData.depthAll (ns.map PyData.int) = 0
  | [] => rfl
  | a :: r => by
    show max 0 (PyData.depthAll (r.map PyData.int)) = 0
    rw [deep_ints r]
    rfl
theorem shaped_ints (ns : List Int) : SeqAt.shaped (.list (ns.map PyData.int)) = true := by
  unfold SeqAt.shaped
  have e1 : (PyData.list (ns.map PyData.int)).canLay0 = true := lay_ints ns
  have e2 : (PyData.list (ns.map PyData.int)).depth = 1 := by
    show PyData.depthAll (ns.map PyData.int) + 1 = 1
    rw [deep_ints]
  rw [e1, e2]
  rfl
theorem eqvAll_ints : ∀ as bs : List Int, PyData.eqvAll (as.map PyData.int) (bs.map PyData.int) = decide (as = bs)
  | [], [] => by simp [PyData.eqvAll]
  | [], b :: s => by simp [PyData.eqvAll]
  | a :: r, [] => by simp [PyData.eqvAll]
  | a :: r, b :: s => by
    have ih := eqvAll_ints r s
    simp only [List.map_cons, PyData.eqvAll, PyData.eqv, ih, List.cons.injEq]
    by_cases h1 : a = b <;> by_cases h2 : r = s <;> simp [h1, h2]
theorem eqv_ints (as bs : List Int) : PyData.eqv (.list (as.map PyData.int)) (.list (bs.map PyData.int)) = decide (as = bs) := by
  have h := eqvAll_ints as bs
  simp only [PyData.eqv]
  exact h
section
variable {K : PySem.W.Frag} {H : Hp} {Q : VK} {p q : Addr} {as bs : List Int}
theorem r_eqL (h1 : SqL K H p (as.map V.int)) (h2 : SqL K H q (bs.map V.int)) (k : Q (.bl (decide (as = bs))) H) : rEqD K (.ref p) (.ref q) H Q :=
  ⟨_, _, .lst h1 (dp_ints as), .lst h2 (dp_ints bs), shaped_ints as, shaped_ints bs, by rw [eqv_ints]; exact k⟩
theorem r_neL (h1 : SqL K H p (as.map V.int)) (h2 : SqL K H q (bs.map V.int)) (k : Q (.bl (!decide (as = bs))) H) : rNeD K (.ref p) (.ref q) H Q :=
  ⟨_, _, .lst h1 (dp_ints as), .lst h2 (dp_ints bs), shaped_ints as, shaped_ints bs, by rw [eqv_ints]; exact k⟩
end
end Z
namespace Z
open PySem PySem.Spec PyProof.Rows L2
section
variable {K : PySem.W.Frag} {H : Hp} {Q : VK} {p q : Addr} {as bs : List Int}
theorem r_eqL0 (h1 : SqL K H p (as.map V.int)) (h2 : SqL K H q []) (k : Q (.bl (decide (as = []))) H) : rEqD K (.ref p) (.ref q) H Q := r_eqL (bs := []) h1 h2 k
theorem r_neL0 (h1 : SqL K H p (as.map V.int)) (h2 : SqL K H q []) (k : Q (.bl (!decide (as = []))) H) : rNeD K (.ref p) (.ref q) H Q := r_neL (bs := []) h1 h2 k
end
theorem atI_lt {xs : List V} {k : Int} (h0 : 0 ≤ k) (h1 : k < xs.length) : atI xs k = some (xs[k.toNat]'(by omega)) := by
  unfold atI ixN
  rw [if_pos (by omega), if_pos (by omega)]
  simp only [Option.bind_some]
  exact List.getElem?_eq_getElem _
theorem atI_ints {cs : List Int} {k : Int} (h0 : 0 ≤ k) (h1 : k < cs.length) : atI (cs.map V.int) k = some (.int (cs[k.toNat]'(by omega))) := by
  rw [atI_lt h0 (by simpa using h1)]
  simp
end Z

/-! Z: what the head tells: function objects by paths, and a list of truths. -/
namespace Z
open PySem PySem.Spec PyProof.Rows L2 He

/-- a def of the text: where its function object stands, its names, its statement, its defaults -/
structure Fn where
  ad : PySem.W.Frag → Addr
  nm : Str
  ql : Str
  st : Stmt
  df : List Dv := []
  kd : List (Str × Dv) := []
  er : Bool := false
def fnAt (K : PySem.W.Frag) (a : Addr) : FnW :=
  (K.lookup a).bind fun o => match o.data with
    | .func d => some (d.name, d.qualname, d.params, d.body, d.scope, d.globals, d.closure, d.builtins)
    | _ => none
/-- the same without the closure (an error's __init__) -/
def fnAtE (K : PySem.W.Frag) (a : Addr) : FnW := (K.lookup a).bind fun o => match o.data with
  | .func d => some (d.name, d.qualname, d.params, d.body, d.scope, d.globals, [], d.builtins)
  | _ => none
def Fn.at_ (f : Fn) (K : PySem.W.Frag) : FnW := if f.er then fnAtE K (f.ad K) else fnAt K (f.ad K)
def Fn.due (f : Fn) : FnW := some (f.nm, f.ql, defArgs f.st, .stmts (defBody f.st), defScope f.st, mainGlobals, [], builtinsNs)
def Fn.vs (f : Fn) (K : PySem.W.Frag) : List V := f.df.map (Dv.v K)
def Fn.ks (f : Fn) (K : PySem.W.Frag) : List (Str × V) := f.kd.map fun q => (q.1, q.2.v K)
def Fn.good (f : Fn) (K : PySem.W.Frag) : Bool := f.er || PySem.W.keepIn K (.ref (f.ad K)) && match (K.lookup (f.ad K)).map (fun o : Obj => o.data) with
  | some (PySem.Data.func d) => PySem.W.codeIn K d.code f.ql && (dflB K d.defaults (f.vs K) && kwdB K d.kwdefaults (f.ks K))
  | _ => false
theorem Fn.fun (f : Fn) {K : PySem.W.Frag} (e : fnAt K (f.ad K) = f.due) (c : f.good K = true) (he : f.er = false) :
    ∃ d, FunD K f.nm f.ql (defArgs f.st) (defBody f.st) (defScope f.st) (f.vs K) (f.ks K) (f.ad K) d := by
  unfold Fn.good at c
  rw [he, Bool.false_or] at c
  obtain ⟨kp, c⟩ := Bool.and_eq_true_iff.mp c
  unfold fnAt at e
  cases q : K.lookup (f.ad K) with
  | none =>
    rw [q] at c
    cases c
  | some o =>
    obtain ⟨oc, od, dt, osl⟩ := o
    rw [q] at c e
    cases dt with
    | func d =>
      obtain ⟨n1, n2, n3, n4, n5, n6, n7, n8, n9, n10, n11, n12, n13, n14, n15⟩ := d
      have e2 : some (n1, n2, n3, n4, n5, n6, n7, n15) = f.due := e
      unfold Fn.due at e2
      simp only [Option.some.injEq, Prod.mk.injEq] at e2
      obtain ⟨h1, h2, h3, h4, h5, h6, h7, h8⟩ := e2
      subst h1 h2 h3 h4 h5 h6 h7 h8
      obtain ⟨k1, k2⟩ := Bool.and_eq_true_iff.mp (show (PySem.W.codeIn K n13 f.ql && (dflB K n8 (f.vs K) && kwdB K n9 (f.ks K))) = true from c)
      obtain ⟨k3, k4⟩ := Bool.and_eq_true_iff.mp k2
      exact ⟨_, ⟨oc, od, n8, n9, n10, n11, n12, n13, n14, osl, rfl, q, k1, dflB_ok k3, kwdB_ok k4⟩, kp⟩
    | _ => cases c
/-- what is told of the written part -/
structure Says (fs : List Fn) (ex : PySem.W.Frag → List Bool) (K : PySem.W.Frag) : Prop where
  fn : fs.map (fun f => f.at_ K) = fs.map Fn.due
  ok : (fs.all fun f => f.good K) = true
  ex : ((ex K).all fun b => b) = true
theorem Says.def_ {fs : List Fn} {ex : PySem.W.Frag → List Bool} {K : PySem.W.Frag} (c : Says fs ex K) (i : Nat) {f : Fn} (h : fs[i]? = some f := by rfl) (he : f.er = false := by rfl) :
    ∃ d, FunD K f.nm f.ql (defArgs f.st) (defBody f.st) (defScope f.st) (f.vs K) (f.ks K) (f.ad K) d := by
  have e := congrArg (fun l => l[i]?) c.fn
  simp only [List.getElem?_map, h, Option.map_some, Option.some.injEq] at e
  unfold Fn.at_ at e
  rw [he] at e
  exact f.fun e (List.all_eq_true.mp c.ok f (List.mem_of_getElem? h)) he
theorem Says.err_ {fs : List Fn} {ex : PySem.W.Frag → List Bool} {K : PySem.W.Frag} (c : Says fs ex K) (i : Nat) {f : Fn} (h : fs[i]? = some f := by rfl) (he : f.er = true := by rfl) : fnAtE K (f.ad K) = f.due := by
  have e := congrArg (fun l => l[i]?) c.fn
  simp only [List.getElem?_map, h, Option.map_some, Option.some.injEq] at e
  unfold Fn.at_ at e
  rw [he] at e
  exact e
theorem Says.at_ {fs : List Fn} {ex : PySem.W.Frag → List Bool} {K : PySem.W.Frag} (c : Says fs ex K) (i : Nat) {b : Bool} (h : (ex K)[i]? = some b := by rfl) : b = true :=
  List.all_eq_true.mp c.ex b (List.mem_of_getElem? h)
theorem Says.dec {fs : List Fn} {ex : PySem.W.Frag → List Bool} {K : PySem.W.Frag} (c : Says fs ex K) (i : Nat) {p : Prop} {dp : Decidable p} (h : (ex K)[i]? = some (@decide p dp) := by rfl) : p :=
  of_decide_eq_true (c.at_ i h)
abbrev Al : Type := List FnW × (Bool × Bool)
def obs (n : Nat) (fs : List Fn) (ex : PySem.W.Frag → List Bool) (g : Addr → Option Obj) : Al :=
  (fs.map (fun f => f.at_ (frG g (PySem.cStatics :: asD g n))), (fs.all fun f => f.good (frG g (PySem.cStatics :: asD g n))), (ex (frG g (PySem.cStatics :: asD g n))).all fun b => b)
def val (fs : List Fn) : Al := (fs.map Fn.due, true, true)
def hook (n : Nat) (fs : List Fn) (ex : PySem.W.Frag → List Bool) : PySem.W.Hook where
  α := Al
  obs := fun s => obs n fs ex s.heap.get?
  val := fun _ => val fs
  says := fun _ h => ∃ K : PySem.W.Frag, K.In h ∧ Says fs ex K
  of := fun _ _ e => ⟨_, frG_in, ⟨congrArg (·.1) e, congrArg (·.2.1) e, congrArg (·.2.2) e⟩⟩
  keeps := fun _ _ _ ⟨K, hK, c⟩ k => ⟨K, PySem.W.Frag.In.keeps hK k, c⟩
theorem obs_eq {n : Nat} {fs : List Fn} {ex : PySem.W.Frag → List Bool} {g : Addr → Option Obj} {s : Shared} (h : ∀ a, g a = s.heap.get? a) : obs n fs ex g = (hook n fs ex).obs s := by
  have e : g = s.heap.get? := funext h
  rw [e]
  rfl
/-- the object that a record names first -/
def recAd (K : PySem.W.Frag) (p : Addr) (T : String) : Addr := match PySem.W.recIn K p T with
  | some (.ref g :: _) => g
  | _ => 0
end Z

/-! Z: operators of own classes, by their methods' promises. -/
namespace Z
open PySem PySem.Spec PyProof.Rows L2
section
variable {X : Cx} {CX : CXT} {k : Nat} {C f : Addr} {fd : FuncData} {ps : List Str} {sp : Sp} {E : XK}
/-- the instance at a, as the library sees it -/
theorem ins_look {pins : List (Addr × Obj)} {σ : L2.St} {H : Hp} {s : Shared} {a dx : Addr} {fs : List (Str × V)} (I : Inv X pins σ H s) (e : H a = some (.ins C dx fs)) :
    ∃ ox od, PySem.W.InstAt s.heap a ox C od := by
  obtain ⟨mA, o, _⟩ := ins_get I.hok e
  obtain ⟨od, h, _⟩ := o.look
  exact ⟨_, _, h⟩
theorem back_of {pins : List (Addr × Obj)} {σ : L2.St} {Q : VK} {v : Value} {s : Shared} (h : EP X pins σ Q v s) : PySem.W.CmpBack (EP X pins σ Q) v s := by
  cases v with
  | notImplemented =>
    obtain ⟨x, H', _, r, _⟩ := h
    cases x <;> first | exact nomatch r | (obtain ⟨_, r⟩ := r; exact nomatch r)
  | _ => exact h
/-- a op b, two instances of the class at C -/
def rOO (C : Addr) (sp : Sp) (E : XK) : R2 := fun x y H Q => ∃ a b dx dy fs gs, x = .ref a ∧ y = .ref b ∧ H a = some (.ins C dx fs) ∧ H b = some (.ins C dy gs) ∧ sp [.ref a, .ref b] H Q E
theorem op_oo {op : Operator} (hc : PySem.W.selfFirst X.K C = true) (hs : PySem.W.findIn X.K (.ref C) (PySem.dunder op.info.2) = some (some (.ref f))) (hf : PySem.W.isFn X.K (.ref f) = true)
    (F : FnOk X.prog X.w X.K X.mg X.base CX k f fd ps sp) (hr : Room k X.A) (hb : Binds X.K fd ps []) (hx : Passes CX X E) : OpR X (binaryOp op) (rOO C sp E) := by
  intro pins s σ H x y v u Q I rx ry h
  obtain ⟨a, b, dx, dy, fs, gs, rfl, rfl, ha, hb2, hsp⟩ := h
  obtain rfl : v = Value.ref a := rx
  obtain rfl : u = Value.ref b := ry
  obtain ⟨ox, od, i1⟩ := ins_look I ha
  obtain ⟨oy, oe, i2⟩ := ins_look I hb2
  obtain ⟨m, fr⟩ := I.fr
  refine PySem.W.binop_K fr I.ok.mod.kin i1 i2.type hc hs hf (wpAny_mono (run_fn (vs := [.ref a, .ref b]) F hr hb .nil hx I (.cons rfl (.cons rfl .nil)) (by simpa using hsp)) (fun _ _ q => back_of q) fun _ _ q => q)
/-- a op n, an instance and an int -/
def rOI (C : Addr) (sp : Sp) (E : XK) : R2 := fun x y H Q => ∃ a n dx fs, x = .ref a ∧ y = .int n ∧ H a = some (.ins C dx fs) ∧ sp [.ref a, .int n] H Q E
theorem op_oi {op : Operator} {rc : Option Value} (hc : PySem.W.selfFirst X.K C = true) (hs : PySem.W.findIn X.K (.ref C) (PySem.dunder op.info.2) = some (some (.ref f))) (hf : PySem.W.isFn X.K (.ref f) = true)
    (hr2 : PySem.W.findIn X.K (.ref C) (dunderR op.info.2) = some rc) (hp : rc = none ∨ ∃ g : Addr, rc = some (.ref g)) (h1 : (PySem.W.findIn X.K (.type "int") (PySem.dunder op.info.2)).isSome = true) (h2 : (PySem.W.findIn X.K (.type "int") (dunderR op.info.2)).isSome = true)
    (hsub : PySem.W.subIn X.K (.type "int") (.ref C) = some false)
    (F : FnOk X.prog X.w X.K X.mg X.base CX k f fd ps sp) (hr : Room k X.A) (hb : Binds X.K fd ps []) (hx : Passes CX X E) : OpR X (binaryOp op) (rOI C sp E) := by
  intro pins s σ H x y v u Q I rx ry h
  obtain ⟨a, n, dx, fs, rfl, rfl, ha, hsp⟩ := h
  obtain rfl : v = Value.ref a := rx
  obtain ⟨t, rfl⟩ : ∃ t, u = Value.int n t := ry
  obtain ⟨ox, od, i1⟩ := ins_look I ha
  obtain ⟨m, fr⟩ := I.fr
  refine PySem.W.ksp_binT fr I.ok.mod.kin i1 rfl hc hs hf hr2 hp (Option.isSome_iff_exists.mp h1).choose_spec (Option.isSome_iff_exists.mp h2).choose_spec hsub (wpAny_mono (run_fn (vs := [.ref a, .int n]) F hr hb .nil hx I (.cons rfl (.cons ⟨t, rfl⟩ .nil)) (by simpa using hsp)) (fun _ _ q => back_of q) fun _ _ q => q)
/-- a cmp b, two instances -/
theorem op_cc {op : CmpOp} (hop : ∀ a b, compareOp op a b = richCompare op a b) (hs : PySem.W.findIn X.K (.ref C) (cmpInfo op).2.1 = some (some (.ref f))) (hf : PySem.W.isFn X.K (.ref f) = true)
    (F : FnOk X.prog X.w X.K X.mg X.base CX k f fd ps sp) (hr : Room k X.A) (hb : Binds X.K fd ps []) (hx : Passes CX X E) : OpR X (compareOp op) (rOO C sp E) := by
  intro pins s σ H x y v u Q I rx ry h
  obtain ⟨a, b, dx, dy, fs, gs, rfl, rfl, ha, hb2, hsp⟩ := h
  obtain rfl : v = Value.ref a := rx
  obtain rfl : u = Value.ref b := ry
  obtain ⟨ox, od, i1⟩ := ins_look I ha
  obtain ⟨oy, oe, i2⟩ := ins_look I hb2
  obtain ⟨m, fr⟩ := I.fr
  rw [hop]
  have hu := hr.un
  refine PySem.W.cmp_K (by omega) fr I.ok.mod.kin i1 i2.type (by unfold PySem.W.notFirst; simp) hs hf (wpAny_mono (run_fn (vs := [.ref a, .ref b]) F hr hb .nil hx I (.cons rfl (.cons rfl .nil)) (by simpa using hsp)) (fun _ _ q => back_of q) fun _ _ q => q)
/-- ~a -/
def rO1 (C : Addr) (sp : Sp) (E : XK) : V → Hp → VK → Prop := fun x H Q => ∃ a dx fs, x = .ref a ∧ H a = some (.ins C dx fs) ∧ sp [.ref a] H Q E
theorem un_inv_o (hs : PySem.W.findIn X.K (.ref C) "__invert__" = some (some (.ref f))) (hf : PySem.W.isFn X.K (.ref f) = true)
    (F : FnOk X.prog X.w X.K X.mg X.base CX k f fd ps sp) (hr : Room k X.A) (hb : Binds X.K fd ps []) (hx : Passes CX X E) : UnR X (unaryOp .Invert) (rO1 C sp E) := by
  intro pins s σ H x v Q I rx h
  obtain ⟨a, dx, fs, rfl, ha, hsp⟩ := h
  obtain rfl : v = Value.ref a := rx
  obtain ⟨ox, od, i1⟩ := ins_look I ha
  obtain ⟨m, fr⟩ := I.fr
  exact PySem.W.ksp_inv fr I.ok.mod.kin i1 hs hf (run_fn (vs := [.ref a]) F hr hb .nil hx I (.cons rfl .nil) (by simpa using hsp))
end
end Z
namespace Z
open PySem PySem.Spec PyProof.Rows L2
open AutoSeq1 (wpAny_loadPart')
abbrev Declines (B : Builtin) : Prop := ∀ (b : Int) (u : Tok) (l C : Addr) (dx : Option Addr) (sl : Array (Option Value)),
    Meets (B ⟨[.int b u, .ref l], []⟩) (fun _ R s => s.heap.get? l = some { cls := .ref C, dict := dx, data := .plain, slots := sl } ∧ R (.ok (.ret .notImplemented)) s)
theorem no_mul : Declines Builtin.«int.__mul__» := fun b u l C dx sl => .of_wp fun prog w A R s h => by
  obtain ⟨hp, g, d, tk, os⟩ := s
  obtain ⟨hl, h⟩ := h
  wp_walk using wpAny_loadPart' hl, wpAny_load hl
  exact ⟨_, rfl, h⟩
theorem no_add : Declines Builtin.«int.__add__» := fun b u l C dx sl => .of_wp fun prog w A R s h => by
  obtain ⟨hp, g, d, tk, os⟩ := s
  obtain ⟨hl, h⟩ := h
  wp_walk using wpAny_loadPart' hl, wpAny_load hl
  exact ⟨_, rfl, h⟩
theorem no_sub : Declines Builtin.«int.__sub__» := fun b u l C dx sl => .of_wp fun prog w A R s h => by
  obtain ⟨hp, g, d, tk, os⟩ := s
  obtain ⟨hl, h⟩ := h
  wp_walk using wpAny_loadPart' hl, wpAny_load hl
  exact ⟨_, rfl, h⟩
theorem no_xor : Declines Builtin.«int.__xor__» := fun b u l C dx sl => .of_wp fun prog w A R s h => by
  obtain ⟨hp, g, d, tk, os⟩ := s
  obtain ⟨hl, h⟩ := h
  wp_walk using wpAny_loadPart' hl, wpAny_load hl
  exact ⟨_, rfl, h⟩

/-- n op b, an int and an instance: the instance's reflected method -/
def rIO (C : Addr) (sp : Sp) (E : XK) : R2 := fun x y H Q => ∃ n b dx fs, x = .int n ∧ y = .ref b ∧ H b = some (.ins C dx fs) ∧ sp [.ref b, .int n] H Q E
section
variable {X : Cx} {CX : CXT} {k : Nat} {C f f0 : Addr} {fd : FuncData} {ps : List Str} {sp : Sp} {E : XK}
theorem op_io {op : Operator} {idl : String} {B : Builtin} (slot : Slot "int" (PySem.dunder op.info.2) idl) (entry : entryFor table idl = some B) (args : ∀ a b, argsOk idl ⟨[a, b], []⟩) (no : Declines B)
    (fi : fillsNumberSlot (.type "int") op.info.2 = pure true) (hc : PySem.W.selfFirst X.K C = true)
    (hs : PySem.W.findIn X.K (.ref C) (dunderR op.info.2) = some (some (.ref f))) (h0 : PySem.W.findIn X.K (.ref C) (PySem.dunder op.info.2) = some (some (.ref f0))) (hf : PySem.W.isFn X.K (.ref f) = true)
    (hsub : PySem.W.subIn X.K (.ref C) (.type "int") = some false)
    (F : FnOk X.prog X.w X.K X.mg X.base CX k f fd ps sp) (hr : Room k X.A) (hb : Binds X.K fd ps []) (hx : Passes CX X E) : OpR X (binaryOp op) (rIO C sp E) := by
  intro pins s σ H x y v u Q I rx ry h
  obtain ⟨n, b, dx, fs, rfl, rfl, hb1, hsp⟩ := h
  obtain rfl : u = Value.ref b := ry
  obtain ⟨t, rfl⟩ : ∃ t, v = Value.int n t := rx
  obtain ⟨mA, o, _⟩ := ins_get I.hok hb1
  obtain ⟨od, i1, _⟩ := o.look
  have X1 : X.K.In s.heap := I.kIn
  obtain ⟨cd, rest, hcd, hm⟩ := PySem.W.ksp_first hc
  have two := wpAny_mono (run_fn (vs := [.ref b, .int n]) F hr hb .nil hx I (.cons rfl (.cons ⟨t, rfl⟩ .nil)) (by simpa using hsp)) (fun _ _ q => back_of q) fun _ _ q => q
  rcases hi : op.info with ⟨sym, nm⟩
  rw [hi] at slot fi hs h0
  dsimp only at slot fi hs h0
  have one := PySem.W.ksp_try X1 i1 hs hf two
  obtain ⟨hh, g, d, tt, os⟩ := s
  have L2' : PySem.W.Looks (model X.prog X.w) hh (typeOf (.ref b)) (.ref C) := i1.type
  have L4 : PySem.W.Looks (model X.prog X.w) hh (fillsNumberSlot (.ref C) nm) true := PySem.W.fills_K X1 hcd hm h0
  have L5 : PySem.W.Looks (model X.prog X.w) hh (isSubtype (.ref C) (.type "int")) false := PySem.W.looks_subIn X1 hsub
  have L7 : PySem.W.Looks (model X.prog X.w) hh (numberSlotInPython (.type "int") nm) false := PySem.W.Looks.of_pure rfl
  have hne : (Value.type "int" == Value.ref C) = false := Bool.eq_false_iff.mpr fun q => by cases beq_iff_eq.mp q
  simp only [binaryOp, hi]
  refine wpAny_holding (wpAny_bind ?_)
  unfold binaryOp1
  refine wpAny_bind (wpAny_of_eq (show typeOf (.int n t) = pure (.type "int") from rfl) (wpAny_bind (L2'.at (wpAny_bind (wpAny_of_eq fi ?_)))))
  simp only [hne, Bool.false_eq_true, if_false]
  refine wpAny_bind (L4.at ?_)
  simp only [Bool.and_true, if_true, Bool.true_and]
  refine wpAny_bind (L5.at ?_)
  simp only [Bool.false_eq_true, if_false, Bool.not_false, if_true]
  refine wpAny_bind (L7.at ?_)
  simp only [Bool.false_eq_true, if_false]
  refine wpAny_bind (wpAny_tryMethod_declines (typeIs_int _ n t) slot (call_meets slot (typeIs_int _ n t) entry (args _ _) (no n t b C (some dx) #[]) ⟨o.obj, rfl, ?_⟩))
  simp only []
  refine wpAny_bind (wpAny_mono one (fun r s' hr' => ?_) fun _ _ e => e)
  obtain ⟨v, rfl, hq⟩ := hr'
  ksp_lk
  exact hq
end
end Z

namespace Z
open PySem PySem.Spec PyProof.Rows L2
/-! ### C.m(..), m a static method -/
structure SMet (K : PySem.W.Frag) (C : Addr) (m : Str) (p g : Addr) : Prop where
  rd : PySem.W.readsIn K C (.type "type") = true
  ga : PySem.W.specialIn K (.ref C) "__getattribute__" = some (some (.builtin "type.__getattribute__"))
  to : PySem.W.findCls K (.ref C) (.type "type") m = some (.get (.builtin "staticmethod.__get__") (.ref p) .none (.ref C))
  rc : (PySem.W.recIn K p "staticmethod").bind List.head? = some (.ref g)
  kp : PySem.W.keepIn K (.ref g) = true
def tSM (C : Addr) (sp : Sp) (E : XK) (ta : TE) (t : TA) : TE := fun σ H Q => ta σ H fun x H1 => x = .ref C ∧ t σ H1 fun vs H2 => sp vs H2 Q E
section
variable {X : Cx} {CX : CXT} {k : Nat} {C p g : Addr} {fd : FuncData} {ps : List Str} {sp : Sp} {E : XK} {o e : Expr} {es : List Expr} {m : Str} {pos apos : Pos} {ta : TE} {t : TA} {pl : Sem Bool}
theorem pe_sm (he : PE X o ta) (c : SMet X.K C m p g) (F : FnOk X.prog X.w X.K X.mg X.base CX k g fd ps sp) (hr : Room k X.A) (hb : Binds X.K fd ps []) (hx : Passes CX X E) (ha : PA X (e :: es) t)
    (hst : starEach (e :: es) X.env = (false, eval e X.env) :: starEach es X.env := by rfl) (hpl : (backTo pos (starEach es X.env)).any (·.1) = false := by rfl)
    (ht : eval (.Call (.Attribute o m apos) (e :: es) [] pos) X.env = (eval o X.env >>= fun ov => standAt apos.atName >>= fun _ => holding [ov] (getMethod ov m pl) >>= fun q => callWith pos q.1 q.2 (backTo pos (starEach (e :: es) X.env)) (backToKw pos (keywordEach [] X.env))) := by rfl) :
    PE X (.Call (.Attribute o m apos) (e :: es) [] pos) (tSM C sp E ta t) := by
  refine ⟨fun pins s σ H Q I h => ?_⟩
  refine PySem.W.methodCall_KW (pl := pl) (thn (he.run pins s σ H _ I h) fun u s1 ⟨x, H1, I1, rx, ex, q⟩ => ?_) ht
  subst ex
  obtain rfl : u = Value.ref C := rx
  have hrc := c.rc
  cases hq : PySem.W.recIn X.K p "staticmethod" with
  | none =>
    rw [hq] at hrc
    cases hrc
  | some l =>
    cases l with
    | nil =>
      rw [hq] at hrc
      cases hrc
    | cons a r =>
      rw [hq] at hrc
      obtain rfl : a = Value.ref g := Option.some.inj hrc
      refine PySem.W.method_cls I1.kIn c.ga (PySem.W.cls_bind I1.kIn c.rd c.to (wpAny_call (PySem.W.sm_get (s := { s1 with toks := s1.toks + 1 }) I1.kIn hq (PySem.W.handed_on rfl ?_))))
      refine PySem.W.callWith_K (h₀ := X.base) I1.ok.mod.kin c.kp (thn (ha.run pos pins _ σ H1 _ (I1.tok _) q) fun us s3 ⟨vs, H2, I3, rv, q2⟩ => ⟨I3.kIn, ?_⟩) hst hpl
      exact run_fn F hr hb .nil hx I3 rv (by simpa using q2)
end
/-! ### what isinstance tells of values -/
def isI : V → Bool
  | .int _ => true
  | _ => false
/-- the class of v is known, and it is that of ints just if v is one -/
def KI (K : PySem.W.Frag) (H : Hp) (v : V) : Prop := ∃ t b1 b2, TyX K H v t ∧ PySem.W.kitOne K t (.type "int") = some b1 ∧ PySem.W.kitOne K t (.type "bool") = some b2 ∧ isI v = (b1 && !b2)
theorem ki_int {K : PySem.W.Frag} {H : Hp} (i : Int) : KI K H (.int i) := ⟨_, true, false, .base (.int i), kit_ty (by decide +kernel), kit_ty (by decide +kernel), rfl⟩
theorem ki_bl {K : PySem.W.Frag} {H : Hp} (i : Bool) : KI K H (.bl i) := ⟨_, true, true, .base (.bl i), kit_ty (by decide +kernel), kit_ty (by decide +kernel), rfl⟩
theorem ki_non {K : PySem.W.Frag} {H : Hp} : KI K H .non := ⟨_, false, false, .base .non, kit_ty (by decide +kernel), kit_ty (by decide +kernel), rfl⟩
theorem ki_str {K : PySem.W.Frag} {H : Hp} (i : Str) : KI K H (.str i) := ⟨_, false, false, .base (.str i), kit_ty (by decide +kernel), kit_ty (by decide +kernel), rfl⟩
def btw (v : V) (lo hi : Int) : Bool := match v with
  | .int i => decide (lo ≤ i) && decide (i ≤ hi)
  | _ => false
def spIsI (K : PySem.W.Frag) : Sp := fun vs H Q _ => ∃ v, vs = [v] ∧ KI K H v ∧ Q (.bl (isI v)) H
def spBtw (K : PySem.W.Frag) : Sp := fun vs H Q _ => ∃ v lo hi, vs = [v, .int lo, .int hi] ∧ KI K H v ∧ Q (.bl (btw v lo hi)) H
theorem r_isi {K : PySem.W.Frag} {H : Hp} {Q : VK} {x : V} {n : String} {t : Value} {b : Bool} (h : TyX K H x t) (hk : PySem.W.kitOne K t (.type n) = some b) (k : Q (.bl b) H) : rIsi K [x, .ty n] H Q := ⟨x, .ty n, t, .type n, b, rfl, .ty n, h, hk, k⟩
theorem r_isiC {K : PySem.W.Frag} {H : Hp} {Q : VK} {x : V} {C : Addr} {t : Value} {b : Bool} (h : TyX K H x t) (hk : PySem.W.kitOne K t (.ref C) = some b) (k : Q (.bl b) H) : rIsi K [x, .ref C] H Q := ⟨x, .ref C, t, .ref C, b, rfl, .own C, h, hk, k⟩
end Z

namespace Z
open PySem PySem.Spec PyProof.Rows L2
def rNeNil : R2 := fun x y H Q => ∃ l b xs, x = .ref l ∧ y = .ref b ∧ H l = some (.lst xs) ∧ H b = some (.lst []) ∧ Q (.bl (!xs.isEmpty)) H
theorem op_neNil {X : Cx} (hu : X.A.units < cLine) : OpR X (compareOp .NotEq) rNeNil := by
  intro pins s σ H x y v u Q I rx ry h
  obtain ⟨l, b, xs, rfl, rfl, hl, hb, q⟩ := h
  obtain rfl : v = Value.ref l := rx
  obtain rfl : u = Value.ref b := ry
  obtain ⟨_, its, n, r, e1⟩ := I.hok l _ hl
  obtain ⟨_, its2, n2, r2, e2⟩ := I.hok b _ hb
  cases r2
  show wpAny _ _ (richCompare .NotEq (.ref l) (.ref b)) _ _ _
  cases r with
  | nil =>
    refine wpAny_richCompare_same_room (op := .NotEq) ⟨_, e1, rfl⟩ ⟨_, e2, rfl⟩ F.slot_list_ne (call_meets F.slot_list_ne ⟨_, e1, rfl⟩ F.entry_list_ne (F.args_list_ne_2 _ _) (SeqAt.list_neAt l b #[] #[] n n2 none none #[] #[] rfl (fun _ => true)) ⟨e1, e2, fun j h1 _ => absurd h1 (by simp), ?_⟩) hu
    exact ⟨nofun, .bl false, H, I, rfl, q⟩
  | cons r0 rs =>
    refine wpAny_richCompare_same_room (op := .NotEq) ⟨_, e1, rfl⟩ ⟨_, e2, rfl⟩ F.slot_list_ne (call_meets F.slot_list_ne ⟨_, e1, rfl⟩ F.entry_list_ne (F.args_list_ne_2 _ _) (SeqAt.list_ne_lengthsAt l b _ #[] n n2 none none #[] #[] (by simp)) ⟨e1, e2, ?_⟩) hu
    exact ⟨nofun, .bl true, H, I, rfl, q⟩
theorem r_neNil {H : Hp} {Q : VK} {l b : Addr} {xs : List V} (h1 : H l = some (.lst xs)) (h2 : H b = some (.lst [])) (k : Q (.bl (!xs.isEmpty)) H) : rNeNil (.ref l) (.ref b) H Q := ⟨l, b, xs, rfl, rfl, h1, h2, k⟩
end Z

/-! Z: words: the values, the promises of words.py -/
namespace Z
open PySem PySem.Spec PyProof.Rows L2
def topI (w : Int) : Int := 2 ^ w.toNat - 1
def osum (w a b : Int) : Int := if a + b ≤ topI w then a + b else a + b - topI w
def omul (w v t : Int) : Int := if t = 0 ∨ v = 0 then 0 else (t * v - 1) % topI w + 1
def orest (w v : Int) : Int := if v = topI w then 0 else v
/-- a width and a value of a word -/
def InW (w v : Int) : Prop := 1 ≤ w ∧ w ≤ 64 ∧ 0 ≤ v ∧ v ≤ topI w
theorem pow64 {n : Nat} (h : n ≤ 64) : (2 : Int) ^ n ≤ 2 ^ 64 := by
  have : (2 : Nat) ^ n ≤ 2 ^ 64 := Nat.pow_le_pow_right (by decide) h
  exact_mod_cast this
theorem topI_pos {w : Int} (h : 1 ≤ w) : 1 ≤ topI w := by
  unfold topI
  have h1 : (2 : Nat) ^ 1 ≤ 2 ^ w.toNat := Nat.pow_le_pow_right (by decide) (by omega)
  have h2 : (2 : Int) ^ 1 ≤ 2 ^ w.toNat := by exact_mod_cast h1
  omega
theorem topI_lt {w : Int} (h : w ≤ 64) : topI w < 2 ^ 64 := by
  unfold topI
  have := pow64 (n := w.toNat) (by omega)
  omega
theorem osum_in {w a b : Int} (ha : InW w a) (hb : InW w b) : InW w (osum w a b) := by
  obtain ⟨h1, h2, h3, h4⟩ := ha
  obtain ⟨_, _, h5, h6⟩ := hb
  have := topI_pos h1
  unfold osum
  refine ⟨h1, h2, ?_, ?_⟩ <;> split <;> omega
theorem omul_in {w v t : Int} (h : InW w v) (ht : 0 ≤ t) : InW w (omul w v t) := by
  obtain ⟨h1, h2, h3, h4⟩ := h
  have hp := topI_pos h1
  have e1 := Int.emod_nonneg (t * v - 1) (show topI w ≠ 0 by omega)
  have e2 := Int.emod_lt_of_pos (t * v - 1) (show 0 < topI w by omega)
  unfold omul
  refine ⟨h1, h2, ?_, ?_⟩ <;> split <;> omega
theorem comp_in {w v : Int} (h : InW w v) : InW w (topI w - v) := by
  obtain ⟨h1, h2, h3, h4⟩ := h
  exact ⟨h1, h2, by omega, by omega⟩
/-- the attributes of a word -/
def wf (w v : Int) : List (Str × V) := [("width", .int w), ("value", .int v)]
theorem wf_ne : ¬ (("width" : Str) = "value") := by decide +kernel
theorem wf_put (w v : Int) : putF "value" (.int v) (putF "width" (.int w) []) = wf w v := by
  show (if ("width" : Str) = "value" then _ else (("width" : Str), V.int w) :: putF "value" (V.int v) []) = wf w v
  rw [if_neg wf_ne]
  rfl
theorem wf_e1 : (("width" : Str) == "width") = true := by decide +kernel
theorem wf_e2 : (("value" : Str) == "width") = false := by decide +kernel
theorem wf_e3 : (("value" : Str) == "value") = true := by decide +kernel
theorem wf_width (w v : Int) : (wf w v).lookup ("width" : Str) = some (.int w) := by
  unfold wf
  simp only [List.lookup, wf_e1]
theorem wf_value (w v : Int) : (wf w v).lookup ("value" : Str) = some (.int v) := by
  unfold wf
  simp only [List.lookup, wf_e2, wf_e3]
theorem wf_no {w v : Int} {m : Str} (h1 : (m == "width") = false) (h2 : (m == "value") = false) : (wf w v).lookup m = none := by
  show (match (m == "width") with | true => some (V.int w) | false => (match (m == "value") with | true => some (V.int v) | false => none)) = _
  rw [h1, h2]
/-- a word stands at a -/
def IsW (C : Addr) (H : Hp) (a : Addr) (w v : Int) : Prop := InW w v ∧ ∃ dx, H a = some (.ins C dx (wf w v))
theorem IsW.ex {C : Addr} {H H' : Hp} {a : Addr} {w v : Int} (e : Ex H H') (h : IsW C H a w v) : IsW C H' a w v := ⟨h.1, h.2.choose, e _ _ h.2.choose_spec⟩
theorem IsW.gr {C : Addr} {H H' : Hp} {a : Addr} {w v : Int} (e : Gr H H') (h : IsW C H a w v) : IsW C H' a w v := ⟨h.1, h.2.choose, e.get h.2.choose_spec rfl⟩
theorem IsW.but {C l : Addr} {H H' : Hp} {a : Addr} {w v : Int} {xs : List V} (e : But l H H') (hl : H l = some (.lst xs)) (h : IsW C H a w v) : IsW C H' a w v :=
  ⟨h.1, h.2.choose, e _ _ (ne_of h.2.choose_spec hl (by intro z; cases z)) h.2.choose_spec⟩
/-- a new word is handed back -/
abbrev RetW (C : Addr) (H : Hp) (Q : VK) (w v : Int) : Prop := ∀ x H', Ex H H' → IsW C H' x w v → Q (.ref x) H'
def spTop : Sp := fun vs H Q _ => ∃ w, vs = [.int w] ∧ 0 ≤ w ∧ w ≤ 1000 ∧ Q (.int (topI w)) H
def spInitW (C : Addr) : Sp := fun vs H Q _ => ∃ x dx w v, vs = [.ref x, .int w, .int v] ∧ InW w v ∧ H x = some (.ins C dx []) ∧ ∀ H', But x H H' → H' x = some (.ins C dx (wf w v)) → Q .non H'
def spSum (C : Addr) : Sp := fun vs H Q _ => ∃ w a b, vs = [.int w, .int a, .int b] ∧ InW w a ∧ InW w b ∧ RetW C H Q w (osum w a b)
def spMul (C : Addr) : Sp := fun vs H Q _ => ∃ w v t, vs = [.int w, .int v, .int t] ∧ InW w v ∧ 0 ≤ t ∧ t < 2 ^ 200 ∧ RetW C H Q w (omul w v t)
def spNeed : Sp := fun vs H Q _ => ∃ t, vs = [.int t] ∧ 0 ≤ t ∧ t ≤ 10 ^ 30 ∧ Q .non H
/-- an operand beside a word of the width w, and what it is worth -/
def Opd (C : Addr) (H : Hp) (w : Int) (y : V) (n : Int) : Prop := (∃ b, y = .ref b ∧ IsW C H b w n) ∨ (y = .int n ∧ InW w n)
theorem Opd.in_ {C : Addr} {H : Hp} {w n : Int} {y : V} (h : Opd C H w y n) : InW w n := by
  rcases h with ⟨b, _, h⟩ | ⟨_, h⟩
  · exact h.1
  · exact h
theorem Opd.ex {C : Addr} {H H' : Hp} {w n : Int} {y : V} (e : Ex H H') (h : Opd C H w y n) : Opd C H' w y n := by
  rcases h with ⟨b, q, h⟩ | h
  · exact .inl ⟨b, q, h.ex e⟩
  · exact .inr h
def spOpd (C : Addr) : Sp := fun vs H Q _ => ∃ a y w v n, vs = [.ref a, y] ∧ IsW C H a w v ∧ Opd C H w y n ∧ Q (.int n) H
def spRest : Sp := fun vs H Q _ => ∃ w v, vs = [.int w, .int v] ∧ InW w v ∧ Q (.int (orest w v)) H
def spW1 (C : Addr) (f : Int → Int) : Sp := fun vs H Q _ => ∃ w, vs = [.int w] ∧ 1 ≤ w ∧ w ≤ 64 ∧ RetW C H Q w (f w)
/-- a property of a word -/
def spWP (C : Addr) (f : Int → Int → V) : Sp := fun vs H Q _ => ∃ a w v, vs = [.ref a] ∧ IsW C H a w v ∧ Q (f w v) H
/-- ~a and its like -/
def spWW (C : Addr) (f : Int → Int → Int) : Sp := fun vs H Q _ => ∃ a w v, vs = [.ref a] ∧ IsW C H a w v ∧ RetW C H Q w (f w v)
/-- a op b, b an operand -/
def spWO (C : Addr) (f : Int → Int → Int → Int) : Sp := fun vs H Q _ => ∃ a y w v n, vs = [.ref a, y] ∧ IsW C H a w v ∧ Opd C H w y n ∧ RetW C H Q w (f w v n)
/-- a op t, t a number of times -/
def spWT (C : Addr) (f : Int → Int → Int → Int) : Sp := fun vs H Q _ => ∃ a w v t, vs = [.ref a, .int t] ∧ IsW C H a w v ∧ 0 ≤ t ∧ t ≤ 10 ^ 30 ∧ RetW C H Q w (f w v t)
def spEqW (C : Addr) : Sp := fun vs H Q _ => ∃ a b w v w' v', vs = [.ref a, .ref b] ∧ IsW C H a w v ∧ IsW C H b w' v' ∧ Q (.bl (decide (w = w' ∧ v = v'))) H
def spLike (C : Addr) : Sp := fun vs H Q _ => ∃ a y w v n, vs = [.ref a, y] ∧ IsW C H a w v ∧ Opd C H w y n ∧ Q (.bl (decide (orest w v = orest w n))) H
/-- an instance without an attribute m | an instance -/
def InsP (C : Addr) (m : Str) (N : V → Hp → Prop) (x : V) (H : Hp) : Prop := ∃ a dx fs, x = .ref a ∧ H a = some (.ins C dx fs) ∧ fs.lookup m = none ∧ N x H
def InsQ (C : Addr) (N : V → Hp → Prop) (x : V) (H : Hp) : Prop := ∃ a dx fs, x = .ref a ∧ H a = some (.ins C dx fs) ∧ N x H
/-- C(..): what is wanted of a new instance -/
def MakeO (C : Addr) (sp : Sp) (E : XK) (Q : VK) (vs : List V) (H : Hp) : Prop := ∀ x dx, H x = none → H dx = none → dx ≠ x → sp (.ref x :: vs) (upd (upd H dx (.own x)) x (.ins C dx [])) (fun v H2 => v = .non ∧ Q (.ref x) H2) E
section
variable {K : PySem.W.Frag} {σ : L2.St} {H : Hp} {Q : VK} {E : XK} {C : Addr} {ta : TE} {tr : TA} {f : Str}
theorem s_make {sp : Sp} (k : tr σ H fun vs H1 => MakeO C sp E Q vs H1) : tMake C sp [] E tr σ H Q := by
  have e : (fun (vs : List V) (H1 : Hp) => ∀ x dx, H1 x = none → H1 dx = none → dx ≠ x → sp (.ref x :: (vs ++ [])) (upd (upd H1 dx (.own x)) x (.ins C dx [])) (fun v H2 => v = .non ∧ Q (.ref x) H2) E) = fun vs H1 => MakeO C sp E Q vs H1 := by
    funext vs H1
    unfold MakeO
    rw [List.append_nil]
  unfold tMake
  rw [e]
  exact k
theorem make_w {w v : Int} (h : InW w v) (k : RetW C H Q w v) : MakeO C (spInitW C) E Q [.int w, .int v] H := fun x dx hx hd ne =>
  ⟨x, dx, w, v, rfl, h, upd_same, fun H' e h' => ⟨rfl, k x H' (fun a o ha => e a o (ne_of_none ha hx) (by rw [upd_ne (ne_of_none ha hx), upd_ne (ne_of_none ha hd)]; exact ha)) ⟨h, dx, h'⟩⟩⟩
theorem s_meth {m : Str} {sp : Sp} (k : ta σ H fun x H1 => InsP C m (fun x H1 => tr σ H1 fun vs H2 => sp (x :: vs) H2 Q E) x H1) : tMeth C m sp [] E ta tr σ H Q := by
  have e : (fun (x : V) (H1 : Hp) => ∃ a dx fs, x = .ref a ∧ H1 a = some (.ins C dx fs) ∧ fs.lookup m = none ∧ tr σ H1 fun vs H2 => sp (x :: (vs ++ [])) H2 Q E) = fun x H1 => InsP C m (fun x H1 => tr σ H1 fun vs H2 => sp (x :: vs) H2 Q E) x H1 := by
    funext x H1
    have e2 : (fun (vs : List V) (H2 : Hp) => sp (x :: (vs ++ [])) H2 Q E) = fun vs H2 => sp (x :: vs) H2 Q E := by
      funext vs H2
      rw [List.append_nil]
    rw [e2]
    rfl
  unfold tMeth
  rw [e]
  exact k
theorem s_sm {sp : Sp} (k : ta σ H fun x H1 => x = .ref C ∧ tr σ H1 fun vs H2 => sp vs H2 Q E) : tSM C sp E ta tr σ H Q := k
theorem s_prop {sp : Sp} (k : ta σ H fun x H1 => InsQ C (fun x H1 => sp [x] H1 Q E) x H1) : tProp C sp [] E ta σ H Q := by
  have e : (fun (x : V) (H1 : Hp) => ∃ a dx fs, x = .ref a ∧ H1 a = some (.ins C dx fs) ∧ sp (.ref a :: []) H1 Q E) = fun x H1 => InsQ C (fun x H1 => sp [x] H1 Q E) x H1 := by
    funext x H1
    apply propext
    constructor
    · rintro ⟨a, dx, fs, rfl, h, k⟩
      exact ⟨a, dx, fs, rfl, h, k⟩
    · rintro ⟨a, dx, fs, rfl, h, k⟩
      exact ⟨a, dx, fs, rfl, h, k⟩
  unfold tProp
  rw [e]
  exact k
theorem v_fldw {a : Addr} {w v : Int} (c : Cls K C) (n : NoAttr K C "width") (h : IsW C H a w v) (k : Q (.int w) H) : FldP K "width" Q (.ref a) H :=
  ⟨a, C, h.2.choose, wf w v, .int w, rfl, h.2.choose_spec, c, n, wf_width w v, k⟩
theorem v_fldv {a : Addr} {w v : Int} (c : Cls K C) (n : NoAttr K C "value") (h : IsW C H a w v) (k : Q (.int v) H) : FldP K "value" Q (.ref a) H :=
  ⟨a, C, h.2.choose, wf w v, .int v, rfl, h.2.choose_spec, c, n, wf_value w v, k⟩
end
end Z

namespace Z
open PySem PySem.Spec PyProof.Rows L2
def mwB (K : PySem.W.Frag) (C : Addr) (f : Str) (i : Int) : Bool := match PySem.W.findCls K (.ref C) (.type "type") f with
  | some (.val (.int j _)) => decide (j = i)
  | _ => false
theorem mw_ok {K : PySem.W.Frag} {C : Addr} {f : Str} {i : Int} (h : mwB K C f i = true) : ∃ u, ClX.CVal K C (.type "type") f (.int i) u := by
  unfold mwB at h
  cases e : PySem.W.findCls K (.ref C) (.type "type") f with
  | none =>
    rw [e] at h
    cases h
  | some r =>
    rw [e] at h
    cases r with
    | val u =>
      cases u with
      | int j t =>
        have := of_decide_eq_true h
        subst this
        exact ⟨_, e, ⟨t, rfl⟩⟩
      | _ => cases h
    | _ => cases h
theorem rec_of {K : PySem.W.Frag} {p g : Addr} {T : String} (h : (PySem.W.recIn K p T).bind List.head? = some (.ref g)) : ∃ rest, PySem.W.recIn K p T = some (.ref g :: rest) := by
  cases q : PySem.W.recIn K p T with
  | none =>
    rw [q] at h
    cases h
  | some l =>
    cases l with
    | nil =>
      rw [q] at h
      cases h
    | cons a r =>
      rw [q] at h
      obtain rfl : a = Value.ref g := Option.some.inj h
      exact ⟨r, rfl⟩
end Z

namespace Z
open PySem PySem.Spec PyProof.Rows L2
def smB (K : PySem.W.Frag) (C p : Addr) (m : Str) (id : String) : Bool := match PySem.W.findCls K (.ref C) (.type "type") m with
  | some (.get (.builtin i) (.ref q) .none (.ref D)) => decide (i = id) && (decide (q = p) && decide (D = C))
  | _ => false
theorem sm_ok {K : PySem.W.Frag} {C p : Addr} {m : Str} {id : String} (h : smB K C p m id = true) : PySem.W.findCls K (.ref C) (.type "type") m = some (.get (.builtin id) (.ref p) .none (.ref C)) := by
  unfold smB at h
  split at h
  · rename_i i q D e
    obtain ⟨h1, h2⟩ := Bool.and_eq_true_iff.mp h
    obtain ⟨h2, h3⟩ := Bool.and_eq_true_iff.mp h2
    rw [e, of_decide_eq_true h1, of_decide_eq_true h2, of_decide_eq_true h3]
  · cases h
end Z

namespace Z
open PySem PySem.Spec PyProof.Rows L2
section
variable {K : PySem.W.Frag} {σ : L2.St} {H : Hp} {Q : VK} {E : XK} {C : Addr} {ta tv : TE} {tr : TA} {f : Str} {D : Ends}
theorem use_btw {i lo hi : Int} (h : lo ≤ i ∧ i ≤ hi) (k : Q (.bl true) H) : spBtw K [.int i, .int lo, .int hi] H Q E := ⟨.int i, lo, hi, rfl, ki_int i, by
  have e : btw (.int i) lo hi = true := by simp [btw, h.1, h.2]
  rw [e]
  exact k⟩
theorem use_top {w : Int} (h : 0 ≤ w ∧ w ≤ 1000) (k : Q (.int (topI w)) H) : spTop [.int w] H Q E := ⟨w, rfl, h.1, h.2, k⟩
theorem s_cval (k : ta σ H fun x H1 => ∃ C mc v u, x = .ref C ∧ ClX.CRead K C mc ∧ ClX.CVal K C mc f v u ∧ Q v H1) : ClX.tCVal K ta f σ H Q := k
def SetF (K : PySem.W.Frag) (f : Str) (D : Ends) (σ : L2.St) (y x : V) (H : Hp) : Prop := ∃ a C dx fs, x = .ref a ∧ H a = some (.ins C dx fs) ∧ Cls K C ∧ NoAttr K C f ∧ fs.length < 1000 ∧ D.nx σ (upd H a (.ins C dx (putF f y fs)))
theorem s_sfld (k : tv σ H fun y H1 => ta σ H1 fun x H2 => SetF K f D σ y x H2) : sFld K ta tv f D σ H := k
theorem v_setF {a dx : Addr} {fs : List (Str × V)} {y : V} (h : H a = some (.ins C dx fs)) (c : Cls K C) (n : NoAttr K C f) (hl : fs.length < 1000) (k : ∀ H', But a H H' → H' a = some (.ins C dx (putF f y fs)) → D.nx σ H') : SetF K f D σ y (.ref a) H :=
  ⟨a, C, dx, fs, rfl, h, c, n, hl, k _ But.upd upd_same⟩
theorem But.trans {a : Addr} {H1 H2 H3 : Hp} (x : But a H1 H2) (y : But a H2 H3) : But a H1 H3 := fun b o n h => y b o n (x b o n h)
theorem use_retW {w v w' v' : Int} (k : RetW C H Q w v) (e1 : w = w') (e2 : v = v') : RetW C H Q w' v' := by
  subst e1 e2
  exact k
theorem RetW.here {H' : Hp} {w v : Int} (k : RetW C H Q w v) (e : Ex H H') : RetW C H' Q w v := fun x H2 e2 h => k x H2 (e.trans e2) h
/-- an instance's field -/
theorem ins_of {a : Addr} {w v : Int} (h : IsW C H a w v) : ∃ dx, H a = some (.ins C dx (wf w v)) := h.2
theorem use_sum {w a b : Int} (ha : InW w a) (hb : InW w b) (k : RetW C H Q w (osum w a b)) : spSum C [.int w, .int a, .int b] H Q E := ⟨w, a, b, rfl, ha, hb, k⟩
theorem use_mul {w v t : Int} (hv : InW w v) (h0 : 0 ≤ t) (h1 : t < 2 ^ 200) (k : RetW C H Q w (omul w v t)) : spMul C [.int w, .int v, .int t] H Q E := ⟨w, v, t, rfl, hv, h0, h1, k⟩
theorem use_opd {a : Addr} {y : V} {w v n : Int} (h : IsW C H a w v) (o : Opd C H w y n) (k : Q (.int n) H) : spOpd C [.ref a, y] H Q E := ⟨a, y, w, v, n, rfl, h, o, k⟩
theorem use_rest {w v : Int} (h : InW w v) (k : Q (.int (orest w v)) H) : spRest [.int w, .int v] H Q E := ⟨w, v, rfl, h, k⟩
theorem use_need {t : Int} (h0 : 0 ≤ t) (h1 : t ≤ 10 ^ 30) (k : Q .non H) : spNeed [.int t] H Q E := ⟨t, rfl, h0, h1, k⟩
theorem r_oo {a b dx dy : Addr} {fs gs : List (Str × V)} {sp : Sp} (ha : H a = some (.ins C dx fs)) (hb : H b = some (.ins C dy gs)) (k : sp [.ref a, .ref b] H Q E) : rOO C sp E (.ref a) (.ref b) H Q := ⟨a, b, dx, dy, fs, gs, rfl, rfl, ha, hb, k⟩
theorem r_ooW {a b : Addr} {w v w' v' : Int} {sp : Sp} (ha : IsW C H a w v) (hb : IsW C H b w' v') (k : sp [.ref a, .ref b] H Q E) : rOO C sp E (.ref a) (.ref b) H Q := r_oo ha.2.choose_spec hb.2.choose_spec k
theorem r_oiW {a : Addr} {w v n : Int} {sp : Sp} (ha : IsW C H a w v) (k : sp [.ref a, .int n] H Q E) : rOI C sp E (.ref a) (.int n) H Q := ⟨a, n, _, _, rfl, rfl, ha.2.choose_spec, k⟩
theorem r_ioW {a : Addr} {w v n : Int} {sp : Sp} (ha : IsW C H a w v) (k : sp [.ref a, .int n] H Q E) : rIO C sp E (.int n) (.ref a) H Q := ⟨n, a, _, _, rfl, rfl, ha.2.choose_spec, k⟩
theorem r_o1W {a : Addr} {w v : Int} {sp : Sp} (ha : IsW C H a w v) (k : sp [.ref a] H Q E) : rO1 C sp E (.ref a) H Q := ⟨a, _, _, rfl, ha.2.choose_spec, k⟩
end
end Z

/-! Z: sums that carry round, plain mathematics -/
namespace Z
/-- the word from 1 to M with the rest of s; 0 of 0 -/
def norm (M s : Int) : Int := if s = 0 then 0 else (s - 1) % M + 1
theorem norm_zero (M : Int) : norm M 0 = 0 := if_pos rfl
theorem norm_small {M s : Int} (h0 : 0 ≤ s) (h1 : s ≤ M) : norm M s = s := by
  unfold norm
  split
  · omega
  · rw [Int.emod_eq_of_lt (by omega) (by omega)]
    omega
theorem norm_sub {M s : Int} (h : M < s) (hM : 0 < M) : norm M (s - M) = norm M s := by
  unfold norm
  rw [if_neg (by omega), if_neg (by omega)]
  have e : s - M - 1 = s - 1 + M * (-1) := by omega
  rw [e, Int.add_mul_emod_self_left]
theorem norm_add_mul {M s : Int} (k : Nat) (h : 0 < s) (hM : 0 < M) : norm M (s + M * k) = norm M s := by
  unfold norm
  have h1 : 0 ≤ M * (k : Int) := Int.mul_nonneg (by omega) (by omega)
  rw [if_neg (by omega), if_neg (by omega)]
  have e : s + M * k - 1 = s - 1 + M * k := by omega
  rw [e, Int.add_mul_emod_self_left]
theorem norm_range {M s : Int} (hM : 0 < M) : 0 ≤ norm M s ∧ norm M s ≤ M := by
  have e1 := Int.emod_nonneg (s - 1) (show M ≠ 0 by omega)
  have e2 := Int.emod_lt_of_pos (s - 1) hM
  unfold norm
  split <;> omega
theorem norm_pos {M s : Int} (hM : 0 < M) (h : s ≠ 0) : 1 ≤ norm M s := by
  have e1 := Int.emod_nonneg (s - 1) (show M ≠ 0 by omega)
  unfold norm
  rw [if_neg h]
  omega
/-- s and its norm differ by a multiple -/
theorem norm_dvd {M s : Int} (hM : 0 < M) : ∃ k : Int, s = norm M s + M * k := by
  unfold norm
  split
  · exact ⟨0, by omega⟩
  · have := Int.emod_add_mul_ediv (s - 1) M
    exact ⟨(s - 1) / M, by omega⟩
theorem norm_eq {M s t : Int} (hM : 0 < M) (hs : 0 ≤ s) (ht : 0 ≤ t) (hz : s = 0 ↔ t = 0) (k : Int) (h : s = t + M * k) : norm M s = norm M t := by
  by_cases h0 : s = 0
  · rw [h0, hz.mp h0]
  · have h1 : t ≠ 0 := fun z => h0 (hz.mpr z)
    unfold norm
    rw [if_neg h0, if_neg h1]
    have e : s - 1 = t - 1 + M * k := by omega
    rw [e, Int.add_mul_emod_self_left]
theorem norm_norm_add {M a b : Int} (hM : 0 < M) (ha : 0 ≤ a) (hb : 0 ≤ b) : norm M (norm M a + norm M b) = norm M (a + b) := by
  obtain ⟨k, hk⟩ := norm_dvd (s := a) hM
  obtain ⟨j, hj⟩ := norm_dvd (s := b) hM
  have r1 := norm_range (s := a) hM
  have r2 := norm_range (s := b) hM
  refine norm_eq hM (by omega) (by omega) ⟨fun z => ?_, fun z => ?_⟩ (-(k + j)) ?_
  · by_cases h1 : a = 0
    · by_cases h2 : b = 0
      · omega
      · have := norm_pos hM h2
        omega
    · have := norm_pos hM h1
      omega
  · have h1 : a = 0 := by omega
    have h2 : b = 0 := by omega
    rw [h1, h2, norm_zero]
    rfl
  · rw [Int.mul_neg, Int.mul_add]
    omega
theorem norm_mul_norm {M t a : Int} (hM : 0 < M) (ht : 0 ≤ t) (ha : 0 ≤ a) : norm M (t * norm M a) = norm M (t * a) := by
  obtain ⟨k, hk⟩ := norm_dvd (s := a) hM
  have r1 := norm_range (s := a) hM
  refine norm_eq hM (Int.mul_nonneg ht r1.1) (Int.mul_nonneg ht ha) ⟨fun z => ?_, fun z => ?_⟩ (-(t * k)) ?_
  · rcases Int.mul_eq_zero.mp z with h | h
    · rw [h, Int.zero_mul]
    · by_cases h1 : a = 0
      · rw [h1, Int.mul_zero]
      · have := norm_pos hM h1
        omega
  · rcases Int.mul_eq_zero.mp z with h | h
    · rw [h, Int.zero_mul]
    · rw [h, norm_zero, Int.mul_zero]
  · have e : t * a = t * norm M a + t * (M * k) := by
      rw [← Int.mul_add, ← hk]
    have e2 : t * (M * k) = M * (t * k) := by rw [← Int.mul_assoc, Int.mul_comm t M, Int.mul_assoc]
    rw [Int.mul_neg]
    omega
end Z

/-! Z: laws of words -/
namespace Z
theorem osum_norm {w a b : Int} (ha : InW w a) (hb : InW w b) : osum w a b = norm (topI w) (a + b) := by
  obtain ⟨h1, h2, h3, h4⟩ := ha
  obtain ⟨_, _, h5, h6⟩ := hb
  have hp := topI_pos h1
  unfold osum
  split
  · rw [norm_small (by omega) (by omega)]
  · rw [← norm_sub (by omega) (by omega), norm_small (by omega) (by omega)]
theorem omul_norm {w v t : Int} : omul w v t = norm (topI w) (t * v) := by
  unfold omul norm
  by_cases h : t = 0 ∨ v = 0
  · rw [if_pos h, if_pos (Int.mul_eq_zero.mpr h)]
  · rw [if_neg h, if_neg (fun z => h (Int.mul_eq_zero.mp z))]
theorem omul_osum {w a b t : Int} (ha : InW w a) (hb : InW w b) (ht : 0 ≤ t) : omul w (osum w a b) t = osum w (omul w a t) (omul w b t) := by
  have hp := topI_pos ha.1
  have a0 := ha.2.2.1
  have b0 := hb.2.2.1
  rw [osum_norm (omul_in ha ht) (omul_in hb ht), omul_norm, omul_norm, omul_norm, osum_norm ha hb,
    norm_mul_norm (by omega) ht (by omega), norm_norm_add (by omega) (Int.mul_nonneg ht a0) (Int.mul_nonneg ht b0), Int.mul_add]
theorem like_comp {w a b : Int} (ha : InW w a) (hb : InW w b) : orest w (topI w - osum w a b) = orest w (osum w (topI w - a) (topI w - b)) := by
  obtain ⟨h1, h2, h3, h4⟩ := ha
  obtain ⟨_, _, h5, h6⟩ := hb
  have hp := topI_pos h1
  unfold orest osum
  generalize topI w = M at *
  split <;> split <;> split <;> split <;> omega
theorem pow_split {w k : Nat} (h : k ≤ w) : (2 : Int) ^ (w - k) * 2 ^ k = 2 ^ w := by
  rw [← Int.pow_add, Nat.sub_add_cancel h]
theorem turn_zero {w : Int} {k : Nat} {a j : Int} (h1 : 1 ≤ w) (hk : (k : Int) ≤ w) (h : 2 ^ k * a = topI w * j) : ∃ i, a = topI w * i := by
  have e := pow_split (w := w.toNat) (k := k) (by omega)
  have e1 : (2 : Int) ^ (w.toNat - k) * (2 ^ k * a) = 2 ^ w.toNat * a := by rw [← Int.mul_assoc, e]
  have e2 : (2 : Int) ^ w.toNat = topI w + 1 := by unfold topI; omega
  rw [e2, Int.add_mul, Int.one_mul, h] at e1
  have e3 : (2 : Int) ^ (w.toNat - k) * (topI w * j) = topI w * (2 ^ (w.toNat - k) * j) := by
    rw [← Int.mul_assoc, Int.mul_comm _ (topI w), Int.mul_assoc]
  rw [e3] at e1
  exact ⟨2 ^ (w.toNat - k) * j - a, by rw [Int.mul_sub]; omega⟩
theorem turn_comp {w a : Int} {k : Nat} (ha : InW w a) (hk : (k : Int) ≤ w) : topI w - omul w a (2 ^ k) = omul w (topI w - a) (2 ^ k) := by
  obtain ⟨h1, h2, h3, h4⟩ := ha
  have hp := topI_pos h1
  have hpow : (0 : Int) < 2 ^ k := Int.pow_pos (by decide)
  have full : norm (topI w) (2 ^ k * topI w) = topI w := by
    have e : norm (topI w) (2 ^ k * topI w) = norm (topI w) (topI w) := norm_eq (by omega) (Int.mul_nonneg (by omega) (by omega)) (by omega) ⟨fun z => by
      rcases Int.mul_eq_zero.mp z with q | q <;> omega, fun z => by omega⟩ (2 ^ k - 1) (by rw [Int.mul_sub, Int.mul_one, Int.mul_comm (2 ^ k) (topI w)]; omega)
    rw [e, norm_small (by omega) (by omega)]
  rw [omul_norm, omul_norm]
  by_cases z0 : a = 0
  · rw [z0, Int.mul_zero, norm_zero, Int.sub_zero, full]
  by_cases zM : a = topI w
  · rw [zM, full, Int.sub_self, Int.mul_zero, norm_zero]
  have r := norm_range (M := topI w) (s := 2 ^ k * a) (by omega)
  have rp := norm_pos (M := topI w) (s := 2 ^ k * a) (by omega) (fun q => by rcases Int.mul_eq_zero.mp q with q | q <;> omega)
  obtain ⟨j, hj⟩ := norm_dvd (M := topI w) (s := 2 ^ k * a) (by omega)
  have rM : norm (topI w) (2 ^ k * a) ≠ topI w := fun q => by
    rw [q] at hj
    obtain ⟨i, hi⟩ := turn_zero (w := w) (k := k) (a := a) (j := 1 + j) h1 hk (by rw [Int.mul_add, Int.mul_one]; exact hj)
    rcases Int.lt_or_le i 1 with hi1 | hi1
    · have : topI w * i ≤ topI w * 0 := Int.mul_le_mul_of_nonneg_left (by omega) (by omega)
      omega
    · have : topI w * 1 ≤ topI w * i := Int.mul_le_mul_of_nonneg_left hi1 (by omega)
      omega
  have e : norm (topI w) (2 ^ k * (topI w - a)) = norm (topI w) (topI w - norm (topI w) (2 ^ k * a)) := norm_eq (by omega) (Int.mul_nonneg (by omega) (by omega)) (by omega)
    ⟨fun q => by rcases Int.mul_eq_zero.mp q with q | q <;> omega, fun q => by omega⟩ (2 ^ k - 1 - j) (by
      rw [Int.mul_sub, Int.mul_sub, Int.mul_sub, Int.mul_one, Int.mul_comm (2 ^ k) (topI w)]
      omega)
  rw [e]
  exact (norm_small (by omega) (by omega)).symm
theorem osum_comp {w a : Int} (ha : InW w a) : osum w a (topI w - a) = topI w := by
  obtain ⟨h1, h2, h3, h4⟩ := ha
  unfold osum
  split <;> omega
theorem osum_full {w a : Int} (ha : InW w a) : osum w (topI w) a = if a = 0 then topI w else a := by
  obtain ⟨h1, h2, h3, h4⟩ := ha
  unfold osum
  split <;> split <;> omega
theorem osum_zero {w a : Int} (ha : InW w a) : osum w 0 a = a := by
  obtain ⟨h1, h2, h3, h4⟩ := ha
  unfold osum
  split <;> omega
end Z

/-! Z: promises of the laws' own small helpers -/
namespace Z
open PySem PySem.Spec PyProof.Rows L2
def spWidth (K : PySem.W.Frag) : Sp := fun vs H Q _ => ∃ (p : Addr) (n : Nat), vs = [.ref p] ∧ PenAt K H p (n + 2) ∧ ∀ r H', Gr H H' → PenAt K H' p n → 1 ≤ r → r ≤ 64 → Q (.int r) H'
def spValue (K : PySem.W.Frag) : Sp := fun vs H Q _ => ∃ (p : Addr) (w : Int) (n : Nat), vs = [.ref p, .int w] ∧ PenAt K H p (n + 3) ∧ 1 ≤ w ∧ w ≤ 64 ∧ ∀ r H', Gr H H' → PenAt K H' p n → InW w r → Q (.int r) H'
section
variable {K : PySem.W.Frag} {H : Hp} {Q : VK} {E : XK} {p : Addr} {n : Nat}
theorem use_pen {a : Addr} {ns : List Int} (h : SqL K H a (ns.map V.int)) (k : ∀ p H', Ex H H' → PenAt K H' p 1000000 → Q (.ref p) H') : spPen K [.ref a] H Q E := ⟨a, ns, rfl, h, k⟩
theorem use_draw {m : Int} (h : PenAt K H p (n + 1)) (h0 : 0 < m) (h1 : m.natAbs.log2 < 9000) (k : ∀ r H', Gr H H' → PenAt K H' p n → 0 ≤ r → r < m → Q (.int r) H') : spDraw K [.ref p, .int m] H Q E := ⟨p, m, n, rfl, h, h0, h1, k⟩
theorem use_width (h : PenAt K H p (n + 2)) (k : ∀ r H', Gr H H' → PenAt K H' p n → 1 ≤ r → r ≤ 64 → Q (.int r) H') : spWidth K [.ref p] H Q E := ⟨p, n, rfl, h, k⟩
theorem use_value {w : Int} (h : PenAt K H p (n + 3)) (h0 : 1 ≤ w) (h1 : w ≤ 64) (k : ∀ r H', Gr H H' → PenAt K H' p n → InW w r → Q (.int r) H') : spValue K [.ref p, .int w] H Q E := ⟨p, w, n, rfl, h, h0, h1, k⟩
end
theorem ix_all {xs : List Int} {P : Int → Prop} {k : Int} (h : ∀ x ∈ xs, P x) (h0 : 0 ≤ k) (h1 : k < xs.length) : ∃ v, atI (xs.map V.int) k = some (.int v) ∧ P v :=
  ⟨_, atI_ints h0 h1, h _ (List.getElem_mem _)⟩
theorem log_small {m : Int} (h0 : 0 ≤ m) (h : m < 2 ^ 64) : m.natAbs.log2 < 9000 := by
  have h1 : m.natAbs < 2 ^ 64 := by omega
  by_cases hz : m.natAbs = 0
  · rw [hz]
    decide
  · have := (Nat.log2_lt hz).mpr h1
    omega
/-- words of one width at these places -/
def Ws (C : Addr) (H : Hp) (w : Int) : List Addr → List Int → Prop
  | [], [] => True
  | a :: as, v :: vs => IsW C H a w v ∧ Ws C H w as vs
  | _, _ => False
section
variable {C : Addr} {H H' : Hp} {w : Int}
theorem Ws.gr (e : Gr H H') : ∀ {as : List Addr} {vs : List Int}, Ws C H w as vs → Ws C H' w as vs
  | [], [], _ => True.intro
  | _ :: _, _ :: _, h => ⟨h.1.gr e, Ws.gr e h.2⟩
theorem Ws.ex (e : Ex H H') {as : List Addr} {vs : List Int} (h : Ws C H w as vs) : Ws C H' w as vs := h.gr e.gr
theorem Ws.len : ∀ {as : List Addr} {vs : List Int}, Ws C H w as vs → as.length = vs.length
  | [], [], _ => rfl
  | _ :: _, _ :: _, h => congrArg Nat.succ (Ws.len h.2)
theorem Ws.app : ∀ {as bs : List Addr} {vs us : List Int}, Ws C H w as vs → Ws C H w bs us → Ws C H w (as ++ bs) (vs ++ us)
  | [], _, [], _, _, h => h
  | _ :: _, _, _ :: _, _, h, h' => ⟨h.1, Ws.app h.2 h'⟩
theorem Ws.take (n : Nat) : ∀ {as : List Addr} {vs : List Int}, Ws C H w as vs → Ws C H w (as.take n) (vs.take n) := by
  induction n with
  | zero => intro as vs _; simp only [List.take_zero]; exact True.intro
  | succ n ih =>
    intro as vs h
    match as, vs, h with
    | [], [], _ => exact True.intro
    | a :: as, v :: vs, h => exact ⟨h.1, ih h.2⟩
theorem Ws.drop (n : Nat) : ∀ {as : List Addr} {vs : List Int}, Ws C H w as vs → Ws C H w (as.drop n) (vs.drop n) := by
  induction n with
  | zero => intro as vs h; simp only [List.drop_zero]; exact h
  | succ n ih =>
    intro as vs h
    match as, vs, h with
    | [], [], _ => exact True.intro
    | a :: as, v :: vs, h => exact ih h.2
theorem Ws.get : ∀ {as : List Addr} {vs : List Int} (i : Nat) (h : Ws C H w as vs) (hi : i < as.length), ∃ v, vs[i]? = some v ∧ IsW C H (as[i]'hi) w v
  | [], [], i, _, hi => by simp at hi
  | a :: as, v :: vs, 0, h, _ => ⟨v, rfl, h.1⟩
  | a :: as, v :: vs, i + 1, h, hi => Ws.get i h.2 (by simpa using hi)
theorem Ws.in_ : ∀ {as : List Addr} {vs : List Int}, Ws C H w as vs → ∀ v ∈ vs, InW w v
  | [], [], _ => by simp
  | a :: as, v :: vs, h => by
    intro u hu
    rcases List.mem_cons.mp hu with rfl | hu
    · exact h.1.1
    · exact Ws.in_ h.2 u hu
end
end Z
namespace Z
open PySem PySem.Spec PyProof.Rows L2
theorem cut_to {xs : List V} {k : Int} (h : 0 ≤ k) : cutV xs none (some k) = xs.take k.toNat := by
  obtain ⟨m, rfl⟩ : ∃ m : Nat, k = m := ⟨k.toNat, by omega⟩
  unfold cutV
  rw [HT.sIx_none, HT.sIx_nat, List.drop_zero, Nat.sub_zero, Int.toNat_natCast]
  by_cases hm : m ≤ xs.length
  · rw [Nat.min_eq_left hm]
  · rw [Nat.min_eq_right (by omega), List.take_of_length_le (by omega), List.take_of_length_le (by omega)]
theorem cut_from {xs : List V} {k : Int} (h : 0 ≤ k) : cutV xs (some k) none = xs.drop k.toNat := by
  obtain ⟨m, rfl⟩ : ∃ m : Nat, k = m := ⟨k.toNat, by omega⟩
  unfold cutV
  rw [HT.sIx_none, HT.sIx_nat, Int.toNat_natCast]
  by_cases hm : m ≤ xs.length
  · rw [Nat.min_eq_left hm, List.take_of_length_le (by simp)]
  · rw [Nat.min_eq_right (by omega), List.drop_of_length_le (by omega), List.drop_of_length_le (by omega)]
    simp
theorem atI_refs {cs : List Addr} {k : Int} (h0 : 0 ≤ k) (h1 : k < cs.length) : atI (cs.map V.ref) k = some (.ref (cs[k.toNat]'(by omega))) := by
  rw [atI_lt h0 (by simpa using h1)]
  simp
section
variable {K : PySem.W.Frag} {C : Addr} {H : Hp} {Q : VK} {E : XK}
theorem r_cat {l b : Addr} {xs ys : List V} (h1 : H l = some (.lst xs)) (h2 : H b = some (.lst ys)) (h3 : xs.length + ys.length ≤ 1000) (k : ∀ p H', H p = none → Ex H H' → H' p = some (.lst (xs ++ ys)) → Q (.ref p) H') : rCat (.ref l) (.ref b) H Q :=
  ⟨l, b, xs, ys, rfl, rfl, h1, h2, Nat.le_trans h3 (by decide), s_new k⟩
theorem use_wo {f : Int → Int → Int → Int} {a : Addr} {y : V} {w v n : Int} (h : IsW C H a w v) (o : Opd C H w y n) (k : RetW C H Q w (f w v n)) : spWO C f [.ref a, y] H Q E := ⟨a, y, w, v, n, rfl, h, o, k⟩
theorem use_wt {f : Int → Int → Int → Int} {a : Addr} {w v t : Int} (h : IsW C H a w v) (h0 : 0 ≤ t) (h1 : t ≤ 10 ^ 30) (k : RetW C H Q w (f w v t)) : spWT C f [.ref a, .int t] H Q E := ⟨a, w, v, t, rfl, h, h0, h1, k⟩
theorem use_ww {f : Int → Int → Int} {a : Addr} {w v : Int} (h : IsW C H a w v) (k : RetW C H Q w (f w v)) : spWW C f [.ref a] H Q E := ⟨a, w, v, rfl, h, k⟩
theorem use_w1 {f : Int → Int} {w : Int} (h1 : 1 ≤ w) (h2 : w ≤ 64) (k : RetW C H Q w (f w)) : spW1 C f [.int w] H Q E := ⟨w, rfl, h1, h2, k⟩
theorem use_wp {f : Int → Int → V} {a : Addr} {w v : Int} (h : IsW C H a w v) (k : Q (f w v) H) : spWP C f [.ref a] H Q E := ⟨a, w, v, rfl, h, k⟩
theorem use_eqw {a b : Addr} {w v w' v' : Int} (h : IsW C H a w v) (h' : IsW C H b w' v') (k : Q (.bl (decide (w = w' ∧ v = v'))) H) : spEqW C [.ref a, .ref b] H Q E := ⟨a, b, w, v, w', v', rfl, h, h', k⟩
theorem use_like {a : Addr} {y : V} {w v n : Int} (h : IsW C H a w v) (o : Opd C H w y n) (k : Q (.bl (decide (orest w v = orest w n))) H) : spLike C [.ref a, y] H Q E := ⟨a, y, w, v, n, rfl, h, o, k⟩
end
theorem sum_pair : ∀ {vs : List Int} (i : Nat) {a b c : Int}, vs[i]? = some a → vs[i + 1]? = some b → (vs.take i ++ [c] ++ vs.drop (i + 2)).sum = vs.sum - a - b + c
  | [], i, a, b, c, h, _ => by simp at h
  | v :: vs, 0, a, b, c, h, h' => by
    simp at h
    subst h
    cases vs with
    | nil => simp at h'
    | cons u us =>
      simp at h'
      subst h'
      simp
      omega
  | v :: vs, i + 1, a, b, c, h, h' => by
    have ih := sum_pair (vs := vs) i (a := a) (b := b) (c := c) (by simpa using h) (by simpa using h')
    simp only [List.take_succ_cons, List.cons_append, List.sum_cons, List.drop_succ_cons] at ih ⊢
    simp only [List.append_assoc] at ih ⊢
    omega
theorem sum_nn : ∀ {vs : List Int}, (∀ v ∈ vs, 0 ≤ v) → 0 ≤ vs.sum
  | [], _ => by simp
  | v :: vs, h => by
    have h1 := h v (by simp)
    have h2 := sum_nn (vs := vs) fun u hu => h u (by simp [hu])
    simp only [List.sum_cons]
    omega
theorem norm_pair {w : Int} {vs : List Int} {i : Nat} {a b : Int} (hall : ∀ v ∈ vs, InW w v) (h1 : vs[i]? = some a) (h2 : vs[i + 1]? = some b) :
    norm (topI w) (vs.take i ++ [osum w a b] ++ vs.drop (i + 2)).sum = norm (topI w) vs.sum := by
  have ha := hall a (List.mem_of_getElem? h1)
  have hb := hall b (List.mem_of_getElem? h2)
  have e0 := sum_pair (vs := vs) i (c := 0) h1 h2
  have nn : 0 ≤ (vs.take i ++ [0] ++ vs.drop (i + 2)).sum := sum_nn fun v hv => by
    simp only [List.mem_append, List.mem_singleton] at hv
    rcases hv with (hv | hv) | hv
    · exact (hall v (List.mem_of_mem_take hv)).2.2.1
    · omega
    · exact (hall v (List.mem_of_mem_drop hv)).2.2.1
  rw [sum_pair i h1 h2]
  have hp := topI_pos ha.1
  unfold osum
  split
  · congr 1
    omega
  · have e : vs.sum - a - b + (a + b - topI w) = vs.sum - topI w := by omega
    rw [e]
    exact norm_sub (by omega) (by omega)
/-- grouped: the sum of a list of words in some grouping -/
def spGrouped (K : PySem.W.Frag) (C : Addr) : Sp := fun vs H Q _ => ∃ (p l : Addr) (as : List Addr) (us : List Int) (w : Int) (n : Nat), vs = [.ref p, .ref l] ∧ H l = some (.lst (as.map V.ref)) ∧ Ws C H w as us ∧ 1 ≤ as.length ∧ as.length ≤ 100 ∧
  PenAt K H p (n + as.length) ∧ ∀ x H', Gr H H' → PenAt K H' p n → IsW C H' x w (norm (topI w) us.sum) → Q (.ref x) H'
end Z

namespace Z
open PySem PySem.Spec PyProof.Rows L2
theorem Ws.but {C l : Addr} {H H' : Hp} {w : Int} {xs : List V} (e : But l H H') (hl : H l = some (.lst xs)) : ∀ {as : List Addr} {vs : List Int}, Ws C H w as vs → Ws C H' w as vs
  | [], [], _ => True.intro
  | _ :: _, _ :: _, h => ⟨h.1.but e hl, Ws.but e hl h.2⟩
theorem Ws.erase {C : Addr} {H : Hp} {w : Int} (n : Nat) : ∀ {as : List Addr} {vs : List Int}, Ws C H w as vs → Ws C H w (as.eraseIdx n) (vs.eraseIdx n) := by
  induction n with
  | zero =>
    intro as vs h
    match as, vs, h with
    | [], [], _ => exact True.intro
    | a :: as, v :: vs, h => exact h.2
  | succ n ih =>
    intro as vs h
    match as, vs, h with
    | [], [], _ => exact True.intro
    | a :: as, v :: vs, h => exact ⟨h.1, ih h.2⟩
theorem sum_erase : ∀ {vs : List Int} (i : Nat) {a : Int}, vs[i]? = some a → (vs.eraseIdx i).sum + a = vs.sum
  | [], i, a, h => by simp at h
  | v :: vs, 0, a, h => by
    simp at h
    subst h
    simp
    omega
  | v :: vs, i + 1, a, h => by
    have ih := sum_erase (vs := vs) i (a := a) (by simpa using h)
    simp only [List.eraseIdx_cons_succ, List.sum_cons]
    omega
section
variable {K : PySem.W.Frag} {σ : L2.St} {H : Hp} {Q : VK} {to : TE} {tr : TA}
theorem s_bm {T : String} {r : V → List V → Hp → VK → Prop} (k : to σ H fun x H1 => tyV K T x H1 ∧ tr σ H1 fun xs H2 => r x xs H2 Q) : tBM K T r to tr σ H Q := k
theorem s_bm0 {T : String} {r : V → List V → Hp → VK → Prop} (k : to σ H fun x H1 => tyV K T x H1 ∧ r x [] H1 Q) : tBM0 K T r to σ H Q := k
theorem v_tyL {P : Prop} {q : Addr} {xs : List V} (h : SqL K H q xs) (k : P) : tyV K "list" (.ref q) H ∧ P := ⟨Or.inl ⟨rfl, xs, h⟩, k⟩
theorem r_app {l : Addr} {xs : List V} {y : V} (h : H l = some (.lst xs)) (hl : xs.length < 1000) (k : ∀ H', But l H H' → H' l = some (.lst (xs ++ [y])) → Q .non H') : rAppend (.ref l) [y] H Q :=
  ⟨l, xs, y, rfl, rfl, h, Nat.lt_of_lt_of_le hl (by decide), k _ But.upd upd_same⟩
theorem r_popAt {l : Addr} {xs : List V} {i : Int} {y : V} (h : H l = some (.lst xs)) (h0 : 0 ≤ i) (h1 : i < xs.length) (hs : xs.length ≤ 1000) (hy : xs[i.toNat]? = some y) (k : ∀ H', But l H H' → H' l = some (.lst (xs.eraseIdx i.toNat)) → Q y H') : rPopAt (.ref l) [.int i] H Q :=
  ⟨l, xs, i, i.toNat, y, rfl, rfl, h, by omega, by omega, by
    unfold seqIndex?
    rw [if_neg (show ¬ i < 0 by omega)]
    simp [h0, h1], hy, k _ But.upd upd_same⟩
end
def spMixed (K : PySem.W.Frag) (C : Addr) : Sp := fun vs H Q _ => ∃ (p l : Addr) (as : List Addr) (us : List Int) (w : Int) (n : Nat), vs = [.ref p, .ref l] ∧ H l = some (.lst (as.map V.ref)) ∧ Ws C H w as us ∧ as.length ≤ 100 ∧
  PenAt K H p (n + as.length) ∧ ∀ q bs zs H', Gr H H' → PenAt K H' p n → H' q = some (.lst (bs.map V.ref)) → Ws C H' w bs zs → bs.length = as.length → zs.sum = us.sum → Q (.ref q) H'
end Z

namespace Z
theorem map_erase {α β : Type} (f : α → β) : ∀ (l : List α) (i : Nat), (l.map f).eraseIdx i = (l.eraseIdx i).map f
  | [], _ => rfl
  | _ :: _, 0 => rfl
  | a :: l, i + 1 => congrArg (f a :: ·) (map_erase f l i)
end Z

namespace Z
open PySem PySem.Spec PyProof.Rows L2
section
variable {C : Addr} {H : Hp}
/-- a word whose method is called | whose property is read -/
theorem v_ins {a : Addr} {w v : Int} {m : Str} {N : V → Hp → Prop} (h : IsW C H a w v) (k : (wf w v).lookup m = none ∧ N (.ref a) H) : InsP C m N (.ref a) H := ⟨a, _, _, rfl, h.2.choose_spec, k.1, k.2⟩
theorem v_insP {a : Addr} {w v : Int} {N : V → Hp → Prop} (h : IsW C H a w v) (k : N (.ref a) H) : InsQ C N (.ref a) H := ⟨a, _, _, rfl, h.2.choose_spec, k⟩
end
end Z

namespace Z
open PySem PySem.Spec PyProof.Rows L2
def spPair (C : Addr) : Sp := fun vs H Q _ => ∃ (w : Int) (x y : Addr) (t : Int) (a b : Int), vs = [.int w, .ref x, .ref y, .int t] ∧ IsW C H x w a ∧ IsW C H y w b ∧ 0 ≤ t ∧ t ≤ 1000 ∧ ∀ H', Ex H H' → Q (.bl true) H'
end Z

namespace Z
open PySem PySem.Spec PyProof.Rows L2
theorem q_true {Q : VK} {H : Hp} {c : Prop} {dc : Decidable c} (h : c) (k : Q (.bl true) H) : Q (.bl (decide c)) H := by
  rw [decide_eq_true h]
  exact k
def spLaw (K : PySem.W.Frag) : Sp := fun vs H Q _ => ∃ (a : Addr) (ns : List Int), vs = [.ref a] ∧ SqL K H a (ns.map V.int) ∧ ns.length ≤ 63 ∧ ∀ H', Q (.bl true) H'
end Z

namespace Z
open PySem PySem.Spec PyProof.Rows L2
section
variable {K : PySem.W.Frag} {C : Addr} {σ : L2.St} {H : Hp} {Q : VK} {E : XK} {D : Ends} {t rest : TS}
/-- what holds behind t, whatever follows -/
theorem s_cut (J : L2.St → Hp → Prop) (h1 : ∀ N : L2.St → Hp → Prop, (∀ σ' H', J σ' H' → N σ' H') → t { D with nx := N } σ H) (h2 : ∀ σ' H', J σ' H' → rest D σ' H') : tSeq t rest D σ H := h1 (rest D) h2
theorem r_sum {p : Addr} {ns : List Int} (h : SqL K H p (ns.map V.int)) (k : Q (.int ns.sum) H) : rSum K [.ref p] H Q := ⟨p, ns, rfl, h, k⟩
theorem r_rep {p : Addr} {xs : List V} {n : Int} (h : H p = some (.lst xs)) (h0 : -1000 ≤ n) (h1 : n ≤ 1000) (h2 : xs.length * n.toNat ≤ 1000) (k : ∀ l H', H l = none → Ex H H' → H' l = some (.lst (List.replicate n.toNat xs).flatten) → Q (.ref l) H') : rRep (.ref p) (.int n) H Q :=
  ⟨p, n, xs, rfl, rfl, h, by omega, by omega, Nat.le_trans h2 (by decide), s_new k⟩
/-- one more item of a comprehension's list -/
def LcN (P : Hp → Prop) (L : Addr) (y : V) (H : Hp) : Prop := ∃ acc, H L = some (.lst acc) ∧ acc.length < sizeLine ∧ P (upd H L (.lst (acc ++ [y])))
theorem lc_step {L : Addr} {acc : List V} {y : V} {P : Hp → Prop} (h : H L = some (.lst acc)) (hl : acc.length < 1000) (k : ∀ H', But L H H' → H' L = some (.lst (acc ++ [y])) → P H') : LcN P L y H :=
  ⟨acc, h, Nat.lt_of_lt_of_le hl (by decide), k _ But.upd upd_same⟩
theorem use_mixed {p l : Addr} {as : List Addr} {us : List Int} {w : Int} {n : Nat} (hl : H l = some (.lst (as.map V.ref))) (hW : Ws C H w as us) (h2 : as.length ≤ 100) (hp : PenAt K H p (n + as.length))
    (k : ∀ q bs zs H', Gr H H' → PenAt K H' p n → H' q = some (.lst (bs.map V.ref)) → Ws C H' w bs zs → bs.length = as.length → zs.sum = us.sum → Q (.ref q) H') : spMixed K C [.ref p, .ref l] H Q E := ⟨p, l, as, us, w, n, rfl, hl, hW, h2, hp, k⟩
theorem use_grouped {p l : Addr} {as : List Addr} {us : List Int} {w : Int} {n : Nat} (hl : H l = some (.lst (as.map V.ref))) (hW : Ws C H w as us) (h1 : 1 ≤ as.length) (h2 : as.length ≤ 100) (hp : PenAt K H p (n + as.length))
    (k : ∀ x H', Gr H H' → PenAt K H' p n → IsW C H' x w (norm (topI w) us.sum) → Q (.ref x) H') : spGrouped K C [.ref p, .ref l] H Q E := ⟨p, l, as, us, w, n, rfl, hl, hW, h1, h2, hp, k⟩
theorem use_pair {w t a b : Int} {x y : Addr} (hx : IsW C H x w a) (hy : IsW C H y w b) (h0 : 0 ≤ t) (h1 : t ≤ 1000) (k : ∀ H', Ex H H' → Q (.bl true) H') : spPair C [.int w, .ref x, .ref y, .int t] H Q E := ⟨w, x, y, t, a, b, rfl, hx, hy, h0, h1, k⟩
end
theorem rep_zero (n : Nat) : (List.replicate n [V.int 0]).flatten = (List.replicate n (0 : Int)).map V.int := by
  induction n with
  | zero => rfl
  | succ n ih => rw [List.replicate_succ, List.flatten_cons, ih, List.replicate_succ, List.map_cons]; rfl
theorem sum_zero : ∀ {vs : List Int}, (∀ v ∈ vs, 0 ≤ v) → (vs.sum = 0 ↔ vs = List.replicate vs.length 0)
  | [], _ => by simp
  | v :: vs, h => by
    have h1 := h v (by simp)
    have h2 := sum_nn (vs := vs) fun u hu => h u (by simp [hu])
    have ih := sum_zero (vs := vs) fun u hu => h u (by simp [hu])
    simp only [List.sum_cons, List.length_cons, List.replicate_succ, List.cons.injEq]
    constructor
    · intro q
      exact ⟨by omega, ih.mp (by omega)⟩
    · rintro ⟨a, b⟩
      have := ih.mpr b
      omega
theorem norm_zero_iff {M : Int} {vs : List Int} (hM : 0 < M) (h : ∀ v ∈ vs, 0 ≤ v) : norm M vs.sum = 0 ↔ vs = List.replicate vs.length 0 := by
  rw [← sum_zero h]
  constructor
  · intro q
    rcases Int.lt_or_eq_of_le (sum_nn h) with z | z
    · have := norm_pos (M := M) (s := vs.sum) hM (by omega)
      omega
    · omega
  · intro q
    rw [q, norm_zero]
theorem atI_last {cs : List Addr} (h : 0 < cs.length) : atI (cs.map V.ref) (-1) = some (.ref (cs[cs.length - 1]'(by omega))) := by
  unfold atI ixN
  rw [if_neg (by omega), if_pos (by simp; omega)]
  simp only [Option.bind_some, List.length_map]
  have e : ((-1 : Int) + (cs.length : Int)).toNat = cs.length - 1 := by omega
  rw [e, List.getElem?_map, List.getElem?_eq_getElem (by omega)]
  rfl
theorem walk_end {l : PySem.W.OpenLaw} {n k : Nat} {q : Program} {loose : List Str} {XP : (Str → Option Value) → Heap → Prop} {YP : World → Heap → Prop} {d : DefRec} {x : Str} (hn : l.most = some n) (hn2 : n ≤ sizeLine) (hdf : d.params.defaults = []) (hr : Room k callerA)
    (F : ∀ (w : World) (mg : Str → Option Value) (fa : Addr) (h : Heap), YP w h → h.Ns mainGlobals mg → mg d.name = some (.ref fa) →
      ∃ (K : PySem.W.Frag) (fd : FuncData) (sp : Sp), K.In h ∧ (∀ (s : Shared) (u : Value), BindsTo s fd ⟨[u], []⟩ [(x, u)]) ∧
        (∀ (H : Hp) (a : Addr) (ns : List Int), ns.length ≤ n → Only H → SqL K H a (ns.map V.int) → sp [.ref a] H (fun v _ => v = .bl true) fun _ _ _ => False) ∧
        ∀ base : Heap, K.In base → base.Ns mainGlobals mg → FnOk l.prog w K mg base (L2.CX l.prog w) k fa fd [x] sp) :
    PySem.W.WalkO q loose XP YP l.row.toRowW d [] (fun f vs => PySem.call f vs) := by
  refine Att.attach_call hn hdf fun w s₀ s₁ mg mb fa o pm cd doc a vs ns G Y ho hd hcd hmg hobj hints hlen hg => ?_
  obtain ⟨K, fd, sp, KX, hb, hsp, hF⟩ := F w mg fa _ Y G.T.g hmg
  refine law_call KX G.T.g G.T.b G.T.builtins G.T.nolimit hg hobj hints (Nat.le_trans hlen hn2) hr hF hb (fun H hO hS => hsp H a ns hlen hO hS) fun H e s' c => ?_
  obtain ⟨_, _, _, _, _, _, _, _, _, _, _, _, z⟩ := c
  exact z
end Z

namespace Z
open PySem PySem.Spec PyProof.Rows L2
section
variable {K : PySem.W.Frag} {C : Addr} {σ : L2.St} {H : Hp} {Q : VK} {E : XK} {D : Ends} {ta : TA} {te tl : TE} {g : TG} {tt : TT} {tb : TS} {vs : List Nat}
def LcP (J : It) (g : TG) (tt : TT) (te : TE) (vs : List Nat) (σ : L2.St) (H1 : Hp) (D : Addr) (Qd : Hp → Prop) : Prop := ∃ W : Nat → Nat → Hp → Prop, (∃ m, W 0 m (upd H1 D (.lst []))) ∧ ∀ i m H, W i m H →
  (J.stop i H ∧ Qd H) ∨ (J.go i H ∧ ∃ Nx : Hp → Prop, (∀ H', Nx H' → ∃ m', m' < m ∧ W (i + 1) m' H') ∧ ∀ x H', J.yld i H x H' → g x (wipe σ vs) H' fun σ2 H2 => wipe σ2 vs = wipe σ vs ∧ tt σ2 H2 fun b H3 =>
    if b = true then te σ2 H3 fun y H4 => ∃ acc, H4 D = some (.lst acc) ∧ acc.length < sizeLine ∧ Nx (upd H4 D (.lst (acc ++ [y]))) else Nx H3)
theorem s_lcR {n : Int} (hn : 0 ≤ n ∧ n ≤ 1000) (h : ∀ R : List V → Hp → Prop, R [.int n] H → ta σ H R) (Pv : Addr → Nat → Hp → Prop) (h0 : ∀ L H', H L = none → Ex H H' → H' L = some (.lst []) → Pv L 0 H')
    (hs : ∀ L (i : Nat) H', H L = none → (i : Int) < n → Pv L i H' → g (.int i) (wipe σ vs) H' fun σ2 H2 => wipe σ2 vs = wipe σ vs ∧ tt σ2 H2 fun b H3 => if b = true then te σ2 H3 fun y H4 => LcN (Pv L (i + 1)) L y H4 else Pv L (i + 1) H3)
    (hd : ∀ L H', H L = none → Pv L n.toNat H' → Q (.ref L) H') : tLc (iRng1 ta) g tt te vs σ H Q := by
  refine h _ ⟨n, rfl, by omega, by omega, fun L hL => lc_range (lo := 0) (n := n.toNat) (Pv L) (h0 L _ hL (Ex.new hL) upd_same) (fun i H' hi p => ?_) fun H' p => hd L H' hL p⟩
  have e : (0 : Int) + (i : Int) = (i : Int) := Int.zero_add _
  rw [e]
  exact hs L i H' hL (by omega) p
theorem s_lcL {a : Addr} {xs : List V} (h : ∀ R : VK, R (.ref a) H → tl σ H R) (hx : SqL K H a xs) (Pv : Addr → Nat → Hp → Prop) (h0 : ∀ L H', H L = none → Ex H H' → H' L = some (.lst []) → Pv L 0 H') (hl : ∀ L i H', H L = none → Pv L i H' → SqL K H' a xs)
    (hs : ∀ L i x H', H L = none → xs[i]? = some x → Pv L i H' → g x (wipe σ vs) H' fun σ2 H2 => wipe σ2 vs = wipe σ vs ∧ tt σ2 H2 fun b H3 => if b = true then te σ2 H3 fun y H4 => LcN (Pv L (i + 1)) L y H4 else Pv L (i + 1) H3)
    (hd : ∀ L H', H L = none → Pv L xs.length H' → Q (.ref L) H') : tLc (iList K tl) g tt te vs σ H Q := by
  refine h _ ⟨a, rfl, ⟨xs, hx⟩, fun L hL => lc_list (K := K) (a := a) (xs := xs) (Pv L) (h0 L _ hL (Ex.new hL) upd_same) (fun i H' _ p => hl L i H' hL p) (fun i x H' hi p => hs L i x H' hL hi p) fun H' p => hd L H' hL p⟩
theorem s_yes {QT : Bool → Hp → Prop} (k : QT true H) : tYes σ H QT := k
end
end Z

namespace Z
open PySem PySem.Spec PyProof.Rows L2
section
variable {K : PySem.W.Frag} {σ : L2.St} {H : Hp} {D : Ends} {ta : TA} {tl : TE} {g : TG} {tb : TS}
theorem s_forR {n : Int} (hn : 0 ≤ n ∧ n ≤ 100000) (h : ∀ R : List V → Hp → Prop, R [.int n] H → ta σ H R) (Pv : Nat → L2.St → Hp → Prop) (h0 : Pv 0 σ H)
    (hs : ∀ (i : Nat) σ' H', (i : Int) < n → Pv i σ' H' → g (.int i) σ' H' fun σ2 H2 => tb { D with nx := Pv (i + 1), ct := Pv (i + 1), bk := D.nx } σ2 H2) (hd : ∀ σ' H', Pv n.toNat σ' H' → D.nx σ' H') : tFor (iRng1 ta) g tb D σ H := by
  refine h _ ⟨n, rfl, by omega, by omega, for_range (lo := 0) (n := n.toNat) Pv h0 (fun i σ' H' hi p => ?_) hd⟩
  have e : (0 : Int) + (i : Int) = (i : Int) := Int.zero_add _
  rw [e]
  exact hs i σ' H' (by omega) p
theorem s_forL {a : Addr} {xs : List V} (h : ∀ R : VK, R (.ref a) H → tl σ H R) (hx : SqL K H a xs) (Pv : Nat → L2.St → Hp → Prop) (h0 : Pv 0 σ H) (hl : ∀ (i : Nat) σ' H', Pv i σ' H' → SqL K H' a xs)
    (hs : ∀ (i : Nat) x σ' H', xs[i]? = some x → Pv i σ' H' → g x σ' H' fun σ2 H2 => tb { D with nx := Pv (i + 1), ct := Pv (i + 1), bk := D.nx } σ2 H2) (hd : ∀ σ' H', Pv xs.length σ' H' → D.nx σ' H') : tFor (iList K tl) g tb D σ H :=
  h _ ⟨a, rfl, ⟨xs, hx⟩, for_list (K := K) (a := a) (xs := xs) Pv h0 (fun i σ' H' _ p => hl i σ' H' p) hs hd⟩
end
end Z

/-! Z: defs that show lists as texts: nothing is being shown when they are called -/
namespace Z
open PySem PySem.Spec PyProof.Rows L2
structure FnG (P : Program) (w : World) (K : PySem.W.Frag) (mg : Str → Option Value) (base : Heap) (k : Nat) (f : Addr) (fd : FuncData) (ps : List Str) (sp : Sp) : Prop where
  len : ∀ vs H Q E, sp vs H Q E → vs.length = ps.length
  run : ∀ (A : Around) (outer : List Env) (s : Shared) (H : Hp) (args : Args) (us : List Value) (vs : List V) (Q : VK) (E : XK), Room k A → A.guards = some [] → Env0 P w K mg base A outer s H → BindsTo s fd args (ps.zip us) →
    Vals vs us → sp vs H Q E → codeAny (model P w) A (.call (.ref f) args) (CR (L2.CX P w) outer P w H s Q E) s
theorem FnG.of {P : Program} {w : World} {K : PySem.W.Frag} {mg : Str → Option Value} {base : Heap} {k : Nat} {f : Addr} {fd : FuncData} {ps : List Str} {sp : Sp} (F : FnOk P w K mg base (L2.CX P w) k f fd ps sp) : FnG P w K mg base k f fd ps sp :=
  ⟨F.len, fun A outer s H args us vs Q E hr _ => F.run A outer s H args us vs Q E hr⟩
theorem okG {P : Program} {w : World} {K : PySem.W.Frag} {mg : Str → Option Value} {base : Heap} {x ql : Str} {pr : Arguments} {bd : List Stmt} {sc : Scope} {dvs : List V} {kws : List (Str × V)} {f : Addr} {fd : FuncData}
    {N ps : List Str} {k : Nat} {sp : Sp} (F : FunD K x ql pr bd sc dvs kws f fd) (S : FnScope N ps sc) (len : ∀ vs H Q E, sp vs H Q E → vs.length = ps.length)
    (hb : ∀ (cdv : Value) (A : Around) (outer : List Env) (s : Shared) (H : Hp) (vs : List V) (Q : VK) (E : XK), Room k (A.deeper (envOfC ql sc s.heap.objs.size f cdv)) → (A.deeper (envOfC ql sc s.heap.objs.size f cdv)).guards = some [] → sp vs H Q E →
      ∃ t, PSs (cxOf (L2.CX P w) P w K mg base N ql sc f cdv A outer s H E) bd t ∧ t { nx := fun _ H' => Q .non H', rt := Q } (L2.start N vs) H) : FnG P w K mg base (k + 1) f fd ps sp := by
  obtain ⟨oc, od, dV, kV, doc, pm, an, cdv, ct, osl, rfl, lk, hcd, _, _⟩ := F.ex
  refine ⟨len, fun A outer s H args us vs Q E hr hg e0 bi rv hsp => ?_⟩
  have lv := len _ _ _ _ hsp
  have old : ∀ b o, base.get? b = some o → s.heap.get? b = some o := fun b o e => (e0.bs b o e).1
  have KX : K.In s.heap := e0.mod.kin.keeps old
  have kinds : ∀ y ∈ ps.zip us, sc.names.lookup y.1 = some .local ∨ (sc.names.lookup y.1 = some .cell ∧ ((cellsFrom (s.heap.objs.size + 1) sc.names []).lookup y.1).isSome = true) := by
    rintro ⟨n, v⟩ hy
    exact (S.par n (List.of_mem_zip hy).1).imp id fun q => ⟨q, PySem.W.cellsFrom_some _ _ _ (.inl q)⟩
  refine codeAny_call_function hr.depth (KX _ _ lk) rfl S.co S.gen rfl (PySem.W.codeRec_of KX hcd) (bi _ _ _ _ ?_)
  refine wpAny_newFunctionEnv_cells S.kind kinds fun env he s1 ic => ?_
  subst he
  refine ⟨(e0.mod.nolimit.keeps old).keeps ic.toInCall.keep, codeAny_func ?_⟩
  obtain ⟨t, ht, hq⟩ := hb cdv A outer s H vs Q E (hr.deeper _) hg hsp
  have I := inv_start (CX := L2.CX P w) (E := E) S hr.hd e0 lv rv ic
  refine wpAny_mono (ht.run [] s1 (L2.start N vs) H _ I hq) (fun fl s' hs => ?_) fun _ _ z => z
  cases fl with
  | ret u =>
    obtain ⟨v, σ', H', J, r', q⟩ := hs
    exact ⟨v, H', J.os, J.bare, J.base, J.hok, r', q⟩
  | next =>
    obtain ⟨σ', H', J, q⟩ := hs
    exact ⟨V.non, H', J.os, J.bare, J.base, J.hok, rfl, q⟩
  | brk => exact (hs.choose_spec.choose_spec.2 : False).elim
  | cont => exact (hs.choose_spec.choose_spec.2 : False).elim
section
variable {X : Cx} {k : Nat} {f : Addr} {fd : FuncData} {ps : List Str} {sp : Sp} {E : XK} {x : Str} {p pos : Pos} {e : Expr} {es : List Expr} {t : TA}
theorem runG {pins : List (Addr × Obj)} {σ : L2.St} {H : Hp} {s : Shared} {Q : VK} {us : List Value} {vs : List V} (F : FnG X.prog X.w X.K X.mg X.base k f fd ps sp) (hr : Room k X.A) (hG : X.A.guards = some []) (hb : Binds X.K fd ps [])
    (hx : Passes (L2.CX X.prog X.w) X E) (I : Inv X pins σ H s) (r : Vals vs us) (h : sp vs H Q E) : wpAny (model X.prog X.w) X.A (call (.ref f) us) (EP X pins σ Q) X.xe s := by
  have hl : (us ++ []).length = ps.length := by
    rw [List.append_nil, ← r.length]
    exact F.len _ _ _ _ h
  have hbi := hb s us I.kIn hl
  rw [List.append_nil] at hbi
  refine wpAny_call (codeAny_mono (F.run X.A X.stack s H ⟨us, []⟩ us vs Q E hr hG I.env0 hbi r h) fun r' s' hq => ?_)
  cases r' with
  | error er => exact hx pins σ H s er s' I hq
  | ok fl =>
    cases fl with
    | ret u =>
      exact I.after hq
    | next => exact hq.elim
    | brk => exact hq.elim
    | cont => exact hq.elim
end
end Z

namespace Z
open PySem PySem.Spec PyProof.Rows L2
section
variable {X : Cx} {k : Nat} {f : Addr} {fd : FuncData} {ps : List Str} {sp : Sp} {E : XK} {x : Str} {p pos : Pos} {e : Expr} {es : List Expr} {t : TA}
theorem pe_callG (F : FnG X.prog X.w X.K X.mg X.base k f fd ps sp) (hr : Room k X.A) (hG : X.A.guards = some []) (hg : Gl X x) (hm : X.mg x = some (.ref f)) (hk : PySem.W.keepIn X.K (.ref f) = true) (hb : Binds X.K fd ps []) (hx : Passes (L2.CX X.prog X.w) X E)
    (ha : PA X (e :: es) t) (hdb : (x == ("__debug__" : Str)) = false := by decide) (hst : starEach (e :: es) X.env = (false, eval e X.env) :: starEach es X.env := by rfl) (hpl : (backTo pos (starEach es X.env)).any (·.1) = false := by rfl) :
    PE X (.Call (.Name x p) (e :: es) [] pos) (tCall sp [] E t) := by
  refine ⟨fun pins s σ H Q I h => ?_⟩
  refine wpAny_Call_Name_kw (ld_glob I hg hm ?_ hdb)
  refine PySem.W.callWith_K (h₀ := X.base) I.ok.mod.kin hk (thn (ha.run pos pins s σ H _ I h) ?_) hst hpl
  rintro us s1 ⟨vs, H1, I1, r, q⟩
  rw [List.append_nil] at q
  exact ⟨I1.kIn, runG F hr hG hb hx I1 r q⟩
/-- repr of data -/
def rReprD (K : PySem.W.Frag) : RC := fun xs H Q => ∃ a d, xs = [.ref a] ∧ Dp K H (.ref a) d ∧ d.showable = true ∧ d.hasDict = false ∧ d.depth ≤ 60 ∧ d.shown.length ≤ sizeLine ∧ Q (.str d.shown) H
theorem call_reprD (hG : X.A.guards = some []) (hu : X.A.units + 64 < cLine) : CallR X (.builtin "repr") (rReprD X.K) := by
  intro pins s σ H xs us Q I r h
  obtain ⟨a, d, rfl, hd, hs, hn, hp, hz, q⟩ := h
  cases r with
  | cons r0 r1 =>
    cases r1
    obtain rfl := (show _ = Value.ref a from r0)
    obtain ⟨as, rd⟩ := Dp.reads I d _ _ hd r0
    exact PySem.repr_of_reads' rd hs (PyData.noDict_hsm hn) hG (by omega) (fun _ _ z => z) (fun h' u tk hk => ⟨.str d.shown, H, I.kept hk, ⟨u, rfl⟩, q⟩) hz
end
theorem law_callG {P : Program} {w : World} {K : PySem.W.Frag} {mg mb : Str → Option Value} {k : Nat} {fa a : Addr} {fd : FuncData} {x : Str} {sp : Sp} {s1 : Shared} {vs : List Value} {ns : List Int}
    (KX : K.In s1.heap) (hns : s1.heap.Ns mainGlobals mg) (hb : s1.heap.Ns builtinsNs mb) (hbb : ∀ x : Str, x ≠ "__name__" → mb x = bootBuiltins x) (lim : s1.heap.NoLimit) (hg : s1.gens = #[])
    (ha : s1.heap.get? a = some { cls := .type "list", data := .seq vs.toArray }) (hi : IntsAre vs ns) (hl : ns.length ≤ sizeLine) (hr : Room k callerA)
    (F : ∀ base : Heap, K.In base → base.Ns mainGlobals mg → FnG P w K mg base k fa fd [x] sp) (bi : ∀ (s : Shared) (u : Value), BindsTo s fd ⟨[u], []⟩ [(x, u)])
    (hsp : ∀ H : Hp, Only H → SqL K H a (ns.map V.int) → sp [.ref a] H (fun v _ => v = .bl true) fun _ _ _ => False) :
    codeAny (model P w) callerA (.call (.ref fa) ⟨[.ref a], []⟩) (fun r s' => r = .ok (.ret (.bool true)) ∧ OldK s1.heap s'.heap ∧ s'.os = s1.os ∧ AllBare s'.gens) s1 := by
  have rv := vals_ints hi
  have go : ∀ H : Hp, Only H → SqL K H a (ns.map V.int) → HOk P w H s1.heap → (∀ b, H b ≠ none → b = a) → (H a ≠ none → K.lookup a = none) →
      codeAny (model P w) callerA (.call (.ref fa) ⟨[.ref a], []⟩) (fun r s' => r = .ok (.ret (.bool true)) ∧ OldK s1.heap s'.heap ∧ s'.os = s1.os ∧ AllBare s'.gens) s1 := by
    intro H hO hS ok only noK
    have free : ∀ {b : Addr}, b ≠ a → H b = none := fun {b} ne => by
      cases q : H b with
      | none => rfl
      | some u => exact absurd (only b (by rw [q]; simp)) ne
    have noDict : ∀ {b : Addr} {o : Obj} {es : Array DictEntry} {ep : Nat}, s1.heap.get? b = some o → o.data = .dict es ep → H b = none := fun {b o es ep} e d => free fun z => by
      subst z
      rw [ha] at e
      cases e
      cases (show Data.seq vs.toArray _ = Data.dict es ep from d)
    have ns' : ∀ {b : Addr} {m : Str → Option Value}, s1.heap.Ns b m → (hidT s1.heap H).Ns b m := fun {b m} n => by
      obtain ⟨o, es, ep, e, d, r⟩ := n
      exact ⟨o, es, ep, hidT_get e (noDict e d), d, r⟩
    have K' : K.In (hidT s1.heap H) := fun b o e => hidT_get (KX b o e) (by
      by_cases z : b = a
      · cases q : H b with
        | none => rfl
        | some u =>
          subst z
          rw [noK (by rw [q]; simp)] at e
          cases e
      · exact free z)
    have lim' : (hidT s1.heap H).NoLimit := by
      obtain ⟨mc, h1, h2⟩ := lim
      exact ⟨mc, ns' h1, h2⟩
    have e0 : Env0 P w K mg (hidT s1.heap H) callerA [] s1 H := ⟨rfl, ⟨K', ns' hns, ⟨mb, ns' hb, hbb⟩, lim'⟩, fun _ _ e => of_hidT e, Nat.le_of_eq (hidT_size _ _), trivial, fun b z => absurd (show b ∈ ([] : List Addr) from z) (by simp), ok, .of_eq hg⟩
    refine codeAny_mono ((F _ K' (ns' hns)).run callerA [] s1 H ⟨[.ref a], []⟩ [.ref a] [.ref a] _ _ hr rfl e0 (bi s1 (.ref a)) (.cons rfl .nil) (hsp H hO hS)) ?_
    intro r s' h
    cases r with
    | error e =>
      obtain ⟨_, _, _, _, _, _, _, _, _, _, _, _, z⟩ := h
      exact z.elim
    | ok fl =>
      cases fl with
      | ret u =>
        obtain ⟨v, H', os, bare, un, ok', rr, q⟩ := h
        obtain rfl : v = .bl true := q
        obtain rfl : u = Value.bool true := rr
        refine ⟨rfl, OldK.of_keep fun b o e => ?_, os, bare⟩
        rcases hO b with z | ⟨ob, xs, z⟩
        · exact un.keep b o e z (fun y => absurd (show b ∈ ([] : List Addr) from y) (by simp)) (by simp)
        · have e1 := (ok b _ z).1
          have e2 := (ok' b _ (un.frzs b ob _ z)).1
          rw [e] at e1
          cases e1
          exact e2
      | next => exact h.elim
      | brk => exact h.elim
      | cont => exact h.elim
  have lv := hi.length
  cases hk : K.lookup a with
  | some o =>
    have e := KX a o hk
    rw [ha] at e
    cases e
    exact go (fun _ => none) (fun _ => .inl rfl) (.inr ⟨_, vs.toArray, _, hk, rfl, rfl, rfl, by rw [List.size_toArray, lv]; exact hl, by simpa using rv⟩) (fun _ _ z => nomatch z) (fun _ z => absurd rfl z) fun z => absurd rfl z
  | none =>
    have at_ : ∀ b, b ≠ a → (if b = a then some (HO.frz { cls := .type "list", data := .seq vs.toArray } (.lst (ns.map V.int))) else none) = none := fun b ne => if_neg ne
    refine go (fun b => if b = a then some (.frz { cls := .type "list", data := .seq vs.toArray } (.lst (ns.map V.int))) else none) (fun b => ?_) (.inl (.inr ⟨_, if_pos rfl⟩)) (fun b u z => ?_) (fun b z => ?_) fun _ => hk
    · by_cases q : b = a
      · exact .inr ⟨_, _, if_pos q⟩
      · exact .inl (if_neg q)
    · by_cases q : b = a
      · have z2 := (if_pos q).symm.trans z
        cases z2
        subst q
        exact ⟨ha, by rw [List.length_map]; exact hl, vs, _, rv, ha⟩
      · have z2 := (if_neg q).symm.trans z
        cases z2
    · exact Classical.byContradiction fun q => z (if_neg q)
theorem walk_endG {l : PySem.W.OpenLaw} {n k : Nat} {q : Program} {loose : List Str} {XP : (Str → Option Value) → Heap → Prop} {YP : World → Heap → Prop} {d : DefRec} {x : Str} (hn : l.most = some n) (hn2 : n ≤ sizeLine) (hdf : d.params.defaults = []) (hr : Room k callerA)
    (F : ∀ (w : World) (mg : Str → Option Value) (fa : Addr) (h : Heap), YP w h → h.Ns mainGlobals mg → mg d.name = some (.ref fa) →
      ∃ (K : PySem.W.Frag) (fd : FuncData) (sp : Sp), K.In h ∧ (∀ (s : Shared) (u : Value), BindsTo s fd ⟨[u], []⟩ [(x, u)]) ∧
        (∀ (H : Hp) (a : Addr) (ns : List Int), ns.length ≤ n → Only H → SqL K H a (ns.map V.int) → sp [.ref a] H (fun v _ => v = .bl true) fun _ _ _ => False) ∧
        ∀ base : Heap, K.In base → base.Ns mainGlobals mg → FnG l.prog w K mg base k fa fd [x] sp) :
    PySem.W.WalkO q loose XP YP l.row.toRowW d [] (fun f vs => PySem.call f vs) := by
  refine Att.attach_call hn hdf fun w s₀ s₁ mg mb fa o pm cd doc a vs ns G Y ho hd hcd hmg hobj hints hlen hg => ?_
  obtain ⟨K, fd, sp, KX, hb, hsp, hF⟩ := F w mg fa _ Y G.T.g hmg
  exact law_callG KX G.T.g G.T.b G.T.builtins G.T.nolimit hg hobj hints (Nat.le_trans hlen hn2) hr hF hb (fun H hO hS => hsp H a ns hlen hO hS)
end Z

/-! Z: methods called with keywords, abs of an own instance, xor of words, repr beside lists -/
namespace Z
open PySem PySem.Spec PyProof.Rows L2
theorem and_step (a b : Nat) : a &&& b = 2 * (a / 2 &&& b / 2) + (a % 2) * (b % 2) := by
  have h1 : (a &&& b) / 2 = a / 2 &&& b / 2 := Nat.and_div_two
  have h2 : (a &&& b) % 2 = (a % 2) * (b % 2) := by
    have e := Nat.and_mod_two_pow (a := a) (b := b) (n := 1)
    simp only [Nat.pow_one] at e
    rw [e]
    rcases Nat.mod_two_eq_zero_or_one a with h | h <;> rcases Nat.mod_two_eq_zero_or_one b with h' | h' <;> rw [h, h'] <;> rfl
  omega
theorem xor_le : ∀ (n a b : Nat), a < 2 ^ n → b < 2 ^ n → a + b - 2 * (a &&& b) < 2 ^ n ∧ 2 * (a &&& b) ≤ a + b := by
  intro n
  induction n with
  | zero => intro a b ha hb; simp at ha hb; subst ha; subst hb; decide
  | succ n ih =>
    intro a b ha hb
    rw [Nat.pow_succ] at ha hb ⊢
    have := ih (a / 2) (b / 2) (by omega) (by omega)
    rw [and_step a b]
    generalize a / 2 &&& b / 2 = c at *
    rcases Nat.mod_two_eq_zero_or_one a with h | h <;> rcases Nat.mod_two_eq_zero_or_one b with h' | h' <;> rw [h, h'] <;> omega
def oxor (a b : Int) : Int := Builtin.bitXor a b
theorem oxor_in {w a b : Int} (ha : InW w a) (hb : InW w b) : InW w (oxor a b) := by
  obtain ⟨h1, h2, h3, h4⟩ := ha
  obtain ⟨_, _, h5, h6⟩ := hb
  obtain ⟨m, rfl⟩ := Int.eq_ofNat_of_zero_le h3
  obtain ⟨n, rfl⟩ := Int.eq_ofNat_of_zero_le h5
  unfold oxor
  rw [bitXor_and, bitAnd_pp (Int.natCast_nonneg m) (Int.natCast_nonneg n), Int.toNat_natCast, Int.toNat_natCast]
  unfold topI at h4 h6
  have e : ((2 ^ w.toNat : Nat) : Int) = (2 : Int) ^ w.toNat := by exact_mod_cast rfl
  have := xor_le w.toNat m n (by omega) (by omega)
  refine ⟨h1, h2, by omega, ?_⟩
  unfold topI
  omega
def ofar (w v : Int) : Int := if orest w v < topI w - orest w v then orest w v else topI w - orest w v
section
variable {X : Cx} {CX : CXT} {k : Nat} {f C : Addr} {fd : FuncData} {ps ks : List Str} {sp : Sp} {E : XK} {x m : Str} {p pos apos : Pos} {e o : Expr} {es : List Expr} {kws : List Keyword} {ta : TE} {t tk : TA}
theorem run_in {A : Around} {pins : List (Addr × Obj)} {σ : L2.St} {H : Hp} {s : Shared} {Q : VK} {us : List Value} {vs : List V} (F : FnOk X.prog X.w X.K X.mg X.base CX k f fd ps sp) (hr : Room k A) (e0 : Env0 X.prog X.w X.K X.mg X.base A X.stack s H) (hb : Binds X.K fd ps [])
    (hx : Passes CX X E) (I : Inv X pins σ H s) (r : Vals vs us) (h : sp vs H Q E) : wpAny (model X.prog X.w) A (call (.ref f) us) (EP X pins σ Q) X.xe s := by
  have hl : (us ++ []).length = ps.length := by
    rw [List.append_nil, ← r.length]
    exact F.len _ _ _ _ h
  have hbi := hb s us I.kIn hl
  rw [List.append_nil] at hbi
  refine wpAny_call (codeAny_mono (F.run A X.stack s H ⟨us, []⟩ us vs Q E hr e0 hbi r h) fun r' s' hq => ?_)
  cases r' with
  | error er => exact hx pins σ H s er s' I hq
  | ok fl =>
    cases fl with
    | ret u => exact I.after hq
    | next => exact hq.elim
    | brk => exact hq.elim
    | cont => exact hq.elim
/-- abs(x) of an own instance -/
def rAbsO (C : Addr) (sp : Sp) (E : XK) : RC := fun xs H Q => ∃ a dx fs, xs = [.ref a] ∧ H a = some (.ins C dx fs) ∧ sp [.ref a] H Q E
theorem call_absO (hs : PySem.W.findIn X.K (.ref C) "__abs__" = some (some (.ref f))) (hf : PySem.W.isFn X.K (.ref f) = true)
    (Fn : FnOk X.prog X.w X.K X.mg X.base CX k f fd ps sp) (hr : Room (k + 1) X.A) (hb : Binds X.K fd ps []) (hx : Passes CX X E) : CallR X (.builtin "abs") (rAbsO C sp E) := by
  intro pins s σ H xs us Q I r h
  obtain ⟨a, dx, fs, rfl, ha, hsp⟩ := h
  obtain ⟨u, rfl, ru⟩ := vals1 r
  obtain rfl : u = Value.ref a := ru
  obtain ⟨ox, od, i1⟩ := ins_look I ha
  refine PySem.Calls.call_function_entry kind_abs plain_abs entry_abs (args_abs _) ?_
  unfold Builtin.«abs»
  refine wpAny_bind (m := oneArg "abs" _) (wpAny_pure ?_)
  refine wpAny_bind (m := callSpecial? (.ref a) (Str.ofString "__abs__")) (PySem.W.special_fn I.kIn i1 hs (beq_iff_eq.mp hf) ?_)
  refine wpAny_mono (run_in (vs := [.ref a]) Fn (Room.in1 hr) I.env0.in1 hb hx I (.cons rfl .nil) hsp) (fun v s' hv => ?_) fun _ _ z => z
  exact wpAny_pure ⟨_, rfl, hv⟩
theorem FunD.kbindsN {K : PySem.W.Frag} {x ql : Str} {pr : Arguments} {bd : List Stmt} {sc : Scope} {kws : List (Str × V)} (F : FunD K x ql pr bd sc [] kws f fd) (n : Nat) (ks : List Str) (g : {α : Type} → List α → List α → List α)
    (hrel : ∀ {vs zs : List V} {us ws : List Value}, Vals vs us → Vals zs ws → Vals (g vs zs) (g us ws))
    (h : ∀ (kV doc pm : Value) (an : Option Addr) (cdv ct : Value) (us ws : List Value), us.length = n → ws.length = ks.length → bindArgs (PySem.W.fnOf x ql pr bd sc .none kV doc pm an cdv ct) ⟨us, ks.zip ws⟩ = pure (ps.zip (g us ws))) : KBn K fd ps n ks (fun us ws => g us ws) (fun vs zs => g vs zs) := by
  obtain ⟨oc, od, dV, kV, doc, pm, an, cdv, ct, osl, rfl, lk, hcd, hD, hK⟩ := F.ex
  rcases hD with ⟨_, rfl⟩ | ⟨e, _⟩
  · exact ⟨fun s us ws X l1 l2 => .of_eq (h kV doc pm an cdv ct us ws l1 l2), fun r1 r2 => hrel r1 r2⟩
  · exact absurd rfl e
/-- o.m(k = v, ..) -/
def tMethN (C : Addr) (m : Str) (n : Nat) (sp : Sp) (gV : List V → List V → List V) (E : XK) (ta : TE) (tk : TA) : TE := fun σ H Q => ta σ H fun x H1 => InsP C m (fun x H1 => tk σ H1 fun zs H2 => zs.length = n ∧ sp (gV [x] zs) H2 Q E) x H1
variable {g : List Value → List Value → List Value} {gV : List V → List V → List V}
theorem pe_methN {pl : Sem Bool} (he : PE X o ta) (c : Cls X.K C) (hm : Meth X.K C m f) (F : FnOk X.prog X.w X.K X.mg X.base CX k f fd ps sp) (hr : Room k X.A) (hb : KBn X.K fd ps 1 ks g gV) (hx : Passes CX X E) (hkw : PK X kws tk)
    (hall : (backToKw pos (keywordEach kws X.env)).all (·.1.isSome) = true := by rfl) (hks : (backToKw pos (keywordEach kws X.env)).filterMap (·.1) = ks := by rfl)
    (hpl : ((backTo pos (starEach [] X.env)).any (·.1) || (backToKw pos (keywordEach kws X.env)).any (·.1.isNone)) = false := by rfl)
    (ht : eval (.Call (.Attribute o m apos) [] kws pos) X.env = (do
      let ov ← eval o X.env
      standAt apos.atName
      let (f, first) ← holding [ov] (getMethod ov m pl)
      callWith pos f first (backTo pos (starEach [] X.env)) (backToKw pos (keywordEach kws X.env))) := by rfl) :
    PE X (.Call (.Attribute o m apos) [] kws pos) (tMethN C m ks.length sp gV E ta tk) := by
  refine ⟨fun pins s σ H Q I h => ?_⟩
  refine PySem.W.methodCall_KW (pl := pl) (thn (he.run pins s σ H _ I h) fun u s1 ⟨x, H1, I1, rx, a, dx, fs, ex, ea, l, q⟩ => ?_) ht
  subst ex
  obtain rfl : u = Value.ref a := rx
  refine getmeth_ok I1 ea c hm l ?_
  refine PySem.W.callWith_KW0 (first := [.ref a]) (h₀ := X.base) I.ok.mod.kin hm.kp hall (thn (hkw.run pos pins s1 σ H1 _ I1 q) fun ws s2 ⟨zs, H2, I2, rz, l2, q2⟩ => ⟨I2.kIn, ?_⟩) hpl
  rw [hks]
  exact run_fnN (us := [.ref a]) (vs := [.ref a]) F hr hb hx I2 (.cons rfl .nil) rz rfl l2 q2
theorem s_methN {σ : L2.St} {H : Hp} {Q : VK} {n : Nat} (h : ta σ H fun x H1 => InsP C m (fun x H1 => tk σ H1 fun zs H2 => zs.length = n ∧ sp (gV [x] zs) H2 Q E) x H1) : tMethN C m n sp gV E ta tk σ H Q := h
/-- abs of a word -/
theorem r_absO {a : Addr} {w v : Int} {H : Hp} {Q : VK} (ha : IsW C H a w v) (k : sp [.ref a] H Q E) : rAbsO C sp E [.ref a] H Q := ⟨a, _, _, rfl, ha.2.choose_spec, k⟩
end
end Z

/-! Z: texts of bits -/
namespace Z
open PySem PySem.Spec PyProof.Rows L2
def bitT (v : Int) : Nat → List Nat
  | 0 => []
  | n + 1 => (48 + ((v / 2 ^ n) % 2).toNat) :: bitT v n
def valT (a : Int) (l : List Nat) : Int := l.foldl (fun a (c : Nat) => 2 * a + ((c : Int) - 48)) a
theorem bitT_length (v : Int) : ∀ n, (bitT v n).length = n
  | 0 => rfl
  | n + 1 => by rw [bitT, List.length_cons, bitT_length v n]
theorem emod_pow_succ (v : Int) (n : Nat) : v % 2 ^ (n + 1) = (v / 2 ^ n) % 2 * 2 ^ n + v % 2 ^ n := by
  have hp : (0 : Int) < 2 ^ n := Int.pow_pos (by decide)
  have e1 := Int.mul_ediv_add_emod v (2 ^ n)
  have e2 := Int.mul_ediv_add_emod (v / 2 ^ n) 2
  have r0 := Int.emod_nonneg v (show (2 : Int) ^ n ≠ 0 by omega)
  have r1 := Int.emod_lt_of_pos v hp
  have b0 := Int.emod_nonneg (v / 2 ^ n) (show (2 : Int) ≠ 0 by decide)
  have b1 := Int.emod_lt_of_pos (v / 2 ^ n) (show (0 : Int) < 2 by decide)
  generalize v / 2 ^ n / 2 = q at *
  generalize (v / 2 ^ n) % 2 = b at *
  generalize v % 2 ^ n = r at *
  generalize hu : v / 2 ^ n = u at *
  have e3 : v = (b * 2 ^ n + r) + 2 ^ (n + 1) * q := by
    rw [← e1, ← e2, Int.pow_succ, Int.mul_add, Int.mul_comm b]
    have : (2 : Int) ^ n * (2 * q) = 2 ^ n * 2 * q := by rw [Int.mul_assoc]
    omega
  have lt : b * 2 ^ n + r < 2 ^ (n + 1) := by
    rw [Int.pow_succ]
    have : b = 0 ∨ b = 1 := by omega
    rcases this with rfl | rfl <;> omega
  have ge : 0 ≤ b * 2 ^ n + r := by
    have : b = 0 ∨ b = 1 := by omega
    rcases this with rfl | rfl <;> omega
  rw [e3, Int.add_mul_emod_self_left, Int.emod_eq_of_lt ge lt]
theorem valT_bit (v : Int) : ∀ (n : Nat) (a : Int), valT a (bitT v n) = a * 2 ^ n + v % 2 ^ n
  | 0, a => by
    show a = a * 2 ^ 0 + v % 2 ^ 0
    rw [Int.pow_zero, Int.emod_one]
    omega
  | n + 1, a => by
    have b0 := Int.emod_nonneg (v / 2 ^ n) (show (2 : Int) ≠ 0 by decide)
    show valT (2 * a + (((48 + ((v / 2 ^ n) % 2).toNat : Nat) : Int) - 48)) (bitT v n) = _
    rw [valT_bit v n, emod_pow_succ]
    have e : (((48 + ((v / 2 ^ n) % 2).toNat : Nat) : Int) - 48) = (v / 2 ^ n) % 2 := by omega
    rw [e, Int.add_mul, Int.pow_succ]
    have : 2 * a * 2 ^ n = a * (2 ^ n * 2) := by
      rw [Int.mul_comm 2 a, Int.mul_assoc, Int.mul_comm 2]
    omega
theorem bitT_drop (v : Int) : ∀ (n k : Nat), k ≤ n → (bitT v n).drop k = bitT v (n - k)
  | n, 0, _ => rfl
  | n + 1, k + 1, h => by
    rw [bitT, List.drop_succ_cons, bitT_drop v n k (by omega)]
    congr 1
    omega
theorem bitT_take (v : Int) : ∀ (n k : Nat), k ≤ n → (bitT v n).take k = bitT (v / 2 ^ (n - k)) k
  | n, 0, _ => by simp [bitT]
  | n + 1, k + 1, h => by
    rw [bitT, List.take_succ_cons, bitT_take v n k (by omega), bitT]
    have e : n + 1 - (k + 1) = n - k := by omega
    have e2 : v / 2 ^ n = v / 2 ^ (n - k) / 2 ^ k := by
      rw [Int.ediv_ediv_of_nonneg (Int.le_of_lt (Int.pow_pos (by decide))), ← Int.pow_add, Nat.sub_add_cancel (by omega)]
    rw [e, e2]
theorem turned_eq {w v : Int} {k : Nat} (h : InW w v) (hk : (k : Int) < w) : valT 0 ((bitT v w.toNat).drop k ++ (bitT v w.toNat).take k) = omul w v (2 ^ k) := by
  obtain ⟨h1, h2, h3, h4⟩ := id h
  have hM := topI_pos h1
  rw [bitT_drop _ _ _ (by omega), bitT_take _ _ _ (by omega)]
  unfold valT
  rw [List.foldl_append]
  show valT (valT 0 (bitT v (w.toNat - k))) (bitT (v / 2 ^ (w.toNat - k)) k) = _
  rw [valT_bit, valT_bit, Int.zero_mul, Int.zero_add, omul_norm]
  have hp : (0 : Int) < 2 ^ (w.toNat - k) := Int.pow_pos (by decide)
  have hq : (0 : Int) < 2 ^ k := Int.pow_pos (by decide)
  have e1 := Int.mul_ediv_add_emod v (2 ^ (w.toNat - k))
  have r0 := Int.emod_nonneg v (show (2 : Int) ^ (w.toNat - k) ≠ 0 by omega)
  have r1 := Int.emod_lt_of_pos v hp
  have hs : (2 : Int) ^ (w.toNat - k) * 2 ^ k = 2 ^ w.toNat := by rw [← Int.pow_add, Nat.sub_add_cancel (by omega)]
  have e2 : (2 : Int) ^ w.toNat = topI w + 1 := by unfold topI; omega
  have u0 : 0 ≤ v / 2 ^ (w.toNat - k) := Int.ediv_nonneg h3 (by omega)
  have u1 : v / 2 ^ (w.toNat - k) < 2 ^ k := by
    refine Int.ediv_lt_of_lt_mul hp ?_
    rw [Int.mul_comm, hs]
    omega
  rw [Int.emod_eq_of_lt u0 u1]
  generalize v / 2 ^ (w.toNat - k) = u at *
  generalize v % 2 ^ (w.toNat - k) = r at *
  have e3 : 2 ^ k * v = (r * 2 ^ k + u) + topI w * u := by
    rw [← e1, Int.mul_add, ← Int.mul_assoc, Int.mul_comm (2 ^ k) (2 ^ (w.toNat - k)), hs, e2, Int.add_mul, Int.mul_comm (2 ^ k) r]
    omega
  have le : r * 2 ^ k + u ≤ topI w := by
    have : r + 1 ≤ 2 ^ (w.toNat - k) := r1
    have m := Int.mul_le_mul_of_nonneg_right this (show (0 : Int) ≤ 2 ^ k by omega)
    rw [hs, e2, Int.add_mul] at m
    omega
  have rk : 0 ≤ r * 2 ^ k := Int.mul_nonneg r0 (by omega)
  have ge : 0 ≤ r * 2 ^ k + u := by omega
  have vk : 0 ≤ 2 ^ k * v := Int.mul_nonneg (by omega) h3
  have tu : 0 ≤ topI w * u := Int.mul_nonneg (by omega) u0
  rw [norm_eq (M := topI w) (s := 2 ^ k * v) (t := r * 2 ^ k + u) (by omega) vk ge ⟨fun z => by omega, fun z => ?_⟩ u e3, norm_small ge le]
  have : u = 0 := by omega
  rw [e3, this]
  omega
/-- doubling -/
theorem norm_idem {M s : Int} (hM : 0 < M) : norm M (norm M s) = norm M s := norm_small (norm_range hM).1 (norm_range hM).2
theorem norm_addL {M a b : Int} (hM : 0 < M) (ha : 0 ≤ a) (hb : 0 ≤ b) : norm M (norm M a + b) = norm M (a + b) := by
  rw [← norm_norm_add hM (norm_range hM).1 hb, norm_idem hM, norm_norm_add hM ha hb]
theorem norm_lin {M a t b : Int} (hM : 0 < M) (ha : 0 ≤ a) (ht : 0 ≤ t) (hb : 0 ≤ b) : norm M (a + t * norm M b) = norm M (a + t * b) := by
  have n0 := (norm_range (M := M) (s := b) hM).1
  rw [← norm_norm_add hM ha (Int.mul_nonneg ht n0), norm_mul_norm hM ht hb, norm_norm_add hM ha (Int.mul_nonneg ht hb)]
theorem dbl1 {M f d l g : Int} (hM : 0 < M) (hf : 0 ≤ f) (hd : 0 ≤ d) (hl : 0 ≤ l) (ho : l % 2 = 1) (h : norm M (f + l * d) = g) : norm M (norm M (f + d) + l / 2 * norm M (d + d)) = g := by
  rw [norm_addL hM (by omega) (Int.mul_nonneg (by omega) (norm_range hM).1), norm_lin hM (by omega) (by omega) (by omega), ← h]
  congr 1
  have : l = 2 * (l / 2) + 1 := by omega
  generalize l / 2 = q at *
  subst this
  rw [Int.add_mul, Int.mul_add, Int.mul_assoc]
  generalize q * d = z
  omega
theorem dbl0 {M f d l g : Int} (hM : 0 < M) (hf : 0 ≤ f) (hd : 0 ≤ d) (hl : 0 ≤ l) (ho : l % 2 = 0) (h : norm M (f + l * d) = g) : norm M (f + l / 2 * norm M (d + d)) = g := by
  rw [norm_lin hM (by omega) (by omega) (by omega), ← h]
  congr 1
  have : l = 2 * (l / 2) := by omega
  generalize l / 2 = q at *
  subst this
  rw [Int.mul_add, Int.mul_assoc]
  generalize q * d = z
  omega
/-! the steps -/
def rStrI : RC := fun xs H Q => ∃ i, xs = [.int i] ∧ i.natAbs.log2 < 1920 ∧ Q (.str (toString i)) H
def rIntS : RC := fun xs H Q => ∃ a n, xs = [.str a] ∧ PySem.intText? a = some n ∧ a.length ≤ 640 ∧ Q (.int n) H
def rAddS : R2 := fun x y H Q => ∃ i j, x = .str i ∧ y = .str j ∧ i.length + j.length ≤ sizeLine ∧ Q (.str (i ++ j)) H
section
variable {X : Cx}
theorem zc_strI : CallR X (.type "str") rStrI := call_str_int
theorem zc_intS : CallR X (.type "int") rIntS := call_int_str
theorem op_addS : OpR X (binaryOp .Add) rAddS := op_add_str
end
theorem bit_str (b : Int) (h : b = 0 ∨ b = 1) : ((toString b : String) : Str) = ⟨#[48 + b.toNat]⟩ := by
  rcases h with rfl | rfl <;> decide +kernel
theorem int_bit (b : Int) (h : b = 0 ∨ b = 1) : PySem.intText? (⟨#[48 + b.toNat]⟩ : Str) = some b := by
  rcases h with rfl | rfl <;> decide +kernel
theorem app_bit (c : Nat) (l : List Nat) : (⟨#[c]⟩ : Str) ++ (⟨l.toArray⟩ : Str) = ⟨(c :: l).toArray⟩ := by
  show Str.mk (#[c] ++ l.toArray) = _
  congr 1
  simp
theorem app_l (a l : List Nat) : (⟨a.toArray⟩ : Str) ++ (⟨l.toArray⟩ : Str) = ⟨(a ++ l).toArray⟩ := by
  show Str.mk (a.toArray ++ l.toArray) = _
  congr 1
  simp
theorem cutS_from {l : List Nat} {k : Int} (h0 : 0 ≤ k) (h1 : k ≤ l.length) : cutS ⟨l.toArray⟩ (some k) none = ⟨(l.drop k.toNat).toArray⟩ := by
  have e1 : HT.sIx l.length 0 (some k) = k.toNat := by
    unfold HT.sIx
    simp only []
    split <;> omega
  have e2 : HT.sIx l.length l.length none = l.length := rfl
  show Str.mk (((l.toArray.toList.drop (HT.sIx l.toArray.size 0 (some k))).take (HT.sIx l.toArray.size l.toArray.size none - HT.sIx l.toArray.size 0 (some k))).toArray) = _
  rw [List.size_toArray, e1, e2]
  congr 2
  show (l.drop k.toNat).take _ = _
  rw [List.take_of_length_le (by rw [List.length_drop]; omega)]
theorem cutS_to {l : List Nat} {k : Int} (h0 : 0 ≤ k) (h1 : k ≤ l.length) : cutS ⟨l.toArray⟩ none (some k) = ⟨(l.take k.toNat).toArray⟩ := by
  have e1 : HT.sIx l.length l.length (some k) = k.toNat := by
    unfold HT.sIx
    simp only []
    split <;> omega
  have e2 : HT.sIx l.length 0 none = 0 := rfl
  show Str.mk (((l.toArray.toList.drop (HT.sIx l.toArray.size 0 none)).take (HT.sIx l.toArray.size l.toArray.size (some k) - HT.sIx l.toArray.size 0 none)).toArray) = _
  rw [List.size_toArray, e1, e2]
  rfl
theorem valT_snoc (a : Int) (l : List Nat) (c : Nat) : valT a (l ++ [c]) = 2 * valT a l + ((c : Int) - 48) := by
  unfold valT
  rw [List.foldl_append]
  rfl
theorem bitT_mem (v : Int) : ∀ (n c : Nat), c ∈ bitT v n → c = 48 ∨ c = 49
  | 0, c, h => by simp [bitT] at h
  | n + 1, c, h => by
    rw [bitT, List.mem_cons] at h
    rcases h with h | h
    · have b0 := Int.emod_nonneg (v / 2 ^ n) (show (2 : Int) ≠ 0 by decide)
      have b1 := Int.emod_lt_of_pos (v / 2 ^ n) (show (0 : Int) < 2 by decide)
      omega
    · exact bitT_mem v n c h
theorem int_sign {c : Nat} (h : c = 48 ∨ c = 49) : PySem.intText? (⟨#[c]⟩ : Str) = some ((c : Int) - 48) := by
  rcases h with rfl | rfl <;> decide +kernel
/-- for .. in a text -/
def ForS (g : TG) (tb : TS) (D : Ends) (σ : L2.St) (v : V) (H : Hp) : Prop := ∃ z, v = .str z ∧ ∃ W : Nat → Nat → L2.St → Hp → Prop, (∃ m, W 0 m σ H) ∧ ∀ i m σ H, W i m σ H →
  ((Its z).stop i H ∧ D.nx σ H) ∨ ((Its z).go i H ∧ ∃ N : L2.St → Hp → Prop, (∀ σ' H', N σ' H' → ∃ m', m' < m ∧ W (i + 1) m' σ' H') ∧ ∀ x H', (Its z).yld i H x H' → g x σ H' fun σ2 H2 => tb { D with nx := N, ct := N, bk := D.nx } σ2 H2)
theorem s_forS {te : TE} {g : TG} {tb : TS} {D : Ends} {σ : L2.St} {H : Hp} (h : te σ H (ForS g tb D σ)) : tFor (iStr te) g tb D σ H := h
theorem for_S {z : Str} {g : TG} {tb : TS} {D : Ends} {σ : L2.St} {H : Hp} (Pv : Nat → L2.St → Hp → Prop) (h0 : Pv 0 σ H)
    (hs : ∀ i c σ H, z.cps[i]? = some c → Pv i σ H → g (.str ⟨#[c]⟩) σ H fun σ2 H2 => tb { D with nx := Pv (i + 1), ct := Pv (i + 1), bk := D.nx } σ2 H2) (hd : ∀ σ H, Pv z.cps.size σ H → D.nx σ H) : ForS g tb D σ (.str z) H := by
  refine ⟨z, rfl, fun i m σ H => m = z.cps.size - i ∧ i ≤ z.cps.size ∧ Pv i σ H, ⟨z.cps.size, by simp, Nat.zero_le _, h0⟩, ?_⟩
  rintro i m σ H ⟨rfl, hi, p⟩
  by_cases hlt : i < z.cps.size
  · refine .inr ⟨hlt, Pv (i + 1), fun σ' H' p' => ⟨z.cps.size - (i + 1), by omega, rfl, hlt, p'⟩, fun x H' y => ?_⟩
    obtain ⟨e, c, hc, y⟩ := y
    subst e y
    exact hs i c σ _ hc p
  · have e : i = z.cps.size := by omega
    subst e
    exact .inl ⟨Nat.le_refl _, hd σ H p⟩
def ForL (K : PySem.W.Frag) (g : TG) (tb : TS) (D : Ends) (σ : L2.St) (v : V) (H : Hp) : Prop := ∃ a, v = .ref a ∧ (∃ xs, SqL K H a xs) ∧ ∃ W : Nat → Nat → L2.St → Hp → Prop, (∃ m, W 0 m σ H) ∧ ∀ i m σ H, W i m σ H →
  ((Itl K a).stop i H ∧ D.nx σ H) ∨ ((Itl K a).go i H ∧ ∃ N : L2.St → Hp → Prop, (∀ σ' H', N σ' H' → ∃ m', m' < m ∧ W (i + 1) m' σ' H') ∧ ∀ x H', (Itl K a).yld i H x H' → g x σ H' fun σ2 H2 => tb { D with nx := N, ct := N, bk := D.nx } σ2 H2)
theorem s_forLe {K : PySem.W.Frag} {te : TE} {g : TG} {tb : TS} {D : Ends} {σ : L2.St} {H : Hp} (h : te σ H (ForL K g tb D σ)) : tFor (iList K te) g tb D σ H := h
theorem for_L {K : PySem.W.Frag} {a : Addr} {xs : List V} {g : TG} {tb : TS} {D : Ends} {σ : L2.St} {H : Hp} (hx : SqL K H a xs) (Pv : Nat → L2.St → Hp → Prop) (h0 : Pv 0 σ H) (hl : ∀ i σ H, Pv i σ H → SqL K H a xs)
    (hs : ∀ i x σ H, xs[i]? = some x → Pv i σ H → g x σ H fun σ2 H2 => tb { D with nx := Pv (i + 1), ct := Pv (i + 1), bk := D.nx } σ2 H2) (hd : ∀ σ H, Pv xs.length σ H → D.nx σ H) : ForL K g tb D σ (.ref a) H :=
  ⟨a, rfl, ⟨xs, hx⟩, for_list (K := K) (a := a) (xs := xs) Pv h0 (fun i σ' H' _ p => hl i σ' H' p) hs hd⟩
theorem atI_pairI {a b : Int} {c : Bool} : atI [V.int a, V.int b] (if c = true then 1 else 0) = some (V.int (if c = true then b else a)) := by cases c <;> rfl
theorem s_par3 {i j l : Nat} {tr : TA} {D : Ends} {σ : L2.St} {H : Hp} (k : tr σ H fun vs H1 => ∃ u v w, vs = [u, v, w] ∧ D.nx (((σ.set i (some u)).set j (some v)).set l (some w)) H1) : tPar3 i j l tr D σ H := k
/-! the promises -/
def spIs (C : Addr) : Sp := fun vs H Q _ => ∃ x w v w' v', vs = [.ref x, .int w', .int v'] ∧ IsW C H x w v ∧ Q (.bl (decide (w = w' ∧ v = v'))) H
def spLSum : Sp := fun vs H Q _ => ∃ w a b, vs = [.int w, .int a, .int b] ∧ InW w a ∧ InW w b ∧ Q (.int (osum w a b)) H
def spLMul : Sp := fun vs H Q _ => ∃ w v t, vs = [.int w, .int v, .int t] ∧ InW w v ∧ 0 ≤ t ∧ Q (.int (omul w v t)) H
def spTurn : Sp := fun vs H Q _ => ∃ w v b, vs = [.int w, .int v, .int b] ∧ InW w v ∧ Q (.int (omul w v (2 ^ (b % w).toNat))) H
def spTimes (K : PySem.W.Frag) : Sp := fun vs H Q _ => ∃ p w n, vs = [.ref p, .int w] ∧ PenAt K H p (n + 3) ∧ 1 ≤ w ∧ w ≤ 64 ∧ ∀ t H', Gr H H' → PenAt K H' p n → 0 ≤ t → t ≤ 10 ^ 30 → Q (.int t) H'
section
variable {K : PySem.W.Frag} {C : Addr} {H : Hp} {Q : VK} {E : XK} {w v a b t : Int}
theorem use_is {x : Addr} {w' v' : Int} (h : IsW C H x w v) (k : Q (.bl (decide (w = w' ∧ v = v'))) H) : spIs C [.ref x, .int w', .int v'] H Q E := ⟨x, w, v, w', v', rfl, h, k⟩
theorem use_lsum (ha : InW w a) (hb : InW w b) (k : Q (.int (osum w a b)) H) : spLSum [.int w, .int a, .int b] H Q E := ⟨w, a, b, rfl, ha, hb, k⟩
theorem use_lmul (h : InW w v) (ht : 0 ≤ t) (k : Q (.int (omul w v t)) H) : spLMul [.int w, .int v, .int t] H Q E := ⟨w, v, t, rfl, h, ht, k⟩
theorem use_turn (h : InW w v) (k : Q (.int (omul w v (2 ^ (b % w).toNat))) H) : spTurn [.int w, .int v, .int b] H Q E := ⟨w, v, b, rfl, h, k⟩
theorem use_times {p : Addr} {n : Nat} (h : PenAt K H p (n + 3)) (h1 : 1 ≤ w) (h2 : w ≤ 64) (k : ∀ t H', Gr H H' → PenAt K H' p n → 0 ≤ t → t ≤ 10 ^ 30 → Q (.int t) H') : spTimes K [.ref p, .int w] H Q E := ⟨p, w, n, rfl, h, h1, h2, k⟩
theorem r_strI {i : Int} (h : i.natAbs.log2 < 1920) (k : Q (.str (toString i)) H) : rStrI [.int i] H Q := ⟨i, rfl, h, k⟩
theorem r_intS {z : Str} {n : Int} (h : PySem.intText? z = some n) (h2 : z.length ≤ 640) (k : Q (.int n) H) : rIntS [.str z] H Q := ⟨z, n, rfl, h, h2, k⟩
theorem r_addS {y z : Str} (h : y.length + z.length ≤ sizeLine) (k : Q (.str (y ++ z)) H) : rAddS (.str y) (.str z) H Q := ⟨y, z, rfl, rfl, h, k⟩
theorem r_slS {z : Str} {lo hi : Option Int} (h : z.length ≤ sizeLine) (k : Q (.str (cutS z lo hi)) H) : rSlS (.str z) lo hi H Q := ⟨z, rfl, h, k⟩
end
theorem pow_wq (w q : Nat) : ∃ j : Int, 0 ≤ j ∧ (2 : Int) ^ (w * q) = (2 ^ w - 1) * j + 1 := by
  induction q with
  | zero => exact ⟨0, by decide, by simp⟩
  | succ q ih =>
    obtain ⟨j, h0, h⟩ := ih
    have hp : (0 : Int) < 2 ^ w := Int.pow_pos (by decide)
    refine ⟨2 ^ w * j + 1, by have := Int.mul_nonneg (Int.le_of_lt hp) h0; omega, ?_⟩
    rw [Nat.mul_succ, Int.pow_add, h]
    generalize (2 : Int) ^ w = p at *
    rw [Int.add_mul, Int.mul_add, Int.mul_assoc, Int.mul_comm j p]
    generalize p * j = y
    rw [Int.mul_one, Int.one_mul]
    omega
theorem omul_pow {w v t : Int} (h : InW w v) (ht : 0 ≤ t) : omul w v (2 ^ (t % w).toNat) = omul w v (1 * 2 ^ t.toNat) := by
  obtain ⟨h1, h2, h3, h4⟩ := id h
  have hM := topI_pos h1
  obtain ⟨j, j0, hj⟩ := pow_wq w.toNat (t / w).toNat
  have m1 := Int.emod_nonneg t (show w ≠ 0 by omega)
  have d0 : 0 ≤ t / w := Int.ediv_nonneg ht (by omega)
  have e1 := Int.mul_ediv_add_emod t w
  have e2 : t.toNat = w.toNat * (t / w).toNat + (t % w).toNat := by
    have : ((w.toNat * (t / w).toNat : Nat) : Int) = w * (t / w) := by
      rw [Int.natCast_mul, Int.toNat_of_nonneg (by omega), Int.toNat_of_nonneg d0]
    omega
  have hr : (0 : Int) < 2 ^ (t % w).toNat := Int.pow_pos (by decide)
  have hr0 : 0 ≤ (2 : Int) ^ (t % w).toNat * v := Int.mul_nonneg (Int.le_of_lt hr) h3
  have ek : 2 ^ t.toNat * v = 2 ^ (t % w).toNat * v + topI w * (j * (2 ^ (t % w).toNat * v)) := by
    rw [e2, Int.pow_add, hj]
    show ((topI w) * j + 1) * _ * v = _
    rw [Int.mul_assoc, Int.add_mul, Int.one_mul, Int.mul_assoc]
    omega
  have kk : 0 ≤ j * (2 ^ (t % w).toNat * v) := Int.mul_nonneg j0 hr0
  have hs : 0 ≤ (2 : Int) ^ t.toNat * v := Int.mul_nonneg (Int.le_of_lt (Int.pow_pos (by decide))) h3
  rw [omul_norm, omul_norm, Int.one_mul]
  refine (norm_eq (by omega) hs hr0 ⟨fun z => ?_, fun z => ?_⟩ _ ek).symm
  · have : 0 ≤ topI w * (j * (2 ^ (t % w).toNat * v)) := Int.mul_nonneg (by omega) kk
    omega
  · rw [ek, z]
    simp
/-- repr of a list of flat data -/
theorem r_reprD {K : PySem.W.Frag} {H : Hp} {Q : VK} {a : Addr} {d : PyData} (hd : Dp K H (.ref a) d) (h1 : d.showable = true) (h2 : d.hasDict = false) (h3 : d.depth ≤ 60) (h4 : d.shown.length ≤ sizeLine) (k : Q (.str d.shown) H) : rReprD K [.ref a] H Q := ⟨a, d, rfl, hd, h1, h2, h3, h4, k⟩
theorem ofar_in {w v : Int} (h : InW w v) : 0 ≤ ofar w v ∧ ofar w v ≤ topI w := by
  obtain ⟨h1, h2, h3, h4⟩ := id h
  have hM := topI_pos h1
  unfold ofar orest
  constructor <;> split <;> split <;> omega
def spRight4 (C : Addr) : Sp := fun vs H Q _ => ∃ w v b t, vs = [.int w, .int v, .int b, .int t] ∧ InW w v ∧ InW w b ∧ 0 ≤ t ∧ t ≤ 10 ^ 30 ∧ ∀ H', Ex H H' → Q (.bl true) H'
theorem bool_shown_len (c : Bool) : (PyData.bool c).shown.length ≤ 5 := by
  cases c <;> decide +kernel
theorem shown4 {f : Int} {c1 c2 c3 : Bool} (h0 : 0 ≤ f) (h1 : f < 2 ^ 64) :
    (PyData.list [.int f, .bool c1, .bool c2, .bool c3]).showable = true ∧ (PyData.list [.int f, .bool c1, .bool c2, .bool c3]).hasDict = false ∧ (PyData.list [.int f, .bool c1, .bool c2, .bool c3]).depth ≤ 60 ∧ (PyData.list [.int f, .bool c1, .bool c2, .bool c3]).shown.length ≤ sizeLine := by
  have hl : f.natAbs.log2 < 1920 := by
    have h2 : f.natAbs < 2 ^ 64 := by omega
    by_cases hz : f.natAbs = 0
    · rw [hz]; decide
    · exact Nat.lt_trans ((Nat.log2_lt hz).mpr h2) (by decide)
  refine ⟨?_, rfl, ?_, ?_⟩
  · simp [PyData.showable, PyData.showableAll, hl]
  · simp [PyData.depth, PyData.depthAll]
  · have hf : (PyData.int f).shown.length ≤ 20 := toString_length_le h0 (by decide) (by omega)
    have b1 := bool_shown_len c1
    have b2 := bool_shown_len c2
    have b3 := bool_shown_len c3
    have e := listText_len_le (PyData.shownAll [.int f, .bool c1, .bool c2, .bool c3])
    have big : 1000 ≤ sizeLine := by decide
    simp only [PyData.shownAll, List.map_cons, List.map_nil, List.sum_cons, List.sum_nil, List.length_cons, List.length_nil] at e
    simp only [PyData.shown] at e hf b1 b2 b3 ⊢
    simp only [PyData.shownAll, PyData.shown] at e ⊢
    omega
end Z

/-! Z: own errors whose __init__ says super().__init__(text) and stores its parameters -/
namespace Z
open PySem PySem.W PySem.Calls PyProof.Rows PySem.HandSPX L2
/-- what the written part says of an own error's __init__ -/
structure ErrI (P : Program) (K : Frag) (C fI : Addr) (x qual : Str) (params : Arguments) (body : List Stmt) (scope : Scope) : Prop where
  lk : ∃ (oc : Value) (od : Option Addr) (doc pm : Value) (an : Option Addr) (cda : Addr) (ct : Value) (cc : Addr) (osl : Array (Option Value)),
    K.lookup fI = some ⟨oc, od, .func (ksFn x qual params body scope .none .none doc pm an (.ref cda) ct cc), osl⟩ ∧ codeIn K (.ref cda) qual = true ∧
    (∃ ccl cdd vs ccs file tf, K.lookup cda = some ⟨ccl, cdd, .fields vs, ccs⟩ ∧ vs[2]? = some (.str file tf) ∧ ((P.main.file : Str) == file) = true) ∧
    (∃ cl cld csl, K.lookup cc = some ⟨cl, cld, .cell (some (.ref C)), csl⟩)
  sup : nsIn K mainGlobals "super" = some none
  top : (P.main.scope.names.lookup ("super" : Str)).isSome = false
  su : ks_superIn K C C "__init__" = some (some (.builtin "ValueError.__init__"))
  vE : subIn K (.ref C) (.type "ValueError") = some true
  me : mroIn K C (.ref C) = some true
  tp : nsIn K cStatics "thirdparty.any" = some none
  iC : findIn K (.ref C) "__init__" = some (some (.ref fI))
  tI : typeIn K (.ref fI) = some (.type "function")
  oex : OexC K C
section
variable {P : Program} {w : World} {K : Frag} {C fI a L cda cc : Addr} {x qual : Str} {params : Arguments} {body : List Stmt} {scope : Scope} {A : Around} {E : Value → Shared → Prop} {mg mb m : Str → Option Value}
variable {hp : Heap} {g : Array GenState} {d : Drawn} {t : Nat} {os : OsState} {p0 p1 p2 p3 p4 p5 p6 : Pos} {txt : Str} {oe : Obj}
/-- the built-in __init__, bound, is called -/
theorem mw_call {nm q : Str} {N : Addr} {bs bm : List Value} {hdct : Bool} {sn : List Str} {sub : List Value} {ab : Bool} {col : Option Bool} {dd : Option Addr} {k0 k1 k2 k3 k5 : Option Value} {u t0 : Addr} {rest : List Value} {Q : Value → Shared → Prop}
    (hC : hp.get? C = some (excClassObj nm q C N bs bm hdct sn sub ab col dd k0 k1 k2 k3 k5 "ValueError.__new__")) (he : hp.get? a = some (excO C t0)) (hu : hp.get? u = some (kxs_mw "ValueError.__init__" a)) (hz : rest.length ≤ sizeLine)
    (hq : ∀ h' t1, (∀ b o, b ≠ a → hp.get? b = some o → h'.get? b = some o) → h'.get? a = some (excO C t1) → Q .none ⟨h', g, d, t, os⟩) :
    wpAny (model P w) A (call (.ref u) rest) Q E ⟨hp, g, d, t, os⟩ := by
  refine wpAny_call (codeAny_of_tree ?_)
  show wpAny _ A.in1 (callAny (.ref u) ⟨rest, []⟩) _ _ _
  simp only [callAny]
  refine wpAny_bind (wpAny_load hu ?_)
  simp only [kxs_mw, show (Value.type "method-wrapper" == Value.type "method" || Value.type "method-wrapper" == Value.type "builtin_function_or_method" || Value.type "method-wrapper" == Value.type "method-wrapper") = true by decide, if_true]
  refine KFB.if_so (by decide) ?_
  refine wpAny_bind (check_bound_init F.excBase_ValueError.toExcCallFacts hC he rfl ?_)
  refine wpAny_bind (wpAny_pure (wpAny_pure ?_))
  refine ⟨plainId_quiet F.excBase_ValueError.init.plain _, codeAny_builtin F.excBase_ValueError.initEntry ?_⟩
  exact exc_init_tree (cls := .ref C) (t0 := t0) (dv := none) (c2 := .none) (c3 := .none) (b4 := .bool false) he hz fun h' k e' _ => hq h' _ k e'
theorem not_cls {X : K.In hp} {cd : ClassData} (he : hp.get? a = some (excO C L)) (hc : clsIn K C = some cd) : a ≠ C := by
  rintro rfl
  unfold clsIn at hc
  split at hc
  · rename_i c d cd' sl ho
    have e := X _ _ ho
    rw [he] at e
    cases e
  · cases hc
/-- super().__init__(text) -/
theorem super_init {t0 : Addr} {vs : Array Value} {file : Str} {tf : Tok} {ccl cl oc doc pm ct : Value} {cdd cld od an : Option Addr} {ccs csl osl : Array (Option Value)} {ar : Arg} {Q : Flow → Shared → Prop} {kk : Nat}
    (T : ErrI P K C fI x qual params body scope) (X : K.In hp)
    (hf : K.lookup fI = some ⟨oc, od, .func (ksFn x qual params body scope .none .none doc pm an (.ref cda) ct cc), osl⟩)
    (hcode : K.lookup cda = some ⟨ccl, cdd, .fields vs, ccs⟩) (hvs : vs[2]? = some (.str file tf)) (hfile : ((P.main.file : Str) == file) = true)
    (hcell : K.lookup cc = some ⟨cl, cld, .cell (some (.ref C)), csl⟩)
    (hp1 : (params.posonlyargs ++ params.args).head? = some ar) (hG : hp.Ns mainGlobals mg) (hB : hp.Ns builtinsNs mb) (hbb : mb "super" = bootBuiltins "super") (hL : hp.Ns L m) (hv : m ar.arg = some (.ref a)) (he : hp.get? a = some (excO C t0))
    (hks : scope.names.lookup ("super" : Str) = some .globalImplicit) (hkc : scope.names.lookup ("__class__" : Str) = some .free) (hka : scope.names.lookup ar.arg = some .local) (hk : scope.kind = .function)
    {pl : Sem Bool} (hi : interactive (ksEnv qual scope L fI (.ref cda) cc) = false) (hsw : swapsWith (.Call (.Attribute (.Call (.Name "super" p0) [] [] p1) "__init__" p2) [.Constant (.str txt) kk p3] [] p4) none p5.line (ksEnv qual scope L fI (.ref cda) cc) = pure false)
    (hev : eval (.Call (.Attribute (.Call (.Name "super" p0) [] [] p1) "__init__" p2) [.Constant (.str txt) kk p3] [] p4) (ksEnv qual scope L fI (.ref cda) cc) = (do
      let ov ← attributeBase (.Call (.Name "super" p0) [] [] p1) "__init__" (ksEnv qual scope L fI (.ref cda) cc) (eval (.Call (.Name "super" p0) [] [] p1) (ksEnv qual scope L fI (.ref cda) cc))
      standAt p2.atName
      let (f, first) ← holding [ov] (getMethod ov "__init__" pl)
      callWith p4 f first (backTo p4 (starEach [.Constant (.str txt) kk p3] (ksEnv qual scope L fI (.ref cda) cc))) []))
    (hq : ∀ h' t1 tk, (∀ b o, b ≠ a → hp.get? b = some o → h'.get? b = some o) → h'.get? a = some (excO C t1) → Q .next ⟨h', g, d, tk, os⟩) :
    _root_.PySem.wpAt (model P w) A (.func body (ksEnv qual scope L fI (.ref cda) cc)) (exec (.Expr (.Call (.Attribute (.Call (.Name "super" p0) [] [] p1) "__init__" p2) [.Constant (.str txt) kk p3] [] p4) p5) (ksEnv qual scope L fI (.ref cda) cc)) Q E ⟨hp, g, d, t, os⟩ := by
  obtain ⟨nm, q, N, bs, bm, sn, sub, ab, col, dd, k0, k1, k2, k3, k5, hC, hbm⟩ := T.oex.cls
  obtain ⟨cd, hcd⟩ : ∃ cd, clsIn K C = some cd := by
    cases z : clsIn K C with
    | none =>
      have := T.su
      unfold ks_superIn at this
      rw [z] at this
      cases this
    | some cd => exact ⟨cd, rfl⟩
  obtain ⟨oD, hD1, hD2⟩ : ∃ oD, hp.get? C = some oD ∧ oD.data = .cls cd := by
    have hcd' := hcd
    unfold clsIn at hcd'
    split at hcd'
    · rename_i c d cd' sl ho
      cases hcd'
      exact ⟨_, X _ _ ho, rfl⟩
    · cases hcd'
  have hne : a ≠ C := not_cls (X := X) he hcd
  have hsu := T.su
  unfold ks_superIn at hsu
  rw [hcd] at hsu
  refine ks_wpAt_Expr_any ?_ hi hsw
  refine ks_wpAt_MethodCall ?_ hev
  refine ks_wpAt_super_base (env := ksEnv qual scope L fI (.ref cda) cc) hks hkc (by decide +kernel) rfl (X _ _ hf) rfl hp1 rfl (X _ _ hcode) rfl hvs hfile T.top ?_
  refine ks_loadName_global hk hks (loadGlobal_builtin (env := ksEnv qual scope L fI (.ref cda) cc) hG (mg_none_of X hG T.sup) hB (hbb.trans (by decide +kernel)) ⟨rfl, ?_⟩)
  refine wpAny_loadName_free hk hkc rfl ⟨_, X _ _ hcell, rfl⟩ ?_
  refine wpAny_loadName_local hk hka hL hv ?_
  refine ks_wpAny_isType_cls hD1 hD2 ⟨rfl, ?_⟩
  refine ks_wpAny_call_super hD1 hD2 he rfl (fun c e => by cases e) (looks_mroIn X T.me) (fun h1 e1 k1 => ?_)
  have X1 : K.In h1 := fun b o z => k1 _ _ (X b o z)
  have he1 := k1 _ _ he
  have I1 : InstAt h1 a (excO C t0) C none := ⟨he1, rfl, rfl, trivial⟩
  refine kxs_getMethod kxs_ValueError e1 (looks_opaque X1 T.tp) (l₀ := cd.mro) (fun A Q E s k q => wpAny_bind ((looks_clsIn X1 hcd) A _ E s k (wpAny_pure q))) rfl X1 hsu (I1.type.andThen (looks_subIn X1 T.vE)) hne (by decide +kernel) ?_
  have up : ∀ b o, h1.get? b = some o → (h1.push (kxs_mw "ValueError.__init__" a)).get? b = some o := fun b o e => Heap.get?_push_of_some _ e
  have hmw : (h1.push (kxs_mw "ValueError.__init__" a)).get? h1.objs.size = some (kxs_mw "ValueError.__init__" a) := Heap.get?_push_at rfl rfl
  refine kxs_callWith (i := "ValueError.__init__") (x := a) rfl (evalArgs_plain ?_)
  show wpAny _ A (spliced ((false, eval (.Constant (.str txt) kk p3) (ksEnv qual scope L fI (.ref cda) cc)) :: [])) _ _ _
  refine spliced_cons (wpAny_Constant_str (spliced_nil ⟨hmw, ?_⟩))
  exact mw_call (up _ _ (X1 _ _ hC)) (up _ _ he1) hmw (by show 1 ≤ sizeLine; decide) fun h' t1 k e => hq h' t1 _ (fun b o hb hbo => k b o hb (up _ _ (k1 _ _ hbo))) e
/-- how far the fields are stored -/
def Sto (n : Nat) (C a : Addr) (t1 : Addr) (done : List (Str × Value)) (h : Heap) : Prop := match done with
  | [] => h.get? a = some (excO C t1)
  | p :: r => ∃ dx, n < dx ∧ dx ≠ a ∧ h.get? a = some { cls := .ref C, dict := some dx, data := .fields #[.ref t1, .none, .none, .none, .bool false, .none] } ∧ h.Ns1 dx (fun y => (p :: r).lookup y)
theorem lookup_cons' (f g : Str) (y : Value) (fs : List (Str × Value)) : ((f, y) :: fs).lookup g = if g = f then some y else fs.lookup g := by
  by_cases h : g = f
  · subst h
    simp [List.lookup]
  · have e : (g == f) = false := by simpa using h
    rw [if_neg h]
    simp [List.lookup, e]
theorem within_lookup : ∀ (fs : List (Str × Value)), Within (fun y => fs.lookup y) (fs.map (·.1)) := fun fs y hy => by
  induction fs with
  | nil => exact absurd rfl hy
  | cons p r ih =>
    obtain ⟨f, v⟩ := p
    by_cases e : y = f
    · rw [e]
      exact List.mem_cons_self ..
    · refine List.mem_cons_of_mem _ (ih ?_)
      intro z
      exact hy ((lookup_cons' f y v r).trans ((if_neg e).trans z))
/-- self.f = p -/
theorem set_one {sn f pn : Str} {q1 q2 q3 q4 : Pos} {t1 : Addr} {done : List (Str × Value)} {v : Value} {env : Env} {cd : Code} {Q : Flow → Shared → Prop} (T : OexC K C) (X : K.In hp) (S : Sto env.locals C a t1 done hp) (hdl : done.length ≤ 900) (hno : findIn K (.ref C) f = some none)
    (hk : env.scope.kind = .function) (hL : hp.Ns env.locals m) (k1 : env.kindOf sn = some .local) (k2 : env.kindOf pn = some .local) (v1 : m sn = some (.ref a)) (v2 : m pn = some v)
    (hsw : swapsWith (.Name pn q3) (some (.Attribute (.Name sn q1) f q2)) q4.line env = pure false) (d1 : (sn == ("__debug__" : Str)) = false) (d2 : (pn == ("__debug__" : Str)) = false)
    (hq : ∀ h' tk, (∀ b o, b ≠ a → b ≤ env.locals → hp.get? b = some o → h'.get? b = some o) → Sto env.locals C a t1 ((f, v) :: done) h' → Q .next ⟨h', g, d, tk, os⟩) :
    _root_.PySem.wpAt (model P w) A cd (exec (.Assign [.Attribute (.Name sn q1) f q2] (.Name pn q3) q4) env) Q E ⟨hp, g, d, t, os⟩ := by
  obtain ⟨nm, q, N, bs, bm, sn', sub, ab, col, dd, k0, k1', k2', k3, k5, hC, hbm⟩ := T.cls
  have hcl : clsIn K C = some { name := nm, bases := bs, mro := .ref C :: bm, ns := N, qualname := q, hasDict := true, slotNames := sn', subclasses := sub, abstract := ab, collection := col, hasDel := false } := by unfold clsIn; rw [hC] <;> rfl
  refine ks_wpAt_Assign_Attr (wpAt_of_wpAny (wpAny_Name (wpAny_loadName_local hk k2 hL v2 (wpAny_Name (wpAny_loadName_local hk k1 hL v1 ?_) d1)) d2)) hsw
  cases done with
  | nil =>
    refine set_plain X (ox := excO C t1) (od := none) ⟨S, rfl, rfl, trivial⟩ T.sa ?_
    refine exc_osa X S hcl (show refsVE (.ref C :: bm) = true from hbm) rfl hno (fun h' tk' dx k dn dne hx hn' => ?_)
    refine hq h' tk' (fun b o hb _ hbo => k b o hb hbo) ⟨dx, Nat.lt_of_lt_of_le hL.lt dn, dne, hx, ?_⟩
    have e : (fun y => ((f, v) :: ([] : List (Str × Value))).lookup y) = fun y => if y = f then some v else none := funext fun y => lookup_cons' f y v []
    rw [e]
    exact hn'
  | cons p r =>
    obtain ⟨dx, hlt, dne, hx, hns⟩ := S
    have hw := within_lookup (p :: r)
    obtain ⟨oD, _, _, hoD, _, _⟩ := hns.count hw
    refine set_plain X (ox := { cls := .ref C, dict := some dx, data := .fields #[.ref t1, .none, .none, .none, .bool false, .none] }) (od := some oD) ⟨hx, rfl, rfl, hoD⟩ T.sa ?_
    refine PySem.OEX.osa_old X hx hns hw (by rw [List.length_map]; omega) hcl (show refsVE (.ref C :: bm) = true from hbm) rfl hno (fun h' tk' k hn => ?_)
    refine hq h' tk' (fun b o hb hl hbo => k b o (Nat.ne_of_lt (Nat.lt_of_le_of_lt hl hlt)) hbo) ⟨dx, hlt, dne, k _ _ (Ne.symm dne) hx, ?_⟩
    have e : (fun y => ((f, v) :: p :: r).lookup y) = fun y => if y = f then some v else (p :: r).lookup y := funext fun y => lookup_cons' f y v (p :: r)
    rw [e]
    exact hn
/-- the statement self.f = p -/
def asg (sn : Str) (q : Str × Str × Pos × Pos × Pos × Pos) : Stmt := .Assign [.Attribute (.Name sn q.2.2.1) q.1 q.2.2.2.1] (.Name q.2.1 q.2.2.2.2.1) q.2.2.2.2.2
/-- all the stores -/
theorem set_all {sn : Str} {env : Env} {cd : Code} {t1 : Addr} {Q : Flow → Shared → Prop} (T : OexC K C) (hk : env.scope.kind = .function) (k1 : env.kindOf sn = some .local) (v1 : m sn = some (.ref a)) (d1 : (sn == ("__debug__" : Str)) = false) (haL : a ≠ env.locals) (hKL : ∀ b o, K.lookup b = some o → b ≤ env.locals ∧ b ≠ a)
    (fls : List (Str × Str × Pos × Pos × Pos × Pos)) : ∀ (vs : List Value) (done : List (Str × Value)) (hp : Heap) (t : Nat), K.In hp → hp.Ns env.locals m → Sto env.locals C a t1 done hp → done.length + fls.length ≤ 900 → vs.length = fls.length →
    (∀ q ∈ fls, findIn K (.ref C) q.1 = some none ∧ env.kindOf q.2.1 = some .local ∧ (q.2.1 == ("__debug__" : Str)) = false ∧ swapsWith (.Name q.2.1 q.2.2.2.2.1) (some (.Attribute (.Name sn q.2.2.1) q.1 q.2.2.2.1)) q.2.2.2.2.2.line env = pure false) →
    (∀ (i : Nat) (q : Str × Str × Pos × Pos × Pos × Pos) (v : Value), fls[i]? = some q → vs[i]? = some v → m q.2.1 = some v) →
    (∀ h' tk, (∀ b o, b ≠ a → b ≤ env.locals → hp.get? b = some o → h'.get? b = some o) → Sto env.locals C a t1 (((fls.map (·.1)).zip vs).reverse ++ done) h' → Q .next ⟨h', g, d, tk, os⟩) →
    _root_.PySem.wpAt (model P w) A cd (execs (fls.map (asg sn)) env) Q E ⟨hp, g, d, t, os⟩ := by
  induction fls with
  | nil =>
    intro vs done hp t _ _ S _ hlen _ _ hq
    have hv : vs = [] := List.eq_nil_of_length_eq_zero hlen
    subst hv
    exact wpAt_of_wpAny (wpAny_execs_nil (hq hp t (fun _ _ _ _ e => e) S))
  | cons q fls ih =>
    intro vs done hp t X hL S hdl hlen hf hm hq
    cases vs with
    | nil => exact absurd hlen (by simp)
    | cons v vs =>
      obtain ⟨f1, f2, f3, f4⟩ := hf q (List.mem_cons_self ..)
      rw [List.length_cons] at hdl
      have hlen' : vs.length = fls.length := Nat.succ.inj hlen
      show _root_.PySem.wpAt (model P w) A cd (execs (asg sn q :: fls.map (asg sn)) env) Q E ⟨hp, g, d, t, os⟩
      refine ks_wpAt_execs_cons (set_one T X S (by omega) f1 hk hL k1 f2 v1 (hm 0 q v rfl rfl) f4 d1 f3 fun h' tk k S' => ?_)
      have hL' : h'.Ns env.locals m := by
        obtain ⟨o, es, ep, e, r⟩ := hL
        exact ⟨o, es, ep, k _ _ (Ne.symm haL) (Nat.le_refl _) e, r⟩
      refine ih vs ((q.1, v) :: done) h' tk (fun b o e => k b o (hKL b o e).2 (hKL b o e).1 (X b o e)) hL' S' (by rw [List.length_cons]; omega) hlen' (fun p hp => hf p (List.mem_cons_of_mem _ hp)) (fun i p u e1 e2 => hm (i + 1) p u e1 e2) fun h2 tk2 k2 S2 => ?_
      refine hq h2 tk2 (fun b o hb hl e => k2 b o hb hl (k b o hb hl e)) ?_
      have e : ((((q :: fls).map (·.1)).zip (v :: vs)).reverse ++ done) = ((fls.map (·.1)).zip vs).reverse ++ (q.1, v) :: done := by
        rw [List.map_cons, List.zip_cons_cons, List.reverse_cons, List.append_assoc]
        rfl
      rw [e]
      exact S2
end
end Z

/-! Z: C(e, ..) of an own error, as what is raised -/
namespace Z
open PySem PySem.W PySem.Calls PyProof.Rows PySem.HandSPX L2
theorem lookup_nodup {k : Str} {v : Value} : ∀ {l : List (Str × Value)}, (l.map (·.1)).Nodup → (k, v) ∈ l → l.lookup k = some v
  | [], _, h => by cases h
  | (f, u) :: l, nd, h => by
    obtain ⟨n1, n2⟩ := List.nodup_cons.mp nd
    rw [lookup_cons']
    rcases List.mem_cons.mp h with e | h
    · cases e
      rw [if_pos rfl]
    · rw [if_neg]
      · exact lookup_nodup n2 h
      · intro z
        exact n1 (z ▸ List.mem_map_of_mem (f := (·.1)) h)
theorem lookup_rev {k : Str} {v : Value} {l : List (Str × Value)} (nd : (l.map (·.1)).Nodup) (h : (k, v) ∈ l) : l.reverse.lookup k = some v :=
  lookup_nodup (by rw [List.map_reverse]; exact List.pairwise_reverse.mpr (nd.imp fun h => Ne.symm h)) (List.mem_reverse.mpr h)
/-- what the written text says of an error's __init__ -/
structure ErrS (params : Arguments) (scope : Scope) (qual sn : Str) (fls : List (Str × Str × Pos × Pos × Pos × Pos)) (p0 p1 p2 p3 p4 p5 : Pos) (txt : Str) (kk : Nat) : Prop where
  hp : ∃ ar, (params.posonlyargs ++ params.args).head? = some ar ∧ ar.arg = sn
  ks : scope.names.lookup ("super" : Str) = some .globalImplicit
  kc : scope.names.lookup ("__class__" : Str) = some .free
  ka : scope.names.lookup sn = some .local
  kp : ∀ q ∈ fls, scope.names.lookup q.2.1 = some .local ∧ (q.2.1 == ("__debug__" : Str)) = false
  hk : scope.kind = .function
  hc : ∀ x ∈ scope.names, x.2 ≠ .cell
  co : scope.isCoroutine = false
  gn : scope.isGenerator = false
  dn : (sn == ("__debug__" : Str)) = false
  nd : (sn :: fls.map (·.2.1)).Nodup
  hi : ∀ (L f : Addr) (cd : Value) (cc : Addr), interactive (ksEnv qual scope L f cd cc) = false
  sw : ∀ (L f : Addr) (cd : Value) (cc : Addr), swapsWith (.Call (.Attribute (.Call (.Name "super" p0) [] [] p1) "__init__" p2) [.Constant (.str txt) kk p3] [] p4) none p5.line (ksEnv qual scope L f cd cc) = pure false
  ev : ∃ pl : Sem Bool, ∀ (L f : Addr) (cd : Value) (cc : Addr), eval (.Call (.Attribute (.Call (.Name "super" p0) [] [] p1) "__init__" p2) [.Constant (.str txt) kk p3] [] p4) (ksEnv qual scope L f cd cc) = (do
      let ov ← attributeBase (.Call (.Name "super" p0) [] [] p1) "__init__" (ksEnv qual scope L f cd cc) (eval (.Call (.Name "super" p0) [] [] p1) (ksEnv qual scope L f cd cc))
      standAt p2.atName
      let (f', first) ← holding [ov] (getMethod ov "__init__" pl)
      callWith p4 f' first (backTo p4 (starEach [.Constant (.str txt) kk p3] (ksEnv qual scope L f cd cc))) [])
  sws : ∀ q ∈ fls, ∀ (L f : Addr) (cd : Value) (cc : Addr), swapsWith (.Name q.2.1 q.2.2.2.2.1) (some (.Attribute (.Name sn q.2.2.1) q.1 q.2.2.2.1)) q.2.2.2.2.2.line (ksEnv qual scope L f cd cc) = pure false
  bd : ∀ (x : Str) (body : List Stmt) (doc pm : Value) (an : Option Addr) (cda ct : Value) (cc : Addr) (u : Value) (us : List Value), us.length = fls.length → bindArgs (ksFn x qual params body scope .none .none doc pm an cda ct cc) ⟨u :: us, []⟩ = pure ((sn, u) :: (fls.map (·.2.1)).zip us)
section
variable {P : Program} {w : World} {K : Frag} {C fI a : Addr} {x qual sn : Str} {params : Arguments} {scope : Scope} {A : Around} {mg mb : Str → Option Value} {fls : List (Str × Str × Pos × Pos × Pos × Pos)}
variable {hp : Heap} {g : Array GenState} {d : Drawn} {t : Nat} {os : OsState} {p0 p1 p2 p3 p4 p5 : Pos} {txt : Str} {kk : Nat}
theorem err_run {t0 : Addr} {us : List Value} {R : Result → Shared → Prop} (T : ErrI P K C fI x qual params (.Expr (.Call (.Attribute (.Call (.Name "super" p0) [] [] p1) "__init__" p2) [.Constant (.str txt) kk p3] [] p4) p5 :: fls.map (asg sn)) scope)
    (S : ErrS params scope qual sn fls p0 p1 p2 p3 p4 p5 txt kk) (hno : ∀ q ∈ fls, findIn K (.ref C) q.1 = some none) (hl9 : fls.length ≤ 900) (hlen : us.length = fls.length) (X : K.In hp) (lim : hp.NoLimit) (hG : hp.Ns mainGlobals mg) (hB : hp.Ns builtinsNs mb) (hbb : mb "super" = bootBuiltins "super")
    (hdp : A.depth < recursionLimit) (he : hp.get? a = some (excO C t0)) (hKa : ∀ b o, K.lookup b = some o → b ≠ a)
    (hGa : mainGlobals ≠ a) (hBa : builtinsNs ≠ a)
    (hq : ∀ h' t1 tk, (∀ b o, b ≠ a → hp.get? b = some o → h'.get? b = some o) → Sto hp.objs.size C a t1 ((fls.map (·.1)).zip us).reverse h' → R (.ok (.ret .none)) ⟨h', g, d, tk, os⟩) :
    codeAny (model P w) A (.call (.ref fI) ⟨.ref a :: us, []⟩) R ⟨hp, g, d, t, os⟩ := by
  obtain ⟨oc, od, doc, pm, an, cda, ct, cc, osl, hf, hcd, ⟨ccl, cdd, vs, ccs, file, tf, hcode, hvs, hfile⟩, cl, cld, csl, hcell⟩ := T.lk
  obtain ⟨ar, hp1, har⟩ := S.hp
  obtain ⟨pl, hev⟩ := S.ev
  have ndk : (((sn, Value.ref a) :: (fls.map (·.2.1)).zip us).map (·.1)).Nodup := by
    rw [List.map_cons, List.map_fst_zip (by rw [List.length_map]; omega)]
    exact S.nd
  refine ks_codeAny_call_defAt (fd := ksFn x qual params (.Expr (.Call (.Attribute (.Call (.Name "super" p0) [] [] p1) "__init__" p2) [.Constant (.str txt) kk p3] [] p4) p5 :: fls.map (asg sn)) scope .none .none doc pm an (.ref cda) ct cc) (binds := (sn, .ref a) :: (fls.map (·.2.1)).zip us) hdp (X _ _ hf) rfl lim (codeRec_of X hcd) rfl
    (BindsTo.of_eq (S.bd _ _ _ _ _ _ _ _ _ _ hlen)) S.hc (fun y hy => ?_) (fun h0 hns hk0 => ?_) S.co S.gn S.hk
  · rcases List.mem_cons.mp hy with rfl | hy
    · exact S.ka
    · obtain ⟨q, hq1, hq2⟩ := List.mem_map.mp (List.of_mem_zip hy).1
      rw [← hq2]
      exact (S.kp q hq1).1
  · have X0 : K.In h0 := fun b o e => hk0 b o (X b o e)
    have keepNs : ∀ {b : Addr} {mm : Str → Option Value}, hp.Ns b mm → h0.Ns b mm := fun {b mm} n => by
      obtain ⟨o, es, ep, e, r⟩ := n
      exact ⟨o, es, ep, hk0 _ _ e, r⟩
    have he0 := hk0 _ _ he
    have msn : (fun y => ((sn, Value.ref a) :: (fls.map (·.2.1)).zip us).reverse.lookup y) sn = some (.ref a) := lookup_rev ndk (List.mem_cons_self ..)
    have haL : a < hp.objs.size := Heap.lt_size he
    refine ks_wpAt_execs_cons ?_
    refine super_init (L := hp.objs.size) (ar := ar) T X0 hf hcode hvs hfile hcell hp1 (keepNs hG) (keepNs hB) hbb hns (by rw [har]; exact msn) he0 S.ks S.kc (by rw [har]; exact S.ka) S.hk (S.hi _ _ _ _) (S.sw _ _ _ _) (hev _ _ _ _) fun h1 t1 tk1 k1 e1 => ?_
    have hL1 : h1.Ns hp.objs.size (fun y => ((sn, Value.ref a) :: (fls.map (·.2.1)).zip us).reverse.lookup y) := by
      obtain ⟨o, es, ep, e, r⟩ := hns
      exact ⟨o, es, ep, k1 _ _ (Nat.ne_of_gt haL) e, r⟩
    refine set_all (env := ksEnv qual scope hp.objs.size fI (.ref cda) cc) (done := []) T.oex S.hk S.ka msn S.dn (Nat.ne_of_lt haL) (fun b o e => ⟨Nat.le_of_lt (Heap.lt_size (X b o e)), hKa b o e⟩) fls us (t1 := t1) h1 tk1 (fun b o e => k1 _ _ (hKa b o e) (X0 b o e)) hL1 e1 (by simpa using hl9) hlen
      (fun q hq' => ⟨hno q hq', (S.kp q hq').1, (S.kp q hq').2, S.sws q hq' _ _ _ _⟩) (fun i q v e2 e3 => ?_) fun h2 tk2 k2 S2 => ?_
    · refine lookup_rev ndk (List.mem_cons_of_mem _ ?_)
      refine List.mem_of_getElem? (i := i) ?_
      rw [List.getElem?_zip_eq_some]
      exact ⟨by rw [List.getElem?_map, e2]; rfl, e3⟩
    · rw [List.append_nil] at S2
      exact hq h2 t1 tk2 (fun b o hb e => k2 b o hb (Nat.le_of_lt (Heap.lt_size e)) (k1 b o hb (hk0 b o e))) S2
end
/-- C(e, ..): an error with its fields, newest first -/
def tErr (C : Addr) (fns : List Str) (ta : TA) : L2.St → Hp → XK → Prop := fun σ H Q => ta σ H fun vs H1 => vs.length = fns.length ∧ ∀ d, H1 d = none → Q (.ref C) (some d) (upd H1 d (.xd (fns.zip vs).reverse))
theorem lookup_zip_rel {f : Str} : ∀ {fs : List (Str × V)} {us : List (Str × Value)}, Paired (fun p q => p.1 = q.1 ∧ RelV p.2 q.2) fs us → RelO (fs.lookup f) (us.lookup f)
  | _, _, .nil => True.intro
  | (g, v) :: fs, (g', u) :: us, .cons h r => by
    obtain ⟨h1, h2⟩ := h
    have h1 : g = g' := h1
    subst h1
    rw [lookup_put, lookup_cons']
    by_cases e : f = g
    · rw [if_pos e, if_pos e]
      exact h2
    · rw [if_neg e, if_neg e]
      exact lookup_zip_rel r
section
variable {X : Cx} {C fI : Addr} {x qual sn nm : Str} {params : Arguments} {scope : Scope} {fls : List (Str × Str × Pos × Pos × Pos × Pos)} {p0 p1 p2 p3 p4 p5 p pos : Pos} {txt : Str} {kk : Nat} {e : Expr} {es : List Expr} {ta : TA}
theorem paired_fields : ∀ {fns : List Str} {vs : List V} {us : List Value}, Vals vs us → Paired (fun p q => p.1 = q.1 ∧ RelV p.2 q.2) (fns.zip vs) (fns.zip us)
  | [], _, _, _ => by simp only [List.zip_nil_left]; exact .nil
  | _ :: _, _, _, .nil => by simp only [List.zip_nil_right]; exact .nil
  | f :: fns, v :: vs, u :: us, .cons h r => .cons ⟨rfl, h⟩ (paired_fields r)
theorem paired_rev {α β : Type} {F : α → β → Prop} : ∀ {l₁ : List α} {l₂ : List β}, Paired F l₁ l₂ → Paired F l₁.reverse l₂.reverse
  | _, _, .nil => .nil
  | a :: l₁, b :: l₂, .cons h r => by
    rw [List.reverse_cons, List.reverse_cons]
    exact (paired_rev r).snoc h
theorem pmk_err (T : ErrI X.prog X.K C fI x qual params (.Expr (.Call (.Attribute (.Call (.Name "super" p0) [] [] p1) "__init__" p2) [.Constant (.str txt) kk p3] [] p4) p5 :: fls.map (asg sn)) scope)
    (S : ErrS params scope qual sn fls p0 p1 p2 p3 p4 p5 txt kk) (hno : ∀ q ∈ fls, findIn X.K (.ref C) q.1 = some none) (hl9 : fls.length ≤ 900) (hl0 : fls ≠ []) (hr : Room 2 X.A) (hg : Gl X nm) (hm : X.mg nm = some (.ref C)) (ha : PA X (e :: es) ta)
    (hdb : (nm == ("__debug__" : Str)) = false := by decide) (he : starEach (e :: es) X.env = (false, eval e X.env) :: starEach es X.env := by rfl) (hpl : (backTo pos (starEach es X.env)).any (·.1) = false := by rfl) :
    PMk X (.Call (.Name nm p) (e :: es) [] pos) (tErr C (fls.map (·.1)) ta) := by
  intro pins s σ H Q I h
  obtain ⟨nm', q, N, bs, bm, sn', sub, ab, col, dd, k0, k1, k2, k3, k5, hC, hbm⟩ := T.oex.cls
  refine wpAny_Call_Name_kw (ld_glob I hg hm ?_ hdb)
  refine PySem.W.callWith_K (h₀ := X.base) I.ok.mod.kin T.oex.kC (thn (ha.run pos pins s σ H _ I h) fun us s1 ⟨vs, H1, I1, r1, hz, q1⟩ => ⟨I1.kIn, ?_⟩) he hpl
  show wpAny _ _ (call (.ref C) us) _ _ _
  obtain ⟨hp, g, dr, tk, os⟩ := s1
  generalize hA : hp.objs.size + 1 = a
  have hul : us.length = fls.length := by rw [← r1.length, hz, List.length_map]
  have hus : us.length ≤ sizeLine := by rw [sizeLine_eq]; omega
  have lt1 : hp.objs.size < a := by rw [← hA]; exact Nat.lt_succ_self _
  have na1 : H1 a = none := I1.hok.fresh (Nat.le_of_lt lt1)
  obtain ⟨hp2, hp2e⟩ : ∃ z, z = (hp.push (PySem.W.kdv_tup us)).push (PySem.HandSPX.excO C hp.objs.size) := ⟨_, rfl⟩
  have up2 : ∀ b o, hp.get? b = some o → hp2.get? b = some o := fun b o z => by rw [hp2e]; exact Heap.get?_push_of_some _ (Heap.get?_push_of_some _ z)
  have at2 : hp2.get? a = some (PySem.HandSPX.excO C hp.objs.size) := by rw [hp2e, ← hA]; heap_get
  have sz2 : hp.objs.size ≤ hp2.objs.size := Nat.le_trans (Nat.le_of_lt lt1) (Nat.le_of_lt (Heap.lt_size at2))
  obtain ⟨mb, hB, hbb⟩ := I1.ok.mod.blt
  have old : ∀ {b : Addr} {o : Obj}, hp.get? b = some o → b ≠ a := fun {b o} z => Nat.ne_of_lt (Nat.lt_trans (Heap.lt_size z) lt1)
  have nsk : ∀ {b : Addr} {mm : Str → Option Value}, X.base.Ns b mm → hp2.Ns b mm ∧ b ≠ a := fun {b mm} n => by
    obtain ⟨o, es, ep, z, r⟩ := n
    exact ⟨⟨o, es, ep, up2 _ _ (I1.bk _ _ z), r⟩, old (I1.bk _ _ z)⟩
  have kin2 : X.K.In hp2 := fun b o z => up2 _ _ (I1.kIn b o z)
  have lim2 : hp2.NoLimit := I1.nolimit.keeps up2
  refine wpAny_call (PySem.HandSPX.call_own F.excBase_ValueError (fun Y => PySem.HandSPX.refsVE_contains Y bm hbm) (I1.kIn _ _ hC) (looks_findIn I1.kIn T.iC) (fun me => bind_fn I1.kIn me T.tI) hus ?_)
  rw [hA, ← hp2e]
  refine err_run T S hno hl9 hul kin2 lim2 (nsk I1.ok.mod.glob).1 (nsk hB).1 (hbb _ (by decide +kernel)) (hr.make C us []).depth at2 (fun b o z => old (I1.kIn _ _ z)) (nsk I1.ok.mod.glob).2 (nsk hB).2 fun h' t1 tk' k S2 => ⟨rfl, ?_⟩
  cases hfl : ((fls.map (·.1)).zip us).reverse with
  | nil =>
    have z := congrArg List.length hfl
    simp [hul] at z
    exact absurd z hl0
  | cons p r =>
    rw [hfl] at S2
    obtain ⟨dd', hd1, hd2, hx, hns⟩ := S2
    have dsz : hp.objs.size ≤ dd' := Nat.le_trans sz2 (Nat.le_of_lt hd1)
    have nd1 : H1 dd' = none := I1.hok.fresh dsz
    have rel : ∀ f, RelO ((((fls.map (·.1)).zip vs).reverse).lookup f) ((p :: r).lookup f) := fun f => by
      rw [← hfl]
      exact lookup_zip_rel (paired_rev (paired_fields r1))
    obtain ⟨G, in1, out1⟩ := restrict h' fun b => decide (b ≠ a)
    have inG : ∀ b, b ≠ a → G.get? b = h'.get? b := fun b z => in1 b (by simpa using z)
    have outG : G.get? a = none := out1 a (by simp)
    have toG : ∀ b o, hp.get? b = some o → G.get? b = some o := fun b o z => (inG b (old z)).trans (k b o (old z) (up2 b o z))
    have J : Inv X pins σ (upd H1 dd' (.xd (((fls.map (·.1)).zip vs).reverse))) ⟨G, g, dr, tk', os⟩ :=
      I1.laid (t' := tk') toG dsz ⟨_, hns.at fun o z => (inG dd' hd2).trans z, rel⟩
    have subG : ∀ b o, G.get? b = some o → h'.get? b = some o := fun b o z => by
      by_cases q : b = a
      · rw [q, outG] at z
        cases z
      · exact (inG b q).symm.trans z
    have na3 : upd H1 dd' (.xd (((fls.map (·.1)).zip vs).reverse)) a = none := by
      rw [upd_ne (Ne.symm hd2)]
      exact na1
    exact ⟨a, _, _, ⟨G, g, dr, tk', os⟩, _, .ref C, some dd', rfl, J, subG, outG, hx, ⟨rfl, rfl⟩, rfl, rfl, na3, rfl, I1.bare, raises_own T.oex.exC T.oex.tyC, q1 dd' nd1⟩
end
end Z

/-! Z: facts of own errors; try .. except x as n, the error kept -/
namespace Z
open PySem PySem.W PySem.Calls PyProof.Rows PySem.HandSPX L2 He
/-- the class of an own error over ValueError -/
def oexB (K : Frag) (C : Addr) : Bool := match K.lookup C with
  | some o => (match o.cls, o.data, o.slots.toList with
    | .type t, .cls cd, [_, _, _, _, some (.builtin n), _] => decide (t = "type") && (decide (n = "ValueError.__new__") && ((!cd.hasDel) && (cd.hasDict && (match cd.mro with
      | .ref D :: bm => decide (D = C) && refsVE bm
      | _ => false))))
    | _, _, _ => false)
  | none => false
theorem oexB_ok {K : Frag} {C : Addr} (h : oexB K C = true) (sa : findIn K (.ref C) "__setattr__" = some (some (.builtin "object.__setattr__"))) (ex : subIn K (.ref C) (.type "BaseException") = some true) (ty : typeIn K (.ref C) = some (.type "type")) (kp : keepIn K (.ref C) = true) : OexC K C := by
  refine ⟨?_, sa, ex, ty, kp⟩
  unfold oexB at h
  split at h
  · rename_i o ho
    split at h
    · rename_i t cd k0 k1 k2 k3 n k5 e1 e2 e3
      simp only [Bool.and_eq_true, decide_eq_true_eq, Bool.not_eq_true'] at h
      obtain ⟨rfl, rfl, hd, hh, hm⟩ := h
      obtain ⟨oc, od, odt, osl⟩ := o
      dsimp only at e1 e2 e3
      subst e1 e2
      obtain ⟨nm, bs, mro, ns, qn, hd', sn, sub, ab, col, del⟩ := cd
      dsimp only at hd hh hm
      subst hd hh
      split at hm
      · rename_i D bm
        simp only [Bool.and_eq_true, decide_eq_true_eq] at hm
        obtain ⟨rfl, hv⟩ := hm
        have hs : osl = #[k0, k1, k2, k3, some (.builtin "ValueError.__new__"), k5] := by
          cases osl
          exact congrArg Array.mk e3
        subst hs
        exact ⟨nm, qn, ns, bs, bm, sn, sub, ab, col, od, k0, k1, k2, k3, k5, ho, hv⟩
      · cases hm
    · cases h
  · cases h
/-- an error's __init__: its closure, its code -/
def initB (P : Program) (K : Frag) (C fI : Addr) (qual : Str) : Bool := match (K.lookup fI).map (fun o : Obj => o.data) with
  | some (Data.func d) => (match d.closure, d.code, d.defaults, d.kwdefaults with
    | [(nm, cc)], .ref cda, .none, .none => decide (nm = "__class__") && (codeIn K (.ref cda) qual && ((match (K.lookup cda).map (fun o : Obj => o.data) with
      | some (Data.fields vs) => (match (vs[2]? : Option Value) with
        | some (Value.str file _) => (P.main.file : Str) == file
        | _ => false)
      | _ => false) && (match (K.lookup cc).map (fun o : Obj => o.data) with
      | some (Data.cell (some (.ref D))) => decide (D = C)
      | _ => false)))
    | _, _, _, _ => false)
  | _ => false
theorem init_lk {P : Program} {K : Frag} {C fI : Addr} {x qual : Str} {params : Arguments} {body : List Stmt} {scope : Scope} (e : fnAtE K fI = some (x, qual, params, .stmts body, scope, mainGlobals, [], builtinsNs)) (h : initB P K C fI qual = true) :
    ∃ (oc : Value) (od : Option Addr) (doc pm : Value) (an : Option Addr) (cda : Addr) (ct : Value) (cc : Addr) (osl : Array (Option Value)),
    K.lookup fI = some ⟨oc, od, .func (ksFn x qual params body scope .none .none doc pm an (.ref cda) ct cc), osl⟩ ∧ codeIn K (.ref cda) qual = true ∧
    (∃ ccl cdd vs ccs file tf, K.lookup cda = some ⟨ccl, cdd, .fields vs, ccs⟩ ∧ vs[2]? = some (.str file tf) ∧ ((P.main.file : Str) == file) = true) ∧
    (∃ cl cld csl, K.lookup cc = some ⟨cl, cld, .cell (some (.ref C)), csl⟩) := by
  unfold fnAtE at e
  unfold initB at h
  cases q : K.lookup fI with
  | none =>
    rw [q] at e
    cases e
  | some o =>
    obtain ⟨oc, od, dt, osl⟩ := o
    rw [q] at e h
    cases dt with
    | func d =>
      obtain ⟨n1, n2, n3, n4, n5, n6, n7, n8, n9, n10, n11, n12, n13, n14, n15⟩ := d
      have e2 : some (n1, n2, n3, n4, n5, n6, ([] : List (Str × Addr)), n15) = some (x, qual, params, FuncBody.stmts body, scope, mainGlobals, [], builtinsNs) := e
      simp only [Option.some.injEq, Prod.mk.injEq, true_and] at e2
      obtain ⟨h1, h2, h3, h4, h5, h6, h8⟩ := e2
      subst h1 h2 h3 h4 h5 h6 h8
      dsimp only [Option.map] at h
      split at h
      · rename_i nm cc cda
        simp only [Bool.and_eq_true, decide_eq_true_eq] at h
        obtain ⟨rfl, hcode, hfile, hcell⟩ := h
        refine ⟨_, _, _, _, _, cda, _, cc, _, rfl, hcode, ?_, ?_⟩
        · cases q2 : K.lookup cda with
          | none =>
            rw [q2] at hfile
            cases hfile
          | some o2 =>
            obtain ⟨c1, c2, c3, c4⟩ := o2
            rw [q2] at hfile
            cases c3 with
            | fields vs =>
              dsimp only [Option.map] at hfile
              split at hfile
              · rename_i file tk hv
                exact ⟨_, _, _, _, file, tk, rfl, hv, hfile⟩
              · cases hfile
            | _ => cases hfile
        · cases q2 : K.lookup cc with
          | none =>
            rw [q2] at hcell
            cases hcell
          | some o2 =>
            obtain ⟨c1, c2, c3, c4⟩ := o2
            rw [q2] at hcell
            dsimp only [Option.map] at hcell
            split at hcell
            · rename_i D hD
              cases hD
              have := of_decide_eq_true hcell
              subst this
              exact ⟨_, _, _, rfl⟩
            · cases hcell
      · cases h
    | _ => cases h
end Z

/-! Z: try .. except x as n, where the error is kept behind the suite -/
namespace Z
open PySem PySem.W PySem.Calls PyProof.Rows PySem.HandSPX L2
/-- an error that is kept: its class, its dict -/
def exv (a : Addr) (cls : Value) (d : Option Addr) : HO := .ext fun h => ∃ (oe : Obj) (vs : Array Value), h.get? a = some oe ∧ Zc cls d oe ∧ oe.data = .fields vs
theorem exv_ok {P : Program} {w : World} {H : Hp} {h : Heap} {a : Addr} {cls : Value} {d : Option Addr} {oe : Obj} {vs : Array Value} (e : h.get? a = some oe) (z : Zc cls d oe) (hd : oe.data = .fields vs) : ObjOk P w H h a (exv a cls d) :=
  ⟨⟨oe, vs, e, z, hd⟩, ⟨oe, e⟩, fun _ _ q k => by
    obtain ⟨o, us, q1, q2, q3⟩ := q
    exact ⟨o, us, k _ q1, q2, q3⟩⟩
theorem exv_at {P : Program} {w : World} {H : Hp} {h : Heap} {a : Addr} {cls : Value} {d : Option Addr} (hok : HOk P w H h) (e : H a = some (exv a cls d)) : ∃ (oe : Obj) (vs : Array Value), h.get? a = some oe ∧ Zc cls d oe ∧ oe.data = .fields vs := by
  have z : ObjOk P w H h a (.ext fun h => ∃ (oe : Obj) (vs : Array Value), h.get? a = some oe ∧ Zc cls d oe ∧ oe.data = .fields vs) := hok a _ e
  exact z.1
section
variable {X : Cx} {pins : List (Addr × Obj)} {σ : L2.St} {H : Hp} {s : Shared} {a : Addr} {cls : Value} {d : Option Addr} {oe : Obj} {vs : Array Value}
/-- an error's object is told from now on -/
theorem track (I : Inv X pins σ H s) (e : s.heap.get? a = some oe) (z : Zc cls d oe) (hd : oe.data = .fields vs) (na : H a = none) (old : X.s_0.heap.get? a = none) (nL : a ≠ X.env.locals) (np : ∀ p ∈ X.pn ++ pins, p.1 ≠ a) : Inv X pins σ (upd H a (exv a cls d)) s := by
  have ne : ∀ {b : Addr} {u : HO}, H b = some u → b ≠ a := fun {b u} q w => by
    rw [w, na] at q
    cases q
  refine ⟨I.ok, I.os, I.bare, ⟨I.base.keep, I.base.slot, fun b o q1 q2 q3 => ?_, I.base.there, fun b xs q => ?_, fun b o u q => ?_, fun b ps q => ?_⟩, I.loc, I.cell, ?_, fun y c q => ?_, fun p hp => ?_, fun b o q => ?_, I.len⟩
  · rw [upd_ne (fun w => by rw [w, old] at q1; cases q1)]
    exact I.base.free b o q1 q2 q3
  · have q' := I.base.tups b xs q
    rw [upd_ne (ne q')]
    exact q'
  · have q' := I.base.frzs b o u q
    rw [upd_ne (ne q')]
    exact q'
  · obtain ⟨more, q'⟩ := I.base.tbls b ps q
    exact ⟨more, by rw [upd_ne (ne q')]; exact q'⟩
  · rw [upd_ne (Ne.symm nL)]
    exact I.free
  · have nc : c ≠ a := fun w => by
      obtain ⟨v, o, c1, c2⟩ := I.cell y c q
      rw [w, e] at c1
      cases c1
      rw [hd] at c2
      cases c2
    rw [upd_ne nc]
    exact I.freeC y c q
  · obtain ⟨p1, p2, p3⟩ := I.pin p hp
    exact ⟨p1, by rw [upd_ne (np p hp)]; exact p2, p3⟩
  · by_cases w : b = a
    · subst w
      rw [upd_same] at q
      cases q
      exact exv_ok e z hd
    · rw [upd_ne w] at q
      exact (I.hok b o q).stay (fun _ _ _ y => y) (fun c hc => by rw [upd_ne (ne hc)]; exact hc) fun c xs hc => by rw [upd_ne (ne hc)]; exact hc
end
/-- what the clause wishes; behind the suite the error is told -/
def wKp (K : Frag) (c : Value) (i : Nat) (ts : Addr → Value → Option Addr → TS) (Wout : WX) (D : Ends) : WX := fun cls d σ H =>
  ∃ b, exmOne K cls c = some b ∧ (b = true → ∀ a, H a = none → ts a cls d { nx := fun σ' H' => D.nx (σ'.set i none) (upd H' a (exv a cls d)), rt := fun _ _ => False, bk := fun _ _ => False, ct := fun _ _ => False } (σ.set i (some (.ref a))) H) ∧ (b = false → Wout cls d σ H)
section
variable {X : Cx} {x n : Str} {c : Value} {i : Nat} {body suite : List Stmt} {b₀ : Stmt} {np pos pos' : Pos} {tb : WX → TS} {ts : Addr → Value → Option Addr → TS} {Wout : WX}
theorem ps_try_kp (hs : X.stack = X.env :: X.outer) (hf : X.env.frame = some X.env.locals) (hex : X.ex = []) (hN : X.N.Nodup) (hi : X.N[i]? = some n) (hln : X.env.kindOf n = some .local) (hc : Names X x c) (tk : Takes X Wout)
    (hb : ∀ (W : WX) (pn : List (Addr × Obj)) (xe : Value → Shared → Prop), Takes (X.tr pn xe) W → PassesOwn (model X.prog X.w) X.A X.env xe → PSs (X.tr pn xe) body (tb W))
    (hsu : ∀ (a : Addr) (oe : Obj) (cls : Value) (d : Option Addr) (pn : List (Addr × Obj)), Zc cls d oe → (∃ vs, oe.data = .fields vs) → PSs (X.suite a ((a, oe) :: pn)) (b₀ :: suite) (ts a cls d)) :
    PS X (.Try body [.ExceptHandler (some (.Name x np)) (some n) (b₀ :: suite) pos'] [] [] pos) (fun D σ H => tb (wKp X.K c i ts Wout D) D σ H) := by
  constructor
  intro pins s σ H D I h
  have ok := I.ok
  have fr2 : X.A.frames = some (X.env :: X.outer) := by rw [ok.frames, hs]
  refine wpAny_Try_except (wpAny_mono ((hb (wKp X.K c i ts Wout D) (X.pn ++ pins) _ (fun u s' xx => ?_) PassesOwn.looking).run [] s σ H D (I.toTry _) h) (fun f s1 sp => ?_) fun e s1 he => he)
  case refine_2 =>
    cases f with
    | ret u =>
      obtain ⟨v, σ', H', J', r, q⟩ := sp
      exact ⟨v, σ', H', J'.ofTry ok, r, q⟩
    | next =>
      obtain ⟨σ', H', J', q⟩ := sp
      exact wpAny_execs_nil ⟨σ', H', J'.ofTry ok, q⟩
    | brk =>
      obtain ⟨σ', H', J', q⟩ := sp
      exact ⟨σ', H', J'.ofTry ok, q⟩
    | cont =>
      obtain ⟨σ', H', J', q⟩ := sp
      exact ⟨σ', H', J'.ofTry ok, q⟩
  obtain ⟨a, B, sI, pins', σ', H', cls, d, rfl, J', nb, up, sky, na, os, ag, b, hb1, yes, no⟩ := xx
  have J : Inv X pins σ' H' sI := J'.ofTry ok
  rw [hs] at sky
  refine Sky.land Zc.steady fr2 hf sky fun h3 fl3 up3 => ?_
  obtain ⟨oe3, vs3, at3, zc3, fd3⟩ := fl3.there
  have offFr : a ∉ frs (X.env :: X.outer) := fun hm => by
    obtain ⟨_, o', q1, q2⟩ := fl3.2.2.1.mem hm
    rw [at3] at q1
    cases q1
    exact q2 _ fd3
  have nL : a ≠ X.env.locals := fun z => offFr (List.mem_filterMap.mpr ⟨X.env, List.mem_cons_self, by rw [hf, z]⟩)
  have nF : a ∉ X.fs := fun hm => by
    obtain ⟨e, q1, q2⟩ := List.mem_filterMap.mp hm
    exact offFr (List.mem_filterMap.mpr ⟨e, List.mem_cons_of_mem _ q1, q2⟩)
  have newI : ∀ b o, sI.heap.get? b = some o → b ∉ frs X.stack → b ≠ a := fun b o q1 q2 z => by
    have q3 := nb b o q1 q2
    rw [z, fl3.2.1] at q3
    cases q3
  have old : X.s_0.heap.get? a = none := by
    cases q : X.s_0.heap.get? a with
    | none => rfl
    | some o =>
      obtain ⟨o', q'⟩ := J.base.there a o q (by rw [hex]; simp)
      exact absurd rfl (newI a o' q' (by rw [hs]; exact offFr))
  have npn : ∀ p ∈ X.pn ++ pins, p.1 ≠ a := fun p hp => by
    obtain ⟨p1, _, p3, p4, _⟩ := J.pin p hp
    refine newI _ _ p1 ?_
    rw [hs]
    intro hm
    obtain ⟨e, q1, q2⟩ := List.mem_filterMap.mp hm
    rcases List.mem_cons.mp q1 with rfl | q1
    · rw [hf] at q2
      exact p3 (Option.some.inj q2).symm
    · exact p4 (List.mem_filterMap.mpr ⟨e, q1, q2⟩)
  have J3 : Inv X pins σ' H' { s' with heap := h3 } := J.landed nb fl3.1 (up.trans up3) os ag
  have S3 := J3.suite at3 fd3 na nL nF
  refine wpAny_handleBy_cons (codeAny_handlers_test ?_) (by intro q; cases q)
  have LM := exm_one (M := model X.prog X.w) J3.kIn (fun A Q E s k q => wpAny_typeOf_ref (k _ _ at3) (by rw [zc3.1]; exact q)) hb1
  have name : ∀ {Q : Value → Shared → Prop} {E : Value → Shared → Prop}, Q c { s' with heap := h3 } → wpAny (model X.prog X.w) (X.A.mark (some (.ref a))) (eval (.Name x np) X.env) Q E { s' with heap := h3 } := fun {Q E} q => by
    obtain ⟨hg, hdb, hm | ⟨hm, hv, hnn⟩⟩ := hc
    · exact ld_glob (X := X.suite a _) S3 hg hm q hdb
    · exact ld_blt (X := X.suite a _) S3 hg hm hv q hnn hdb
  refine name (LM.here ?_)
  cases b with
  | false =>
    show wpAny _ X.A (handleBy (.ref a) X.env []) _ _ _
    refine wpAny_handleBy_nil ?_
    obtain ⟨_, _, _, oe, vs, T, oT, ts', q1, q2, q3, q4, q5⟩ := id fl3
    unfold PySem.passOn
    refine wpAny_bind (wpAny_field q1 q3 q4 ?_)
    rw [if_neg (show ¬ ((Value.ref T == Value.none) = true) from by simp)]
    have out : wpAny (model X.prog X.w) X.A (setFlight (.ref a) X.env.frame) (fun _ s4 => wpAny (model X.prog X.w) X.A (throw (.ref a) : Sem Flow) (SP X pins D) X.xe s4) X.xe { s' with heap := h3 } := by
      rw [hf]
      exact setFlight_upZ fl3 fun h4 hh4 up4 => wpAny_throw (tk _ _ ⟨a, B, sI, pins, σ', H', cls, d, rfl, J, nb, (up.trans up3).trans up4, .inr (.inr (by rw [hs]; exact hh4)), na, os, ag, no rfl⟩)
    first
      | exact wpAny_bind (wpAny_pure (wpAny_bind out))
      | exact wpAny_bind out
  | true =>
    refine codeAny_handlers_suite_as (lands_againZ fl3 fun h4 fl4 up4 => ?_)
    have J4 : Inv X pins σ' H' { s' with heap := h4 } := J.landed nb fl4.1 ((up.trans up3).trans up4) os ag
    obtain ⟨oe4, vs4, at4, zc4, fd4⟩ := fl4.there
    refine store_ok (X := X.suite a ((a, oe4) :: (X.pn ++ pins))) (v := .ref a) (J4.suite at4 fd4 na nL nF) hN hi (.inl hln) rfl (fun s5 S5 => ?_) (.inr hln)
    refine wpAny_mono ((hsu a oe4 cls d (X.pn ++ pins) zc4 ⟨_, fd4⟩).run [] s5 _ H' _ S5 (yes rfl a na)) (fun f s6 sp => ?_) fun _ _ z => False.elim z
    cases f with
    | next =>
      obtain ⟨σ6, H6, S6, q6⟩ := sp
      have U6 : Inv { X with pn := (a, oe4) :: (X.pn ++ pins) } [] σ6 H6 s6 := ⟨⟨ok.mod, ok.kind, ok.glob, ok.blt, ok.above, ok.inj, ok.has, ok.cab, ok.hd, ok.frames, ok.stk, ok.exf, ok.bs, ok.bsz, ok.noex, ok.exfs, ok.funs, ok.frf⟩, S6.os, S6.bare, S6.base, S6.loc, S6.cell, S6.free, S6.freeC, S6.pin, S6.hok, S6.len⟩
      refine gone_ok (X := { X with pn := (a, oe4) :: (X.pn ++ pins) }) U6 hN hi hln fun s7 J7 => ?_
      obtain ⟨p1, p2, _⟩ := J7.pin (a, oe4) (List.mem_append_left _ List.mem_cons_self)
      have K7 : Inv X pins (σ6.set i none) H6 s7 := ⟨ok, J7.os, J7.bare, J7.base, J7.loc, J7.cell, J7.free, J7.freeC, fun p hp => J7.pin p (List.mem_append_left _ (List.mem_cons_of_mem _ hp)), J7.hok, J7.len⟩
      exact ⟨_, _, track K7 p1 zc4 fd4 p2 old nL npn, q6⟩
    | ret u =>
      obtain ⟨_, _, _, _, _, q6⟩ := sp
      exact q6.elim
    | brk =>
      obtain ⟨_, _, _, q6⟩ := sp
      exact q6.elim
    | cont =>
      obtain ⟨_, _, _, q6⟩ := sp
      exact q6.elim
end
end Z

/-! Z: an error that is kept: its fields, isinstance -/
namespace Z
open PySem PySem.W PySem.Calls PyProof.Rows PySem.HandSPX L2
/-- what isinstance and a field ask of an own error's class -/
structure ErrQ (K : Frag) (D : Addr) : Prop where
  xf : XfC K D
  hc : (clsIn K D).isSome = true
  ha : findIn K (.ref D) "__class__" = some (some (.builtin "object.__class__"))
  hn : specialIn K (.builtin "object.__class__") "__get__" = some (some (.builtin "getset_descriptor.__get__"))
  ht : takesIn K (.builtin "object.__class__") = some true
  hm : mroIn K D (.type "object") = some true
/-- the error at a, of the class C, with these fields -/
def IsE (H : Hp) (a C : Addr) (fs : List (Str × V)) : Prop := ∃ d, H a = some (exv a (.ref C) (some d)) ∧ H d = some (.xd fs)
section
variable {X : Cx} {pins : List (Addr × Obj)} {σ : L2.St} {H : Hp} {s : Shared} {a C : Addr} {fs : List (Str × V)} {e : Expr} {te : TE} {pos : Pos} {n : Str}
theorem isE_inst (I : Inv X pins σ H s) (h : IsE H a C fs) : ∃ (oe od : Obj) (mA : Str → Option Value), InstAt s.heap a oe C (some od) ∧ (∀ f, RelO (fs.lookup f) (mA f)) ∧ ∀ f, lookIn f od = some (mA f) := by
  obtain ⟨d, h1, h2⟩ := h
  obtain ⟨oe, vs, q1, q2, q3⟩ := exv_at I.hok h1
  have hx : ObjOk X.prog X.w H s.heap d (.xd fs) := I.hok d _ h2
  obtain ⟨mA, hns, hr⟩ := hx
  obtain ⟨od, ho, hl⟩ := lookIn_ns hns
  exact ⟨oe, od, mA, ⟨q1, q2.1, by unfold notCls; rw [q3] <;> rfl, by rw [q2.2]; exact ho⟩, hr, hl⟩
/-- e.f of a kept error -/
def tXv (K : Frag) (n : Str) (te : TE) : TE := fun σ H Q => te σ H fun x H1 => ∃ a C fs v, x = .ref a ∧ ErrQ K C ∧ findIn K (.ref C) n = some none ∧ IsE H1 a C fs ∧ fs.lookup n = some v ∧ Q v H1
theorem pe_xv (he : PE X e te) (hb : attributeBase e n X.env (eval e X.env) = eval e X.env := by rfl) : PE X (.Attribute e n pos) (tXv X.K n te) := by
  refine ⟨fun pins s σ H Q I h => attr_of hb (thn (he.run pins s σ H _ I h) fun u s1 hh => ?_)⟩
  obtain ⟨x, H1, I1, rx, a, C, fs, v, ex, T, hno, hE, l, q⟩ := hh
  subst ex
  obtain rfl : u = Value.ref a := rx
  obtain ⟨oe, od, mA, J, hr, hl⟩ := isE_inst I1 hE
  obtain ⟨u, hu, ru⟩ := RelO.some_of (v := v) (o := mA n) (by rw [← l]; exact hr n)
  exact exc_get I1.kIn J T.xf.ga T.xf.gg T.xf.exC (findObj_own T.xf.hdC hno rfl (by rw [hl, hu])) (handed_of ru) ⟨v, H1, I1.tok _, ru, q⟩
/-- isinstance(e, c) of a kept error -/
def rIsV (K : Frag) : List V → Hp → VK → Prop := fun xs H Q => ∃ (a C : Addr) (fs : List (Str × V)) (c : V) (cv : Value) (b : Bool), xs = [.ref a, c] ∧ ErrQ K C ∧ IsE H a C fs ∧ (∀ u, RelV c u → u = cv) ∧ kitOne K (.ref C) cv = some b ∧ Q (.bl b) H
theorem call_isV : CallR X (.builtin "isinstance") (rIsV X.K) := by
  intro pins s σ H xs us Q I r h
  obtain ⟨a, C, fs, c, cv, b, rfl, T, hE, hcv, ek, q⟩ := h
  cases r with
  | cons rx rr =>
    cases rr with
    | cons rt rr =>
      cases rr
      cases rx
      have ec := hcv _ rt
      subst ec
      obtain ⟨oe, od, mA, J, _, _⟩ := isE_inst I hE
      exact kia_one (kitx_exc T.hc T.xf.ga T.xf.gg T.xf.exC T.ha T.hn T.ht T.hm) I.kIn J ek (fun z => nomatch z) fun tk => ⟨.bl b, H, I.kept (t' := tk) fun _ _ z => z, rfl, q⟩
end
end Z

/-! Z: defs called with keywords alone; readings of errors; repr of ints; picks -/
namespace Z
open PySem PySem.Spec PyProof.Rows L2
section
variable {X : Cx} {CX : CXT} {k : Nat} {f : Addr} {fd : FuncData} {ps ks : List Str} {sp : Sp} {E : XK} {x : Str} {p pos : Pos} {kws : List Keyword} {tk : TA} {g : List Value → List Value → List Value} {gV : List V → List V → List V}
/-- f(k = v, ..) -/
def tCallN (n : Nat) (sp : Sp) (gV : List V → List V → List V) (E : XK) (tk : TA) : TE := fun σ H Q => tk σ H fun zs H2 => zs.length = n ∧ sp (gV [] zs) H2 Q E
theorem pe_callN (F : FnOk X.prog X.w X.K X.mg X.base CX k f fd ps sp) (hr : Room k X.A) (hg : Gl X x) (hm : X.mg x = some (.ref f)) (hk : PySem.W.keepIn X.K (.ref f) = true) (hb : KBn X.K fd ps 0 ks g gV) (hx : Passes CX X E) (hkw : PK X kws tk)
    (hall : (backToKw pos (keywordEach kws X.env)).all (·.1.isSome) = true := by rfl) (hks : (backToKw pos (keywordEach kws X.env)).filterMap (·.1) = ks := by rfl)
    (hpl : ((backTo pos (starEach [] X.env)).any (·.1) || (backToKw pos (keywordEach kws X.env)).any (·.1.isNone)) = false := by rfl) (hdb : (x == ("__debug__" : Str)) = false := by decide) :
    PE X (.Call (.Name x p) [] kws pos) (tCallN ks.length sp gV E tk) := by
  refine ⟨fun pins s σ H Q I h => wpAny_Call_Name_kw (ld_glob I hg hm ?_ hdb)⟩
  refine PySem.W.callWith_KW0 (first := []) (h₀ := X.base) I.ok.mod.kin hk hall (thn (hkw.run pos pins s σ H _ I h) fun ws s2 ⟨zs, H2, I2, rz, l2, q2⟩ => ⟨I2.kIn, ?_⟩) hpl
  rw [hks]
  exact run_fnN (us := []) (vs := []) F hr hb hx I2 .nil rz rfl l2 q2
theorem s_callN {σ : L2.St} {H : Hp} {Q : VK} {n : Nat} (h : tk σ H fun zs H2 => zs.length = n ∧ sp (gV [] zs) H2 Q E) : tCallN n sp gV E tk σ H Q := h
end
/-- repr of an int -/
def rReprI : RC := fun xs H Q => ∃ i, xs = [.int i] ∧ i.natAbs.log2 < 1920 ∧ Q (.str (toString i)) H
theorem zc_reprI {X : Cx} : CallR X (.builtin "repr") rReprI := SkE.call_repr_int
section
variable {K : PySem.W.Frag} {σ : L2.St} {H : Hp} {Q : VK} {E : XK} {C : Addr} {ta : TA} {te : TE} {D : Ends}
theorem r_reprI {i : Int} (h : i.natAbs.log2 < 1920) (k : Q (.str (toString i)) H) : rReprI [.int i] H Q := ⟨i, rfl, h, k⟩
theorem log_lt {i : Int} {a : Nat} (h0 : 0 ≤ i) (h : i < 2 ^ a) (ha : 0 < a) (hb : a ≤ 1920) : i.natAbs.log2 < 1920 := by
  have h1 : i.natAbs < 2 ^ a := pow_bound h0 h
  exact Nat.lt_of_lt_of_le (PySem.Flt.log2_lt_of ha h1) hb
theorem s_err {fns : List Str} {W : XK} (k : ta σ H fun vs H1 => vs.length = fns.length ∧ ∀ d, H1 d = none → W (.ref C) (some d) (upd H1 d (.xd (fns.zip vs).reverse))) : tErr C fns ta σ H W := k
theorem s_xv {n : Str} (k : te σ H fun x H1 => ∃ a C fs v, x = .ref a ∧ ErrQ K C ∧ PySem.W.findIn K (.ref C) n = some none ∧ IsE H1 a C fs ∧ fs.lookup n = some v ∧ Q v H1) : tXv K n te σ H Q := k
theorem s_callS {sp : Sp} {E' : L2.St → XK} (k : ta σ H fun vs H1 => sp vs H1 Q (E' σ)) : tCallS sp E' ta σ H Q := k
theorem r_isV {a D : Addr} {fs : List (Str × V)} {b : Bool} (T : ErrQ K C) (h : IsE H a C fs) (e : PySem.W.kitOne K (.ref C) (.ref D) = some b) (k : Q (.bl b) H) : rIsV K [.ref a, .ref D] H Q :=
  ⟨a, C, fs, .ref D, .ref D, b, rfl, T, h, fun u (r : u = Value.ref D) => r, e, k⟩
theorem s_aug {i : Nat} {x : V} {ti : TIp} (h : σ[i]? = some (some x)) (k : te σ H fun y H1 => ti x y H1 fun z H2 => D.nx (σ.set i (some z)) H2) : tAug i te ti D σ H := ⟨x, h, k⟩
theorem r_ip {f : Int → Int → Int} {i j : Int} (k : Q (.int (f i j)) H) : ipI f (.int i) (.int j) H Q := ⟨i, j, rfl, rfl, k⟩
theorem IsE.ex {H' : Hp} {a : Addr} {fs : List (Str × V)} (e : Ex H H') (h : IsE H a C fs) : IsE H' a C fs := by
  obtain ⟨d, h1, h2⟩ := h
  exact ⟨d, e _ _ h1, e _ _ h2⟩
theorem isE_new {a d : Addr} {fs : List (Str × V)} (h : upd H d (.xd fs) a = none) : IsE (upd (upd H d (.xd fs)) a (exv a (.ref C) (some d))) a C fs := by
  have ne : d ≠ a := fun z => by
    rw [← z, upd_same] at h
    cases h
  exact ⟨d, upd_same, by rw [upd_ne ne, upd_same]⟩
theorem ex_new2 {a d : Addr} {o u : HO} (hd : H d = none) (ha : upd H d o a = none) : Ex H (upd (upd H d o) a u) := (Ex.new hd).trans (Ex.new ha)
/-- the error's clause takes it -/
theorem w_kp {c : Value} {i : Nat} {ts : Addr → Value → Option Addr → TS} {Wout : WX} {cls : Value} {d : Option Addr} (e : PySem.W.exmOne K cls c = some true) (k : ∀ a, H a = none → ts a cls d { nx := fun σ' H' => D.nx (σ'.set i none) (upd H' a (exv a cls d)), rt := fun _ _ => False, bk := fun _ _ => False, ct := fun _ _ => False } (σ.set i (some (.ref a))) H) :
    WE (wKp K c i ts Wout D) σ cls d H := ⟨true, e, fun _ => k, fun z => nomatch z⟩
/-- e.f of a kept error -/
theorem v_xv {n : Str} {a : Addr} {fs : List (Str × V)} {v : V} (T : ErrQ K C) (hn : PySem.W.findIn K (.ref C) n = some none) (h : IsE H a C fs) (l : fs.lookup n = some v) (k : Q v H) : ∃ a' C' fs' v', V.ref a = .ref a' ∧ ErrQ K C' ∧ PySem.W.findIn K (.ref C') n = some none ∧ IsE H a' C' fs' ∧ fs'.lookup n = some v' ∧ Q v' H := ⟨a, C, fs, v, rfl, T, hn, h, l, k⟩
/-- a, b = t -/
theorem g_tup {n : Nat} {t : TGs} {a : Addr} {xs : List V} {N : L2.St → Hp → Prop} (h : SqT K H a xs) (hn : xs.length = n) (k : t xs σ H N) : gTup K n t (.ref a) σ H N := ⟨a, xs, rfl, h, hn, k⟩
theorem g_cons {t : TG} {u : TGs} {v : V} {r : List V} {N : L2.St → Hp → Prop} (k : t v σ H fun σ' H' => u r σ' H' N) : gCons t u (v :: r) σ H N := ⟨v, r, rfl, k⟩
theorem g_nil {N : L2.St → Hp → Prop} (k : N σ H) : gNil [] σ H N := ⟨rfl, k⟩
/-- a pick out of a list of ints -/
def spPick (K : PySem.W.Frag) : Sp := fun vs H Q _ => ∃ (p l : Addr) (xs : List Int) (n : Nat), vs = [.ref p, .ref l] ∧ H l = some (.lst (xs.map V.int)) ∧ 0 < xs.length ∧ xs.length ≤ 1000 ∧ PenAt K H p (n + 1) ∧ ∀ v H', Gr H H' → PenAt K H' p n → v ∈ xs → Q (.int v) H'
theorem use_pick {p l : Addr} {xs : List Int} {n : Nat} (hp : PenAt K H p (n + 1)) (hl : H l = some (.lst (xs.map V.int))) (h0 : 0 < xs.length) (h1 : xs.length ≤ 1000) (k : ∀ v H', Gr H H' → PenAt K H' p n → v ∈ xs → Q (.int v) H') : spPick K [.ref p, .ref l] H Q E := ⟨p, l, xs, n, rfl, hl, h0, h1, hp, k⟩
end
end Z
/-! the mathematics of orders and shared divisors -/
namespace Z
/-- the least k from k on with p = 1 % n, at most f tries -/
def ordF (n : Nat) : Nat → Nat → Nat → Option Nat
  | 0, _, _ => none
  | f + 1, p, k => if p = 1 % n then some k else ordF n f (2 * p % n) (k + 1)
def ord (n : Nat) : Option Nat := ordF n 5040 (2 % n) 1
theorem ordF_some {n : Nat} (hn : 0 < n) : ∀ {f p k r : Nat}, p = 2 ^ k % n → ordF n f p k = some r → k ≤ r ∧ r < k + f ∧ 2 ^ r % n = 1 % n
  | 0, p, k, r, _, h => by cases h
  | f + 1, p, k, r, hp, h => by
    unfold ordF at h
    split at h
    · rename_i e
      cases h
      exact ⟨Nat.le_refl _, by omega, by rw [← hp, e]⟩
    · have hp' : 2 * p % n = 2 ^ (k + 1) % n := by
        rw [hp, Nat.mul_mod_mod, Nat.pow_succ, Nat.mul_comm]
      obtain ⟨h1, h2, h3⟩ := ordF_some hn hp' h
      exact ⟨by omega, by omega, h3⟩
theorem ord_some {n k : Nat} (hn : 0 < n) (h : ord n = some k) : 1 ≤ k ∧ k ≤ 5040 ∧ 2 ^ k % n = 1 % n := by
  obtain ⟨h1, h2, h3⟩ := ordF_some hn (by rw [Nat.pow_one]) h
  exact ⟨h1, by omega, h3⟩
theorem pow_one_mod {n k m : Nat} (h : 2 ^ k % n = 1 % n) : 2 ^ (k * m) % n = 1 % n := by
  induction m with
  | zero => simp
  | succ m ih =>
    rw [Nat.mul_succ, Nat.pow_add, Nat.mul_mod, ih, h, ← Nat.mul_mod, Nat.mul_one]
theorem pow_add_mod {n k m s : Nat} (h : 2 ^ k % n = 1 % n) : 2 ^ (s + k * m) % n = 2 ^ s % n := by
  rw [Nat.pow_add, Nat.mul_mod, pow_one_mod h, ← Nat.mul_mod, Nat.mul_one]
/-- what shared hands back -/
def sh (o w : Nat) : Nat := Nat.gcd o ((2 ^ w - 1) % o)
theorem two_pow_pos (w : Nat) : 1 ≤ 2 ^ w := Nat.one_le_two_pow
theorem sub_one_mod {o a b : Nat} (ha : 1 ≤ a) (hb : 1 ≤ b) (h : a % o = b % o) : (a - 1) % o = (b - 1) % o := by
  have e : ((a : Int) - 1) % o = ((b : Int) - 1) % o := by
    have h' : (a : Int) % o = (b : Int) % o := by exact_mod_cast h
    rw [Int.sub_emod, h', ← Int.sub_emod]
  have ea : ((a - 1 : Nat) : Int) = (a : Int) - 1 := by omega
  have eb : ((b - 1 : Nat) : Int) = (b : Int) - 1 := by omega
  have : (((a - 1) % o : Nat) : Int) = (((b - 1) % o : Nat) : Int) := by
    rw [Int.natCast_emod, Int.natCast_emod, ea, eb, e]
  exact_mod_cast this
theorem sh_far {o k m s : Nat} (h : 2 ^ k % o = 1 % o) : sh o (s + k * m) = sh o s := by
  unfold sh
  rw [sub_one_mod (two_pow_pos _) (two_pow_pos _) (pow_add_mod h)]
theorem sh_all {o k m : Nat} (h : 2 ^ k % o = 1 % o) : sh o (k * m) = o := by
  unfold sh
  rw [sub_one_mod (b := 1) (two_pow_pos _) (Nat.le_refl _) (pow_one_mod h)]
  simp
theorem gcd_odd {a M : Nat} (hM : M % 2 = 1) : Nat.gcd (a * 2) M = Nat.gcd a M := by
  have hc : Nat.Coprime 2 M := by
    unfold Nat.Coprime
    rw [Nat.gcd_rec, hM]
    rfl
  rw [Nat.mul_comm]
  exact Nat.Coprime.gcd_mul_left_cancel a hc
theorem gcd_odds {a M : Nat} (hM : M % 2 = 1) (s : Nat) : Nat.gcd (a * 2 ^ s) M = Nat.gcd a M := by
  induction s with
  | zero => simp
  | succ s ih => rw [Nat.pow_succ, ← Nat.mul_assoc, gcd_odd hM, ih]
theorem sh_gcd {o s w : Nat} (hw : 1 ≤ w) : Nat.gcd (o * 2 ^ s) (2 ^ w - 1) = sh o w := by
  have hM : (2 ^ w - 1) % 2 = 1 := by
    obtain ⟨v, rfl⟩ : ∃ v, w = v + 1 := ⟨w - 1, by omega⟩
    have := two_pow_pos v
    rw [Nat.pow_succ]
    omega
  rw [gcd_odds hM]
  unfold sh
  rw [Nat.gcd_rec o, Nat.gcd_comm]
theorem gcd_step (a b : Nat) : Nat.gcd b (a % b) = Nat.gcd a b := by
  rw [Nat.gcd_comm a b, Nat.gcd_rec b a, Nat.gcd_comm]
theorem ints_mod {p n : Nat} : ((p : Int) - 1) % (n : Int) = 0 ↔ p % n = 1 % n := by
  rw [← Int.emod_eq_emod_iff_emod_sub_eq_zero]
  constructor
  · intro h
    exact_mod_cast h
  · intro h
    exact_mod_cast h
theorem sq_start {o w : Nat} : (1 % o * (2 % o) ^ w) % o = 2 ^ w % o := by
  rw [Nat.mul_mod, Nat.mod_mod, ← Nat.pow_mod, ← Nat.mul_mod, Nat.one_mul]
theorem sq_zero {o p b l : Nat} (h : l % 2 = 0) : (p * (b * b % o) ^ (l / 2)) % o = (p * b ^ l) % o := by
  have e : b ^ l = (b * b) ^ (l / 2) := by
    rw [← Nat.pow_two, ← Nat.pow_mul]
    congr 1
    omega
  rw [e, Nat.mul_mod, ← Nat.pow_mod, ← Nat.mul_mod]
theorem sq_one {o p b l : Nat} (h : l % 2 = 1) : (p * b % o * (b * b % o) ^ (l / 2)) % o = (p * b ^ l) % o := by
  have e : b ^ l = b * (b * b) ^ (l / 2) := by
    rw [← Nat.pow_two, ← Nat.pow_mul, Nat.mul_comm b, ← Nat.pow_succ]
    congr 1
    omega
  rw [e, ← Nat.mul_assoc, Nat.mul_mod, Nat.mod_mod, ← Nat.pow_mod, ← Nat.mul_mod]
theorem sq_end {o p w : Nat} (h : p % o = 2 ^ w % o) : ((p : Int) - 1) % (o : Int) = (((2 ^ w - 1) % o : Nat) : Int) := by
  have e : ((2 ^ w - 1 : Nat) : Int) = ((2 ^ w : Nat) : Int) - 1 := by
    have := two_pow_pos w
    omega
  have h' : (p : Int) % o = ((2 ^ w : Nat) : Int) % o := by exact_mod_cast h
  rw [Int.natCast_emod, e, Int.sub_emod, h', ← Int.sub_emod]
/-- all the orders that are drawn -/
theorem ord_small : ((List.range 1500).all fun i => (ord (2 * i + 1)).isSome) = true := by decide +kernel
theorem ord_three : ((List.range 9).all fun i => ord (3 ^ i) == some (if i = 0 then 1 else 2 * (3 ^ i / 3))) = true := by decide +kernel
theorem ord_long : ((List.range 99).all fun i => ord (2 ^ (i + 1) - 1) == some (i + 1)) = true := by decide +kernel
theorem ord_5040 : ord 73862057 = some 5040 := by decide +kernel
theorem ord_none : ([167555, 32805, 837775, 19683, 59049, 98415, 137781].all fun n => ord n == none) = true := by decide +kernel
end Z
/-! ### short tactics -/
local macro_rules | `(tactic| walk_at "z_sd") => `(tactic| first | assumption | omega | decide | rfl | (dsimp only; omega) | exact ⟨by omega, by omega⟩ | exact ⟨by omega, by omega, by omega⟩ | exact Or.inl ⟨by omega, by omega⟩ | exact Or.inr ⟨by omega, by omega⟩ | exact ⟨by omega, by decide⟩ | exact ⟨by omega, by assumption⟩)
local macro_rules | `(tactic| walk_at "z_pn") => `(tactic| first | rfl | exact Z.pen_ints _ | exact Z.pen_refs _ | assumption)
local macro_rules | `(tactic| walk_at "z_hp") => `(tactic| first
  | assumption
  | (refine Z.Ex.get (by assumption) ?_; walk_at "z_hp")
  | (refine Z.Gr.get (by assumption) ?za ?zb; (case za => walk_at "z_hp"); (case zb => walk_at "z_pn"))
  | (refine Z.But.get (by assumption) ?za ?zb; (case za => walk_at "z_hp"); (case zb => walk_at "z_ne"))
  | (refine Z.Ex.sql (by assumption) ?_; walk_at "z_hp")
  | (refine Z.Ex.sqt (by assumption) ?_; walk_at "z_hp")
  | (refine Z.Gr.sql (by assumption) ?za ?zb; (case za => walk_at "z_hp"); (case zb => walk_at "z_pn"))
  | (refine Z.Gr.sqt (by assumption) ?_; walk_at "z_hp")
  | (refine Z.But.sql (by assumption) ?za ?zb; (case za => walk_at "z_hp"); (case zb => walk_at "z_ne"))
  | (refine Z.sql_of ?_; walk_at "z_hp")
  | (refine Z.sqt_of ?_; walk_at "z_hp"))
local macro_rules | `(tactic| walk_at "z_ne") => `(tactic| first | assumption | (apply Ne.symm; assumption))
local macro_rules | `(tactic| walk_at "z_1") => `(tactic| first
  | with_reducible refine Z.s_seq ?_
  | ((with_reducible refine Z.s_var (v := ?zv) ?zh ?_); (case zh => rfl))
  | with_reducible refine Z.s_c ?_
  | with_reducible refine Z.s_op ?_
  | with_reducible refine Z.s_un ?_
  | with_reducible refine Z.s_test ?_
  | with_reducible refine Z.s_tb ?_
  | with_reducible refine Z.s_not ?_
  | with_reducible refine Z.s_and ?_
  | with_reducible refine Z.s_or ?_
  | with_reducible refine Z.s_andV ?_
  | with_reducible refine Z.s_orV ?_
  | with_reducible refine Z.s_notV ?_
  | with_reducible refine Z.s_ifE ?_
  | with_reducible refine Z.s_chain ?_
  | with_reducible refine Z.s_next ?_
  | with_reducible refine Z.s_drop ?_
  | with_reducible refine Z.s_ret ?_
  | with_reducible refine Z.s_retN ?_
  | with_reducible refine Z.s_if ?_
  | with_reducible refine Z.s_asg ?_
  | ((with_reducible refine Z.s_name ?_); dsimp only [List.set])
  | with_reducible refine Z.s_sub ?_
  | with_reducible refine Z.s_par ?_
  | with_reducible refine Z.s_par3 ?_
  | with_reducible refine Z.s_methN ?_
  | with_reducible refine Z.s_forS ?_
  | with_reducible refine Z.s_forLe ?_
  | with_reducible refine Z.s_nil ?_
  | with_reducible refine Z.s_cons ?_
  | with_reducible refine Z.s_cb ?_
  | with_reducible refine Z.s_call ?_
  | with_reducible refine Z.s_make ?_
  | with_reducible refine Z.s_meth ?_
  | with_reducible refine Z.s_sm ?_
  | with_reducible refine Z.s_prop ?_
  | with_reducible refine Z.s_lst0 ?_
  | ((with_reducible refine Z.v_fldw (w := ?zw) (v := ?zv) (by assumption) (by assumption) ?zh ?_); (case zh => walk_at "z_w"))
  | ((with_reducible refine Z.v_fldv (w := ?zw) (v := ?zv) (by assumption) (by assumption) ?zh ?_); (case zh => walk_at "z_w"))
  | with_reducible refine And.intro rfl ?_
  | ((with_reducible refine Z.use_btw ?zh ?_); (case zh => exact ⟨by omega, by omega⟩))
  | ((with_reducible refine Z.use_top ?zh ?_); (case zh => exact ⟨by omega, by omega⟩))
  | with_reducible refine Z.s_cval ?_
  | (with_reducible refine Exists.intro _ (Exists.intro _ (Exists.intro _ (Exists.intro _ (And.intro rfl (And.intro (by assumption) (And.intro (by assumption) ?_)))))))
  | with_reducible refine Z.s_sfld ?_
  | ((with_reducible refine Z.r_sum (ns := ?zx) ?zh ?_); (case zh => walk_at "z_hp"))
  | ((with_reducible refine Z.use_wo (w := ?zw) (v := ?zv) (n := ?zn) ?zh ?zo (fun x_ H_ he_ hw_ => ?_)); (case zh => walk_at "z_w"); (case zo => walk_at "z_o"))
  | ((with_reducible refine Z.use_wt (w := ?zw) (v := ?zv) ?zh ?z1 ?z2 (fun x_ H_ he_ hw_ => ?_)); (case zh => walk_at "z_w"); (case z1 => omega); (case z2 => omega))
  | ((with_reducible refine Z.use_ww (w := ?zw) (v := ?zv) ?zh (fun x_ H_ he_ hw_ => ?_)); (case zh => walk_at "z_w"))
  | ((with_reducible refine Z.use_w1 ?z1 ?z2 (fun x_ H_ he_ hw_ => ?_)); (case z1 => omega); (case z2 => omega))
  | ((with_reducible refine Z.use_wp (w := ?zw) (v := ?zv) ?zh ?_); (case zh => walk_at "z_w"))
  | ((with_reducible refine Z.use_eqw (w := ?zw) (v := ?zv) (w' := ?zw') (v' := ?zv') ?zh ?zi ?_); (case zh => walk_at "z_w"); (case zi => walk_at "z_w"))
  | ((with_reducible refine Z.use_like (w := ?zw) (v := ?zv) (n := ?zn) ?zh ?zo ?_); (case zh => walk_at "z_w"); (case zo => walk_at "z_o"))
  | ((with_reducible refine Z.v_ins (w := ?zw) (v := ?zv) ?zh ?_); (case zh => walk_at "z_w"))
  | ((with_reducible refine Z.v_insP (w := ?zw) (v := ?zv) ?zh ?_); (case zh => walk_at "z_w"))
  | with_reducible refine Z.s_bm ?_
  | with_reducible refine Z.s_bm0 ?_
  | ((with_reducible refine Z.v_tyL (xs := ?zx) ?zh ?_); (case zh => walk_at "z_hp"))
  | ((with_reducible refine Z.r_neNil (xs := ?zx) ?zh ?zi ?_); (case zh => walk_at "z_hp"); (case zi => walk_at "z_hp"))
  | ((with_reducible refine Z.r_ooW (w := ?zw) (v := ?zv) (w' := ?zw') (v' := ?zv') ?zh ?zi ?_); (case zh => walk_at "z_w"); (case zi => walk_at "z_w"))
  | ((with_reducible refine Z.r_oiW (w := ?zw) (v := ?zv) ?zh ?_); (case zh => walk_at "z_w"))
  | ((with_reducible refine Z.r_ioW (w := ?zw) (v := ?zv) ?zh ?_); (case zh => walk_at "z_w"))
  | ((with_reducible refine Z.r_o1W (w := ?zw) (v := ?zv) ?zh ?_); (case zh => walk_at "z_w"))
  | with_reducible refine Z.s_tup0 ?_
  | with_reducible refine Z.s_fld ?_
  | with_reducible refine Z.s_slc ?_
  | with_reducible refine Z.s_noPart ?_
  | with_reducible refine Z.s_part ?_
  | with_reducible refine Z.r_i0 ?_
  | ((with_reducible refine Z.r_i ?zh ?_); (case zh => walk_at "z_sd"))
  | with_reducible refine Z.r_u ?_
  | with_reducible refine Z.r_eqI ?_
  | with_reducible refine Z.r_neI ?_
  | with_reducible refine Z.r_eqB ?_
  | with_reducible refine Z.r_neB ?_
  | ((with_reducible refine Z.r_neL0 (as := ?za) ?zh ?zi ?_); (case zh => walk_at "z_hp"); (case zi => walk_at "z_hp"))
  | ((with_reducible refine Z.r_eqL0 (as := ?za) ?zh ?zi ?_); (case zh => walk_at "z_hp"); (case zi => walk_at "z_hp"))
  | ((with_reducible refine Z.r_neL (as := ?za) (bs := ?zb) ?zh ?zi ?_); (case zh => walk_at "z_hp"); (case zi => walk_at "z_hp"))
  | ((with_reducible refine Z.r_eqL (as := ?za) (bs := ?zb) ?zh ?zi ?_); (case zh => walk_at "z_hp"); (case zi => walk_at "z_hp"))
  | with_reducible refine Z.r_intI ?_
  | with_reducible refine Z.r_intB ?_
  | with_reducible refine Z.r_boolI ?_
  | with_reducible refine Z.r_boolB ?_
  | with_reducible refine Z.r_abs ?_
  | ((with_reducible refine Z.r_lenL (ys := ?zx) ?zh ?_); (case zh => walk_at "z_hp"))
  | ((with_reducible refine Z.r_lenT (ys := ?zx) ?zh ?_); (case zh => walk_at "z_hp"))
  | ((with_reducible refine Z.r_ixL (xs := ?zx) (v := ?zv) ?zh ?zi ?_); (case zh => walk_at "z_hp"); (case zi => first | rfl | walk_at "z_ix"))
  | ((with_reducible refine Z.r_ixT (xs := ?zx) (v := ?zv) ?zh ?zi ?_); (case zh => walk_at "z_hp"); (case zi => first | rfl | walk_at "z_ix"))
  | with_reducible refine Exists.intro _ (And.intro rfl ?_)
  | ((with_reducible refine Exists.intro _ (Exists.intro _ (And.intro rfl ?_))); dsimp only [List.set])
  | ((with_reducible refine Exists.intro _ (Exists.intro _ (Exists.intro _ (And.intro rfl ?_)))); dsimp only [List.set])
  | ((with_reducible refine Z.r_absO (w := ?zw) (v := ?zv) ?zh ?_); (case zh => walk_at "z_w"))
  | ((with_reducible refine Z.use_is (w := ?zw) (v := ?zv) ?zh ?_); (case zh => walk_at "z_w"))
  | ((with_reducible refine Z.f_T ?zh ?_); (case zh => (first | assumption | omega | decide | exact ⟨rfl, by assumption⟩ | exact ⟨rfl, rfl⟩)))
  | ((with_reducible refine Z.f_F ?zh ?_); (case zh => (first | assumption | omega | decide | exact ⟨rfl, by assumption⟩ | exact ⟨rfl, rfl⟩)))
  | with_reducible refine Z.f_not ?_
  | with_reducible refine L2.iteT ?_
  | with_reducible refine L2.iteF ?_
  | ((with_reducible refine Z.r_listL (ys := ?zx) ?zh (fun l_ H_ hf_ he_ ho_ => ?_)); (case zh => walk_at "z_hp"))
  | ((with_reducible refine Z.r_slL (ys := ?zx) ?zh (fun l_ H_ hf_ he_ ho_ => ?_)); (case zh => walk_at "z_hp"))
  | ((with_reducible refine Z.s_newN ?zh (fun l_ H_ hf_ he_ ho_ => ?_)); (case zh => (first | decide | simp)))
  | ((with_reducible refine Z.r_setL (xs := ?zx) (j := ?zj) ?zh ?zi (fun H_ he_ ho_ => ?_)); (case zh => walk_at "z_hp"); (case zi => first | rfl | walk_at "z_ix")))
local macro_rules | `(tactic| walk_at "z_go") => `(tactic| repeat (first | walk_at "z_1" | fail))
local macro_rules | `(tactic| walk_at "z_gs") => `(tactic| repeat ((fail_if_success (with_reducible refine Z.s_seq ?_)); walk_at "z_1"))
local macro_rules | `(tactic| walk_at "z_in") => `(tactic| dsimp only [L2.start, L2.cxOf, List.map, List.length, List.replicate, List.cons_append, List.nil_append, Nat.sub_self, Nat.reduceSub, Nat.reduceAdd])
local macro_rules | `(tactic| walk_at "z_ex") => `(tactic| first
  | assumption
  | exact Z.Ex.refl _
  | (refine Z.Ex.trans ?_ (by assumption); walk_at "z_ex"))
local macro_rules | `(tactic| walk_at "z_gr") => `(tactic| first
  | assumption
  | exact Z.Gr.refl _
  | (refine Z.Gr.trans ?_ (by first | assumption | exact Z.Ex.gr (by assumption)); walk_at "z_gr"))
local macro_rules | `(tactic| walk_at "z_pe") => `(tactic| first
  | assumption
  | (refine Z.PenAt.ex (by assumption) ?_; walk_at "z_pe"))
local macro_rules | `(tactic| walk_at "z_w") => `(tactic| first
  | assumption
  | (refine Z.IsW.ex (by assumption) ?_; walk_at "z_w")
  | (refine Z.IsW.gr (by assumption) ?_; walk_at "z_w"))
local macro_rules | `(tactic| walk_at "z_o") => `(tactic| first
  | (refine Or.inl (Exists.intro _ (And.intro rfl ?_)); walk_at "z_w")
  | (refine Or.inr (And.intro rfl ?_); assumption))
namespace L
open PySem PySem.Spec PyProof.Rows L2 Z
def top (i : Nat) : Stmt := PySem.Challenge.pw_twozeros_k37_orders_and_shared.main.body.getD i (.Pass ⟨0, 0, 0, 0⟩)
abbrev s_gcd : Stmt := top 4
abbrev s_odd_part : Stmt := top 7
abbrev s_order_of : Stmt := top 8
abbrev s_shared : Stmt := top 9
abbrev s__law_pen : Stmt := top 11
abbrev s__law_draw : Stmt := top 12
abbrev s__law_pick : Stmt := top 13
abbrev s__law_gcd : Stmt := top 14
abbrev s__law_order : Stmt := top 15
abbrev s__law_is_refused : Stmt := top 16
abbrev s_law : Stmt := top 17
theorem sc_gcd : FnScope ["one", "other"] ["one", "other"] (defScope s_gcd) := ⟨rfl, rfl, rfl, by decide +kernel, rfl, by decide +kernel, by decide +kernel⟩
theorem sc_odd_part : FnScope ["number"] ["number"] (defScope s_odd_part) := ⟨rfl, rfl, rfl, by decide +kernel, rfl, by decide +kernel, by decide +kernel⟩
theorem sc_order_of : FnScope ["number", "power", "order"] ["number"] (defScope s_order_of) := ⟨rfl, rfl, rfl, by decide +kernel, rfl, by decide +kernel, by decide +kernel⟩
theorem sc_shared : FnScope ["number", "width", "odd", "power", "base", "left"] ["number", "width"] (defScope s_shared) := ⟨rfl, rfl, rfl, by decide +kernel, rfl, by decide +kernel, by decide +kernel⟩
theorem sc__law_pen : FnScope ["_law_script"] ["_law_script"] (defScope s__law_pen) := ⟨rfl, rfl, rfl, by decide +kernel, rfl, by decide +kernel, by decide +kernel⟩
theorem sc__law_draw : FnScope ["_law_pen_here", "_law_many", "_law_digit", "_law_at", "_law_cell", "_law_great", "_law_mixed"] ["_law_pen_here", "_law_many"] (defScope s__law_draw) := ⟨rfl, rfl, rfl, by decide +kernel, rfl, by decide +kernel, by decide +kernel⟩
theorem sc__law_pick : FnScope ["_law_pen_here", "_law_some"] ["_law_pen_here", "_law_some"] (defScope s__law_pick) := ⟨rfl, rfl, rfl, by decide +kernel, rfl, by decide +kernel, by decide +kernel⟩
theorem sc__law_gcd : FnScope ["_law_one", "_law_other"] ["_law_one", "_law_other"] (defScope s__law_gcd) := ⟨rfl, rfl, rfl, by decide +kernel, rfl, by decide +kernel, by decide +kernel⟩
theorem sc__law_order : FnScope ["_law_odd", "_law_k", "_law_power"] ["_law_odd"] (defScope s__law_order) := ⟨rfl, rfl, rfl, by decide +kernel, rfl, by decide +kernel, by decide +kernel⟩
theorem sc__law_is_refused : FnScope ["_law_odd", "_law_caught", "error"] ["_law_odd"] (defScope s__law_is_refused) := ⟨rfl, rfl, rfl, by decide +kernel, rfl, by decide +kernel, by decide +kernel⟩
theorem sc_law : FnScope ["_law_script", "_law_pen_here", "_law_turn", "_law_odd", "_law_k", "_law_whole", "_law_span", "_law_due", "_law_far", "_law_power", "_law_three", "_law_long"] ["_law_script"] (defScope s_law) := ⟨rfl, rfl, rfl, by decide +kernel, rfl, by decide +kernel, by decide +kernel⟩
abbrev s_TooLarge_DinitD : Stmt := inClass (top 2) 0
structure Txt (K : PySem.W.Frag) (mg : Str → Option Value) : Prop where
  F_TooLarge_DinitD : fnAtE K (He.ma K (He.ga K "TooLarge") "__init__") = some (("__init__" : Str), ("TooLarge.__init__" : Str), defArgs s_TooLarge_DinitD, FuncBody.stmts (defBody s_TooLarge_DinitD), defScope s_TooLarge_DinitD, mainGlobals, ([] : List (Str × Addr)), builtinsNs)
  F_gcd : ∃ d, FunD K "gcd" "gcd" (defArgs s_gcd) (defBody s_gcd) (defScope s_gcd) [] [] (He.ga K "gcd") d
  F_odd_part : ∃ d, FunD K "odd_part" "odd_part" (defArgs s_odd_part) (defBody s_odd_part) (defScope s_odd_part) [] [] (He.ga K "odd_part") d
  F_order_of : ∃ d, FunD K "order_of" "order_of" (defArgs s_order_of) (defBody s_order_of) (defScope s_order_of) [] [] (He.ga K "order_of") d
  F_shared : ∃ d, FunD K "shared" "shared" (defArgs s_shared) (defBody s_shared) (defScope s_shared) [] [] (He.ga K "shared") d
  F__law_pen : ∃ d, FunD K "_law_pen" "_law_pen" (defArgs s__law_pen) (defBody s__law_pen) (defScope s__law_pen) [] [] (He.ga K "_law_pen") d
  F__law_draw : ∃ d, FunD K "_law_draw" "_law_draw" (defArgs s__law_draw) (defBody s__law_draw) (defScope s__law_draw) [] [] (He.ga K "_law_draw") d
  F__law_pick : ∃ d, FunD K "_law_pick" "_law_pick" (defArgs s__law_pick) (defBody s__law_pick) (defScope s__law_pick) [] [] (He.ga K "_law_pick") d
  F__law_gcd : ∃ d, FunD K "_law_gcd" "_law_gcd" (defArgs s__law_gcd) (defBody s__law_gcd) (defScope s__law_gcd) [] [] (He.ga K "_law_gcd") d
  F__law_order : ∃ d, FunD K "_law_order" "_law_order" (defArgs s__law_order) (defBody s__law_order) (defScope s__law_order) [] [] (He.ga K "_law_order") d
  F__law_is_refused : ∃ d, FunD K "_law_is_refused" "_law_is_refused" (defArgs s__law_is_refused) (defBody s__law_is_refused) (defScope s__law_is_refused) [] [] (He.ga K "_law_is_refused") d
  F_law : ∃ d, FunD K "law" "law" (defArgs s_law) (defBody s_law) (defScope s_law) [] [] (He.ga K "law") d
  g_gcd : mg "gcd" = some (.ref (He.ga K "gcd"))
  g_odd_part : mg "odd_part" = some (.ref (He.ga K "odd_part"))
  g_order_of : mg "order_of" = some (.ref (He.ga K "order_of"))
  g_shared : mg "shared" = some (.ref (He.ga K "shared"))
  g__law_pen : mg "_law_pen" = some (.ref (He.ga K "_law_pen"))
  g__law_draw : mg "_law_draw" = some (.ref (He.ga K "_law_draw"))
  g__law_pick : mg "_law_pick" = some (.ref (He.ga K "_law_pick"))
  g__law_gcd : mg "_law_gcd" = some (.ref (He.ga K "_law_gcd"))
  g__law_order : mg "_law_order" = some (.ref (He.ga K "_law_order"))
  g__law_is_refused : mg "_law_is_refused" = some (.ref (He.ga K "_law_is_refused"))
  g_law : mg "law" = some (.ref (He.ga K "law"))
  n_len : mg "len" = none
  n_int : mg "int" = none
  n_abs : mg "abs" = none
  n_list : mg "list" = none
  n_range : mg "range" = none
  n_isinstance : mg "isinstance" = none
  n_repr : mg "repr" = none
  g_TooLarge : mg "TooLarge" = some (.ref (He.ga K "TooLarge"))
  g_ZerosError : mg "ZerosError" = some (.ref (He.ga K "ZerosError"))
  n_super : PySem.W.nsIn K mainGlobals "super" = some none
  n_third : PySem.W.nsIn K cStatics "thirdparty.any" = some none
  o_cget : PySem.W.specialIn K (.builtin "object.__class__") "__get__" = some (some (.builtin "getset_descriptor.__get__"))
  o_ctake : PySem.W.takesIn K (.builtin "object.__class__") = some true
  eo_TooLarge : oexB K (He.ga K "TooLarge") = true
  es_TooLarge : PySem.W.findIn K (.ref (He.ga K "TooLarge")) "__setattr__" = some (some (.builtin "object.__setattr__"))
  ee_TooLarge : PySem.W.subIn K (.ref (He.ga K "TooLarge")) (.type "BaseException") = some true
  et_TooLarge : PySem.W.typeIn K (.ref (He.ga K "TooLarge")) = some (.type "type")
  ek_TooLarge : PySem.W.keepIn K (.ref (He.ga K "TooLarge")) = true
  ei_TooLarge : PySem.W.findIn K (.ref (He.ga K "TooLarge")) "__init__" = some (some (.ref (He.ma K (He.ga K "TooLarge") "__init__")))
  ej_TooLarge : PySem.W.typeIn K (.ref (He.ma K (He.ga K "TooLarge") "__init__")) = some (.type "function")
  eb_TooLarge : initB PySem.Challenge.pw_twozeros_k37_orders_and_shared K (He.ga K "TooLarge") (He.ma K (He.ga K "TooLarge") "__init__") "TooLarge.__init__" = true
  eu_TooLarge : PySem.W.ks_superIn K (He.ga K "TooLarge") (He.ga K "TooLarge") "__init__" = some (some (.builtin "ValueError.__init__"))
  ev_TooLarge : PySem.W.subIn K (.ref (He.ga K "TooLarge")) (.type "ValueError") = some true
  em_TooLarge : PySem.W.mroIn K (He.ga K "TooLarge") (.ref (He.ga K "TooLarge")) = some true
  ex_TooLarge : xfB K (He.ga K "TooLarge") = true
  ec_TooLarge : (PySem.W.clsIn K (He.ga K "TooLarge")).isSome = true
  ea_TooLarge : PySem.W.findIn K (.ref (He.ga K "TooLarge")) "__class__" = some (some (.builtin "object.__class__"))
  eq_TooLarge : PySem.W.mroIn K (He.ga K "TooLarge") (.type "object") = some true
  en_TooLarge_what : PySem.W.findIn K (.ref (He.ga K "TooLarge")) "what" = some none
  en_TooLarge_most : PySem.W.findIn K (.ref (He.ga K "TooLarge")) "most" = some none
  xm_TooLarge_ZerosError : PySem.W.exmOne K (.ref (He.ga K "TooLarge")) (.ref (He.ga K "ZerosError")) = some true
  xk_TooLarge_ZerosError : PySem.W.kitOne K (.ref (He.ga K "TooLarge")) (.ref (He.ga K "ZerosError")) = some true
  xm_TooLarge_TooLarge : PySem.W.exmOne K (.ref (He.ga K "TooLarge")) (.ref (He.ga K "TooLarge")) = some true
  xk_TooLarge_TooLarge : PySem.W.kitOne K (.ref (He.ga K "TooLarge")) (.ref (He.ga K "TooLarge")) = some true
  c_MOST_LENGTH : ∃ t, mg "MOST_LENGTH" = some (.int 5040 t)
def fns : List Fn := [⟨fun K => (He.ma K (He.ga K "TooLarge") "__init__"), "__init__", "TooLarge.__init__", s_TooLarge_DinitD, [], [], true⟩,
  ⟨fun K => (He.ga K "gcd"), "gcd", "gcd", s_gcd, [], [], false⟩,
  ⟨fun K => (He.ga K "odd_part"), "odd_part", "odd_part", s_odd_part, [], [], false⟩,
  ⟨fun K => (He.ga K "order_of"), "order_of", "order_of", s_order_of, [], [], false⟩,
  ⟨fun K => (He.ga K "shared"), "shared", "shared", s_shared, [], [], false⟩,
  ⟨fun K => (He.ga K "_law_pen"), "_law_pen", "_law_pen", s__law_pen, [], [], false⟩,
  ⟨fun K => (He.ga K "_law_draw"), "_law_draw", "_law_draw", s__law_draw, [], [], false⟩,
  ⟨fun K => (He.ga K "_law_pick"), "_law_pick", "_law_pick", s__law_pick, [], [], false⟩,
  ⟨fun K => (He.ga K "_law_gcd"), "_law_gcd", "_law_gcd", s__law_gcd, [], [], false⟩,
  ⟨fun K => (He.ga K "_law_order"), "_law_order", "_law_order", s__law_order, [], [], false⟩,
  ⟨fun K => (He.ga K "_law_is_refused"), "_law_is_refused", "_law_is_refused", s__law_is_refused, [], [], false⟩,
  ⟨fun K => (He.ga K "law"), "law", "law", s_law, [], [], false⟩]
def exs (K : PySem.W.Frag) : List Bool := [decide (PySem.W.nsIn K mainGlobals "gcd" = some (some (.ref (He.ga K "gcd")))),
  decide (PySem.W.nsIn K mainGlobals "odd_part" = some (some (.ref (He.ga K "odd_part")))),
  decide (PySem.W.nsIn K mainGlobals "order_of" = some (some (.ref (He.ga K "order_of")))),
  decide (PySem.W.nsIn K mainGlobals "shared" = some (some (.ref (He.ga K "shared")))),
  decide (PySem.W.nsIn K mainGlobals "_law_pen" = some (some (.ref (He.ga K "_law_pen")))),
  decide (PySem.W.nsIn K mainGlobals "_law_draw" = some (some (.ref (He.ga K "_law_draw")))),
  decide (PySem.W.nsIn K mainGlobals "_law_pick" = some (some (.ref (He.ga K "_law_pick")))),
  decide (PySem.W.nsIn K mainGlobals "_law_gcd" = some (some (.ref (He.ga K "_law_gcd")))),
  decide (PySem.W.nsIn K mainGlobals "_law_order" = some (some (.ref (He.ga K "_law_order")))),
  decide (PySem.W.nsIn K mainGlobals "_law_is_refused" = some (some (.ref (He.ga K "_law_is_refused")))),
  decide (PySem.W.nsIn K mainGlobals "law" = some (some (.ref (He.ga K "law")))),
  decide (PySem.W.nsIn K mainGlobals "len" = some none),
  decide (PySem.W.nsIn K mainGlobals "int" = some none),
  decide (PySem.W.nsIn K mainGlobals "abs" = some none),
  decide (PySem.W.nsIn K mainGlobals "list" = some none),
  decide (PySem.W.nsIn K mainGlobals "range" = some none),
  decide (PySem.W.nsIn K mainGlobals "isinstance" = some none),
  decide (PySem.W.nsIn K mainGlobals "repr" = some none),
  decide (PySem.W.nsIn K mainGlobals "TooLarge" = some (some (.ref (He.ga K "TooLarge")))),
  decide (PySem.W.nsIn K mainGlobals "ZerosError" = some (some (.ref (He.ga K "ZerosError")))),
  decide (PySem.W.nsIn K mainGlobals "super" = some none),
  decide (PySem.W.nsIn K cStatics "thirdparty.any" = some none),
  decide (PySem.W.specialIn K (.builtin "object.__class__") "__get__" = some (some (.builtin "getset_descriptor.__get__"))),
  decide (PySem.W.takesIn K (.builtin "object.__class__") = some true),
  decide (oexB K (He.ga K "TooLarge") = true),
  decide (PySem.W.findIn K (.ref (He.ga K "TooLarge")) "__setattr__" = some (some (.builtin "object.__setattr__"))),
  decide (PySem.W.subIn K (.ref (He.ga K "TooLarge")) (.type "BaseException") = some true),
  decide (PySem.W.typeIn K (.ref (He.ga K "TooLarge")) = some (.type "type")),
  decide (PySem.W.keepIn K (.ref (He.ga K "TooLarge")) = true),
  decide (PySem.W.findIn K (.ref (He.ga K "TooLarge")) "__init__" = some (some (.ref (He.ma K (He.ga K "TooLarge") "__init__")))),
  decide (PySem.W.typeIn K (.ref (He.ma K (He.ga K "TooLarge") "__init__")) = some (.type "function")),
  decide (initB PySem.Challenge.pw_twozeros_k37_orders_and_shared K (He.ga K "TooLarge") (He.ma K (He.ga K "TooLarge") "__init__") "TooLarge.__init__" = true),
  decide (PySem.W.ks_superIn K (He.ga K "TooLarge") (He.ga K "TooLarge") "__init__" = some (some (.builtin "ValueError.__init__"))),
  decide (PySem.W.subIn K (.ref (He.ga K "TooLarge")) (.type "ValueError") = some true),
  decide (PySem.W.mroIn K (He.ga K "TooLarge") (.ref (He.ga K "TooLarge")) = some true),
  decide (xfB K (He.ga K "TooLarge") = true),
  decide ((PySem.W.clsIn K (He.ga K "TooLarge")).isSome = true),
  decide (PySem.W.findIn K (.ref (He.ga K "TooLarge")) "__class__" = some (some (.builtin "object.__class__"))),
  decide (PySem.W.mroIn K (He.ga K "TooLarge") (.type "object") = some true),
  decide (PySem.W.findIn K (.ref (He.ga K "TooLarge")) "what" = some none),
  decide (PySem.W.findIn K (.ref (He.ga K "TooLarge")) "most" = some none),
  decide (PySem.W.exmOne K (.ref (He.ga K "TooLarge")) (.ref (He.ga K "ZerosError")) = some true),
  decide (PySem.W.kitOne K (.ref (He.ga K "TooLarge")) (.ref (He.ga K "ZerosError")) = some true),
  decide (PySem.W.exmOne K (.ref (He.ga K "TooLarge")) (.ref (He.ga K "TooLarge")) = some true),
  decide (PySem.W.kitOne K (.ref (He.ga K "TooLarge")) (.ref (He.ga K "TooLarge")) = some true),
  (He.Fa.int "MOST_LENGTH" 5040).ok K]
theorem txt_mk {K : PySem.W.Frag} {h : Heap} {mg : Str → Option Value} (X : K.In h) (G : h.Ns mainGlobals mg) (c : Says fns exs K) : Txt K mg :=
  ⟨(c.err_ 0), (c.def_ 1), (c.def_ 2), (c.def_ 3), (c.def_ 4), (c.def_ 5), (c.def_ 6), (c.def_ 7), (c.def_ 8), (c.def_ 9), (c.def_ 10), (c.def_ 11), (PySem.W.mg_of X G (c.dec 0)), (PySem.W.mg_of X G (c.dec 1)), (PySem.W.mg_of X G (c.dec 2)), (PySem.W.mg_of X G (c.dec 3)), (PySem.W.mg_of X G (c.dec 4)), (PySem.W.mg_of X G (c.dec 5)), (PySem.W.mg_of X G (c.dec 6)), (PySem.W.mg_of X G (c.dec 7)), (PySem.W.mg_of X G (c.dec 8)), (PySem.W.mg_of X G (c.dec 9)), (PySem.W.mg_of X G (c.dec 10)), (PySem.W.mg_none_of X G (c.dec 11)), (PySem.W.mg_none_of X G (c.dec 12)), (PySem.W.mg_none_of X G (c.dec 13)), (PySem.W.mg_none_of X G (c.dec 14)), (PySem.W.mg_none_of X G (c.dec 15)), (PySem.W.mg_none_of X G (c.dec 16)), (PySem.W.mg_none_of X G (c.dec 17)), (PySem.W.mg_of X G (c.dec 18)), (PySem.W.mg_of X G (c.dec 19)), (c.dec 20), (c.dec 21), (c.dec 22), (c.dec 23), (c.dec 24), (c.dec 25), (c.dec 26), (c.dec 27), (c.dec 28), (c.dec 29), (c.dec 30), (c.dec 31), (c.dec 32), (c.dec 33), (c.dec 34), (c.dec 35), (c.dec 36), (c.dec 37), (c.dec 38), (c.dec 39), (c.dec 40), (c.dec 41), (c.dec 42), (c.dec 43), (c.dec 44), (He.int_ok X G (c.at_ 45))⟩
abbrev P : Program := PySem.Challenge.pw_twozeros_k37_orders_and_shared
abbrev fl_TooLarge : List (Str × Str × Pos × Pos × Pos × Pos) := [("what", "what", ⟨8, 8, 8, 12⟩, ⟨8, 8, 8, 17⟩, ⟨8, 20, 8, 24⟩, ⟨8, 8, 8, 24⟩), ("most", "most", ⟨9, 8, 9, 12⟩, ⟨9, 8, 9, 17⟩, ⟨9, 20, 9, 24⟩, ⟨9, 8, 9, 24⟩)]
theorem errI_TooLarge {K : PySem.W.Frag} {mg : Str → Option Value} (T : Txt K mg) : ErrI PySem.Challenge.pw_twozeros_k37_orders_and_shared K (He.ga K "TooLarge") (He.ma K (He.ga K "TooLarge") "__init__") "__init__" "TooLarge.__init__" (defArgs s_TooLarge_DinitD) (.Expr (.Call (.Attribute (.Call (.Name "super" ⟨7, 8, 7, 13⟩) [] [] ⟨7, 8, 7, 15⟩) "__init__" ⟨7, 8, 7, 24⟩) [.Constant (.str "too large") 0 ⟨7, 25, 7, 36⟩] [] ⟨7, 8, 7, 37⟩) ⟨7, 8, 7, 37⟩ :: fl_TooLarge.map (asg "self")) (defScope s_TooLarge_DinitD) :=
  ⟨init_lk (T.F_TooLarge_DinitD.trans rfl) T.eb_TooLarge, T.n_super, by decide +kernel, T.eu_TooLarge, T.ev_TooLarge, T.em_TooLarge, T.n_third, T.ei_TooLarge, T.ej_TooLarge, oexB_ok T.eo_TooLarge T.es_TooLarge T.ee_TooLarge T.et_TooLarge T.ek_TooLarge⟩
theorem errS_TooLarge : ErrS (defArgs s_TooLarge_DinitD) (defScope s_TooLarge_DinitD) "TooLarge.__init__" "self" fl_TooLarge ⟨7, 8, 7, 13⟩ ⟨7, 8, 7, 15⟩ ⟨7, 8, 7, 24⟩ ⟨7, 25, 7, 36⟩ ⟨7, 8, 7, 37⟩ ⟨7, 8, 7, 37⟩ "too large" 0 := by
  refine ⟨⟨_, rfl, rfl⟩, by decide +kernel, by decide +kernel, by decide +kernel, by decide +kernel, rfl, by decide +kernel, rfl, rfl, by decide +kernel, by decide +kernel, fun _ _ _ _ => rfl, fun _ _ _ _ => rfl, ⟨_, fun _ _ _ _ => rfl⟩, ?_, fun _ _ _ _ _ _ _ _ u us h => match us, h with | [_, _], _ => rfl⟩
  intro z hz L f cd cc
  simp only [fl_TooLarge, List.mem_cons, List.not_mem_nil, or_false] at hz
  rcases hz with rfl | rfl <;> rfl
theorem errN_TooLarge {K : PySem.W.Frag} {mg : Str → Option Value} (T : Txt K mg) : ∀ z ∈ fl_TooLarge, PySem.W.findIn K (.ref (He.ga K "TooLarge")) z.1 = some none := by
  intro z hz
  simp only [fl_TooLarge, List.mem_cons, List.not_mem_nil, or_false] at hz
  rcases hz with rfl | rfl
  · exact T.en_TooLarge_what
  · exact T.en_TooLarge_most
theorem errQ_TooLarge {K : PySem.W.Frag} {mg : Str → Option Value} (T : Txt K mg) : ErrQ K (He.ga K "TooLarge") := ⟨xfB_ok T.ex_TooLarge, T.ec_TooLarge, T.ea_TooLarge, T.o_cget, T.o_ctake, T.eq_TooLarge⟩
theorem b_gcd {K : PySem.W.Frag} {mg : Str → Option Value} (T : Txt K mg) : Binds K T.F_gcd.choose ["one", "other"] [] := T.F_gcd.choose_spec.bindsN fun _ _ _ _ _ _ us hl => match us, hl with | [_, _], _ => rfl
theorem b_odd_part {K : PySem.W.Frag} {mg : Str → Option Value} (T : Txt K mg) : Binds K T.F_odd_part.choose ["number"] [] := T.F_odd_part.choose_spec.bindsN fun _ _ _ _ _ _ us hl => match us, hl with | [_], _ => rfl
theorem b_order_of {K : PySem.W.Frag} {mg : Str → Option Value} (T : Txt K mg) : Binds K T.F_order_of.choose ["number"] [] := T.F_order_of.choose_spec.bindsN fun _ _ _ _ _ _ us hl => match us, hl with | [_], _ => rfl
theorem b_shared {K : PySem.W.Frag} {mg : Str → Option Value} (T : Txt K mg) : Binds K T.F_shared.choose ["number", "width"] [] := T.F_shared.choose_spec.bindsN fun _ _ _ _ _ _ us hl => match us, hl with | [_, _], _ => rfl
theorem b__law_pen {K : PySem.W.Frag} {mg : Str → Option Value} (T : Txt K mg) : Binds K T.F__law_pen.choose ["_law_script"] [] := T.F__law_pen.choose_spec.bindsN fun _ _ _ _ _ _ us hl => match us, hl with | [_], _ => rfl
theorem b__law_draw {K : PySem.W.Frag} {mg : Str → Option Value} (T : Txt K mg) : Binds K T.F__law_draw.choose ["_law_pen_here", "_law_many"] [] := T.F__law_draw.choose_spec.bindsN fun _ _ _ _ _ _ us hl => match us, hl with | [_, _], _ => rfl
theorem b__law_pick {K : PySem.W.Frag} {mg : Str → Option Value} (T : Txt K mg) : Binds K T.F__law_pick.choose ["_law_pen_here", "_law_some"] [] := T.F__law_pick.choose_spec.bindsN fun _ _ _ _ _ _ us hl => match us, hl with | [_, _], _ => rfl
theorem b__law_gcd {K : PySem.W.Frag} {mg : Str → Option Value} (T : Txt K mg) : Binds K T.F__law_gcd.choose ["_law_one", "_law_other"] [] := T.F__law_gcd.choose_spec.bindsN fun _ _ _ _ _ _ us hl => match us, hl with | [_, _], _ => rfl
theorem b__law_order {K : PySem.W.Frag} {mg : Str → Option Value} (T : Txt K mg) : Binds K T.F__law_order.choose ["_law_odd"] [] := T.F__law_order.choose_spec.bindsN fun _ _ _ _ _ _ us hl => match us, hl with | [_], _ => rfl
theorem b__law_is_refused {K : PySem.W.Frag} {mg : Str → Option Value} (T : Txt K mg) : Binds K T.F__law_is_refused.choose ["_law_odd"] [] := T.F__law_is_refused.choose_spec.bindsN fun _ _ _ _ _ _ us hl => match us, hl with | [_], _ => rfl
theorem b_law {K : PySem.W.Frag} {mg : Str → Option Value} (T : Txt K mg) : Binds K T.F_law.choose ["_law_script"] [] := T.F_law.choose_spec.bindsN fun _ _ _ _ _ _ us hl => match us, hl with | [_], _ => rfl
section
variable {w : World} {K : PySem.W.Frag} {mg : Str → Option Value} {base : Heap}
theorem ok__law_pen (T : Txt K mg) : FnOk P w K mg base (L2.CX P w) 1 (He.ga K "_law_pen") T.F__law_pen.choose ["_law_script"] (spPen K) := by
  refine T.F__law_pen.choose_spec.ok sc__law_pen (fun vs H Q E h => ?_) (fun cdv A outer s H vs Q E hr h => ?_)
  · obtain ⟨a, ns, rfl, hS, k⟩ := h
    rfl
  · obtain ⟨a, ns, rfl, hS, k⟩ := h
    refine ⟨_, (pss_one (ps_ret (pe_lst (pa_cons (pe_callTy zc_list (by rfl) T.n_list (by decide +kernel) (pa_cons (pe_slice sl_list (pv 0) po_none (po_some pe_int)) pa_nil)) (pa_cons pe_int (pa_cons pe_int pa_nil)))))), ?_⟩
    walk_at "z_in"
    walk_at "z_go"
    rename_i l1 H1 _ _ _ l2 H2 _ _ h2 l3 H3 _ _ h3
    have e : cutV (ns.map V.int) none (some 63) = (ns.take 63).map V.int := cut_upto (m := 63)
    rw [e] at h2
    exact k _ _ (by walk_at "z_ex") ⟨_, _, _, _, h3, by walk_at "z_hp", by omega, by omega, by simp; omega⟩

theorem ok__law_draw (T : Txt K mg) : FnOk P w K mg base (L2.CX P w) 1 (He.ga K "_law_draw") T.F__law_draw.choose ["_law_pen_here", "_law_many"] (spDraw K) := by
  refine T.F__law_draw.choose_spec.ok sc__law_draw (fun vs H Q E h => ?_) (fun cdv A outer s H vs Q E hr h => ?_)
  · obtain ⟨p, m, n, rfl, ⟨l, cs, i, j, hp, hl, hi, hn, hc⟩, hm, hm2, k⟩ := h
    rfl
  · obtain ⟨p, m, n, rfl, ⟨l, cs, i, j, hp, hl, hi, hn, hc⟩, hm, hm2, k⟩ := h
    refine ⟨_, (pss_cons (ps_if (pt_cmpR op_gt (pe_ix ix_list (pv 0) pe_int (fun _ _ => rfl)) pe_int (nomark _)) (pss_cons (ps_set (i := 2) sc__law_draw.nd rfl (Or.inl rfl) (pe_op op_mod (pe_callTy zc_int (by rfl) T.n_int (by decide +kernel) (pa_cons (pe_ix ix_list (pv 0) pe_int (fun _ _ => rfl)) pa_nil)) (pv 1)))
    (pss_cons (ps_asg (pe_op op_fdivW (pe_callTy zc_int (by rfl) T.n_int (by decide +kernel) (pa_cons (pe_ix ix_list (pv 0) pe_int (fun _ _ => rfl)) pa_nil)) (pv 1)) (pg_sub (pv 0) pe_int set_list))
    (pss_one (ps_ret (pv 2))))) pss_nil)
    (pss_cons (ps_set (i := 3) sc__law_draw.nd rfl (Or.inl rfl) (pe_ix ix_list (pv 0) pe_int (fun _ _ => rfl)))
    (pss_cons (ps_asg (pe_op op_add (pv 3) pe_int) (pg_sub (pv 0) pe_int set_list))
    (pss_cons (ps_set (i := 4) sc__law_draw.nd rfl (Or.inl rfl) (pe_op op_add (pe_op op_mul pe_int (pv 3)) pe_int))
    (pss_cons (ps_if (pt_cmpR (op_neD hr.units) (pe_ix ix_list (pv 0) pe_int (fun _ _ => rfl)) (pe_lst pa_nil) (nomark _)) (pss_one (ps_set (i := 4) sc__law_draw.nd rfl (Or.inl rfl) (pe_ix ix_list (pe_ix ix_list (pv 0) pe_int (fun _ _ => rfl)) (pe_op op_mod (pe_callTy zc_int (by rfl) T.n_int (by decide +kernel) (pa_cons (pv 3) pa_nil)) (pe_callB zc_len (by rfl) T.n_len PySem.boot_len (pa_cons (pe_ix ix_list (pv 0) pe_int (fun _ _ => rfl)) pa_nil))) (fun _ _ => rfl)))) pss_nil)
    (pss_cons (ps_if (PW.pt (pw_and (pt_cmpR op_lt (pv 3) (pe_callB zc_len (by rfl) T.n_len PySem.boot_len (pa_cons (pe_ix ix_list (pv 0) pe_int (fun _ _ => rfl)) pa_nil)) (nomark _)) (pw_and1 (pt_cmpR op_ge (pe_callB zc_abs (by rfl) T.n_abs (by decide +kernel) (pa_cons (pv 4) pa_nil)) (pe_op op_pow pe_int pe_int) (nomark _))))) (pss_cons (ps_set (i := 5) sc__law_draw.nd rfl (Or.inl rfl) (pe_op op_add (pe_op op_mul pe_int (pe_op op_sub (pe_callB zc_abs (by rfl) T.n_abs (by decide +kernel) (pa_cons (pv 4) pa_nil)) (pe_op op_pow pe_int pe_int))) (pe_callTy zc_int (by rfl) T.n_int (by decide +kernel) (pa_cons (pe_cmpR op_lt (pv 4) pe_int (nomark _)) pa_nil))))
    (pss_cons (ps_asg (pe_op op_fdivW (pe_callTy zc_int (by rfl) T.n_int (by decide +kernel) (pa_cons (pv 5) pa_nil)) (pv 1)) (pg_sub (pv 0) pe_int set_list))
    (pss_one (ps_ret (pe_op op_mod (pe_callTy zc_int (by rfl) T.n_int (by decide +kernel) (pa_cons (pv 5) pa_nil)) (pv 1)))))) pss_nil)
    (pss_cons (ps_set (i := 6) sc__law_draw.nd rfl (Or.inl rfl) (pe_op op_mod (pe_callTy zc_int (by rfl) T.n_int (by decide +kernel) (pa_cons (pe_op op_pow (pe_op op_add (pe_op op_add (pe_op op_mod (pe_callTy zc_int (by rfl) T.n_int (by decide +kernel) (pa_cons (pv 4) pa_nil)) pe_int) (pe_op op_mul pe_int (pv 3))) pe_int) pe_int) pa_nil)) pe_int))
    (pss_cons (ps_set (i := 6) sc__law_draw.nd rfl (Or.inl rfl) (pe_op op_mod (pe_callTy zc_int (by rfl) T.n_int (by decide +kernel) (pa_cons (pe_op op_pow (pe_op op_add (pe_op op_add (pe_op op_mul (pv 6) (pe_op op_add (pe_op op_mul pe_int (pv 3)) pe_int)) (pe_op op_mul (pe_op op_mul pe_int (pv 3)) (pv 3))) pe_int) pe_int) pa_nil)) pe_int))
    (pss_one (ps_ret (pe_op op_mod (pe_callTy zc_int (by rfl) T.n_int (by decide +kernel) (pa_cons (pe_op op_fdivW (pv 6) pe_int) pa_nil)) (pv 1)))))))))))), ?_⟩
    walk_at "z_in"
    walk_at "z_go"
    refine f_2 (fun h => ?_) (fun h => ?_)
    · walk_at "z_go"
      rename_i H1 e1 h1
      obtain ⟨g, q⟩ := PenAt.set (n' := n) hp hl hc e1 h1 hi (by omega)
      exact k _ _ g q (Int.emod_nonneg _ (by omega)) (Int.emod_lt_of_pos _ hm)
    · refine s_seq ?_
      walk_at "z_go"
      rename_i H1 e1 h1 l2 H2 f2 e2 h2
      obtain ⟨g, q⟩ := PenAt.set (n' := n) hp hl hc e1 h1 (by omega) (by omega)
      walk_at "z_go"
      have hii1 : 0 ≤ i * i := Int.mul_nonneg hi hi
      have hii2 : i * i ≤ 1000000 * 1000000 := Int.mul_le_mul (by omega) (by omega) hi (by omega)
      refine f_2 (fun hcs => ?_) (fun hcs => ?_)
      · walk_at "z_go"
        generalize 61949 * i + 457 = c
        refine f_2 (fun hlt => ?_) (fun hlt => ?_)
        · walk_at "z_go"
          refine f_2 (fun hg => ?_) (fun hg => ?_)
          · walk_at "z_go"
            rename_i H3 e3 h3
            obtain ⟨g3, q3⟩ := PenAt.set (n' := n) (e2.get h1) (e2.get (g.get hl (pen_ints _))) hc e3 h3 (by omega) (by omega)
            exact k _ _ (Gr.trans (Gr.trans g e2.gr) g3) q3 (Int.emod_nonneg _ (by omega)) (Int.emod_lt_of_pos _ hm)
          · walk_at "z_go"
            generalize (c % 2147483563 + 51061 * i + 67) ^ Int.toNat 3 = x1
            have hx1 : 0 ≤ x1 % 2147483629 := Int.emod_nonneg _ (by decide)
            have hx2 : x1 % 2147483629 < 2147483629 := Int.emod_lt_of_pos _ (by decide)
            generalize x1 % 2147483629 = mx at hx1 hx2
            have h1 : 0 ≤ mx * (2 * i + 43) := Int.mul_nonneg hx1 (by omega)
            have h2 : mx * (2 * i + 43) ≤ 2147483629 * 2001000 := Int.mul_le_mul (by omega) (by omega) (by omega) (by omega)
            have h3 : 62053 * i * i = 62053 * (i * i) := Int.mul_assoc _ _ _
            walk_at "z_go"
            exact k _ _ (Gr.trans g e2.gr) (q.ex e2) (Int.emod_nonneg _ (by omega)) (Int.emod_lt_of_pos _ hm)
        · walk_at "z_go"
          generalize (c % 2147483563 + 51061 * i + 67) ^ Int.toNat 3 = x1
          have hx1 : 0 ≤ x1 % 2147483629 := Int.emod_nonneg _ (by decide)
          have hx2 : x1 % 2147483629 < 2147483629 := Int.emod_lt_of_pos _ (by decide)
          generalize x1 % 2147483629 = mx at hx1 hx2
          have h1 : 0 ≤ mx * (2 * i + 43) := Int.mul_nonneg hx1 (by omega)
          have h2 : mx * (2 * i + 43) ≤ 2147483629 * 2001000 := Int.mul_le_mul (by omega) (by omega) (by omega) (by omega)
          have h3 : 62053 * i * i = 62053 * (i * i) := Int.mul_assoc _ _ _
          walk_at "z_go"
          exact k _ _ (Gr.trans g e2.gr) (q.ex e2) (Int.emod_nonneg _ (by omega)) (Int.emod_lt_of_pos _ hm)
      · have hlen : 0 < (cs.map V.int).length := by
          cases cs with
          | nil => exact absurd rfl hcs
          | cons _ _ => simp
        walk_at "z_go"
        refine r_ixL (by walk_at "z_hp") (atI_ints (Int.emod_nonneg _ (by omega)) (Int.lt_of_lt_of_le (Int.emod_lt_of_pos _ (by omega)) (by simp))) ?_
        generalize cs[(i % ((cs.map V.int).length : Int)).toNat]'_ = c
        walk_at "z_go"
        refine f_2 (fun hlt => ?_) (fun hlt => ?_)
        · walk_at "z_go"
          refine f_2 (fun hg => ?_) (fun hg => ?_)
          · walk_at "z_go"
            rename_i H3 e3 h3
            obtain ⟨g3, q3⟩ := PenAt.set (n' := n) (e2.get h1) (e2.get (g.get hl (pen_ints _))) hc e3 h3 (by omega) (by omega)
            exact k _ _ (Gr.trans (Gr.trans g e2.gr) g3) q3 (Int.emod_nonneg _ (by omega)) (Int.emod_lt_of_pos _ hm)
          · walk_at "z_go"
            generalize (c % 2147483563 + 51061 * i + 67) ^ Int.toNat 3 = x1
            have hx1 : 0 ≤ x1 % 2147483629 := Int.emod_nonneg _ (by decide)
            have hx2 : x1 % 2147483629 < 2147483629 := Int.emod_lt_of_pos _ (by decide)
            generalize x1 % 2147483629 = mx at hx1 hx2
            have h1 : 0 ≤ mx * (2 * i + 43) := Int.mul_nonneg hx1 (by omega)
            have h2 : mx * (2 * i + 43) ≤ 2147483629 * 2001000 := Int.mul_le_mul (by omega) (by omega) (by omega) (by omega)
            have h3 : 62053 * i * i = 62053 * (i * i) := Int.mul_assoc _ _ _
            walk_at "z_go"
            exact k _ _ (Gr.trans g e2.gr) (q.ex e2) (Int.emod_nonneg _ (by omega)) (Int.emod_lt_of_pos _ hm)
        · walk_at "z_go"
          generalize (c % 2147483563 + 51061 * i + 67) ^ Int.toNat 3 = x1
          have hx1 : 0 ≤ x1 % 2147483629 := Int.emod_nonneg _ (by decide)
          have hx2 : x1 % 2147483629 < 2147483629 := Int.emod_lt_of_pos _ (by decide)
          generalize x1 % 2147483629 = mx at hx1 hx2
          have h1 : 0 ≤ mx * (2 * i + 43) := Int.mul_nonneg hx1 (by omega)
          have h2 : mx * (2 * i + 43) ≤ 2147483629 * 2001000 := Int.mul_le_mul (by omega) (by omega) (by omega) (by omega)
          have h3 : 62053 * i * i = 62053 * (i * i) := Int.mul_assoc _ _ _
          walk_at "z_go"
          exact k _ _ (Gr.trans g e2.gr) (q.ex e2) (Int.emod_nonneg _ (by omega)) (Int.emod_lt_of_pos _ hm)


section
variable {K : PySem.W.Frag} {H : Hp} {Q : VK} {E : XK}
def spGcd : Sp := fun vs H Q _ => ∃ a b : Nat, vs = [.int a, .int b] ∧ Q (.int (Nat.gcd a b : Nat)) H
def spOdd : Sp := fun vs H Q _ => ∃ o s : Nat, o % 2 = 1 ∧ vs = [.int (o * 2 ^ s : Nat)] ∧ Q (.int (o : Nat)) H
def tooLong (C : Addr) (H : Hp) (E : XK) : Prop := ∀ d, H d = none → E (.ref C) (some d) (upd H d (.xd [("most", .int 5040), ("what", .str "length")]))
def spOrd (C : Addr) : Sp := fun vs H Q E => ∃ n : Nat, vs = [.int n] ∧ 0 < n ∧ (∀ k : Nat, ord n = some k → Q (.int k) H) ∧ (ord n = none → tooLong C H E)
def spSh : Sp := fun vs H Q _ => ∃ o s w : Nat, o % 2 = 1 ∧ o < 2 ^ 100 ∧ vs = [.int (o * 2 ^ s : Nat), .int w] ∧ Q (.int (sh o w : Nat)) H
def spLOrd : Sp := fun vs H Q _ => ∃ n k : Nat, vs = [.int n] ∧ 0 < n ∧ ord n = some k ∧ ∀ H', Ex H H' → Q (.int k) H'
def spRef : Sp := fun vs H Q _ => ∃ n : Nat, vs = [.int n] ∧ 0 < n ∧ ord n = none ∧ ∀ H', Ex H H' → Q (.bl true) H'
end

local macro_rules | `(tactic| walk_at "z_1") => `(tactic| first
  | with_reducible refine Z.s_callN ?_
  | with_reducible refine Z.s_callS ?_
  | with_reducible refine Z.s_err ?_
  | with_reducible refine Z.s_xv ?_
  | ((with_reducible refine Z.g_tup (xs := ?zx) ?zh ?zn ?_); (case zh => walk_at "z_hp"); (case zn => rfl))
  | with_reducible refine Z.g_cons ?_
  | with_reducible refine Z.g_nil ?_
  | ((with_reducible refine Z.s_aug (x := ?zx) ?zh ?_); (case zh => rfl))
  | ((with_reducible refine Z.r_ip ?_); dsimp only [List.set]))
theorem ok__law_pick (T : Txt K mg) : FnOk P w K mg base (L2.CX P w) 2 (He.ga K "_law_pick") T.F__law_pick.choose ["_law_pen_here", "_law_some"] (spPick K) := by
  refine T.F__law_pick.choose_spec.ok sc__law_pick (fun vs H Q E h => ?_) (fun cdv A outer s H vs Q E hr h => ?_)
  · obtain ⟨p, l, xs, n, rfl, hl, h0, h1, hp, k⟩ := h
    rfl
  · obtain ⟨p, l, xs, n, rfl, hl, h0, h1, hp, k⟩ := h
    refine ⟨_, (pss_one (ps_ret (pe_ix ix_list (pv 1) (pe_call (ok__law_draw T) (hr.mono (by decide)) (by rfl) T.g__law_draw T.F__law_draw.choose_spec.kp (b__law_draw T) .nil pX (pa_cons (pv 0) (pa_cons (pe_callB zc_len (by rfl) T.n_len PySem.boot_len (pa_cons (pv 1) pa_nil)) pa_nil))) (fun _ _ => rfl)))), ?_⟩
    walk_at "z_in"
    walk_at "z_go"
    refine use_draw hp (by simp; omega) (log_small (by simp) (by simp; omega)) fun r H1 g1 p1 r0 r1 => ?_
    refine r_ixL (sql_of (g1.get hl (pen_ints _))) (atI_ints r0 (by simpa using r1)) ?_
    exact k _ H1 g1 p1 (List.getElem_mem _)

theorem ok_gcd (T : Txt K mg) : FnOk P w K mg base (L2.CX P w) 1 (He.ga K "gcd") T.F_gcd.choose ["one", "other"] spGcd := by
  refine T.F_gcd.choose_spec.ok sc_gcd (fun vs H Q E h => ?_) (fun cdv A outer s H vs Q E hr h => ?_)
  · obtain ⟨a, b, rfl, k⟩ := h
    rfl
  · obtain ⟨a, b, rfl, k⟩ := h
    refine ⟨_, (pss_cons (ps_while pO (pt_cmpR op_ne (pv 1) pe_int (nomark _)) (pss_one (ps_par (i := 0) (j := 1) (by rfl) sc_gcd.nd rfl rfl (by decide) rfl rfl (pa_cons (pv 1) (pa_cons (pe_op op_mod (pv 0) (pv 1)) pa_nil)) (by rfl))))
    (pss_one (ps_ret (pv 0)))), ?_⟩
    walk_at "z_in"
    walk_at "z_go"
    refine ⟨fun m σ H' => ∃ a' b' : Nat, σ = [some (V.int a'), some (V.int b')] ∧ H' = H ∧ b' = m ∧ Nat.gcd a' b' = Nat.gcd a b, ⟨b, a, b, rfl, rfl, rfl, rfl⟩, ?_⟩
    rintro m σ H' ⟨a', b', rfl, rfl, rfl, hg⟩
    walk_at "z_go"
    refine f_2 (fun h => ?_) (fun h => ⟨_, fun _ _ h => h, ?_⟩)
    · have h0 : b' = 0 := by omega
      walk_at "z_go"
      rw [h0, Nat.gcd_zero_right] at hg
      rw [hg]
      exact k
    · walk_at "z_go"
      exact ⟨a' % b', Nat.mod_lt _ (by omega), b', a' % b', by rw [Int.natCast_emod], rfl, rfl, by rw [gcd_step, hg]⟩

theorem ok__law_gcd (T : Txt K mg) : FnOk P w K mg base (L2.CX P w) 1 (He.ga K "_law_gcd") T.F__law_gcd.choose ["_law_one", "_law_other"] spGcd := by
  refine T.F__law_gcd.choose_spec.ok sc__law_gcd (fun vs H Q E h => ?_) (fun cdv A outer s H vs Q E hr h => ?_)
  · obtain ⟨a, b, rfl, k⟩ := h
    rfl
  · obtain ⟨a, b, rfl, k⟩ := h
    refine ⟨_, (pss_cons (ps_while pO (pt_cmpR op_ne (pv 1) pe_int (nomark _)) (pss_one (ps_par (i := 0) (j := 1) (by rfl) sc__law_gcd.nd rfl rfl (by decide) rfl rfl (pa_cons (pv 1) (pa_cons (pe_op op_mod (pe_callTy zc_int (by rfl) T.n_int (by decide +kernel) (pa_cons (pv 0) pa_nil)) (pv 1)) pa_nil)) (by rfl))))
    (pss_one (ps_ret (pv 0)))), ?_⟩
    walk_at "z_in"
    walk_at "z_go"
    refine ⟨fun m σ H' => ∃ a' b' : Nat, σ = [some (V.int a'), some (V.int b')] ∧ H' = H ∧ b' = m ∧ Nat.gcd a' b' = Nat.gcd a b, ⟨b, a, b, rfl, rfl, rfl, rfl⟩, ?_⟩
    rintro m σ H' ⟨a', b', rfl, rfl, rfl, hg⟩
    walk_at "z_go"
    refine f_2 (fun h => ?_) (fun h => ⟨_, fun _ _ h => h, ?_⟩)
    · have h0 : b' = 0 := by omega
      walk_at "z_go"
      rw [h0, Nat.gcd_zero_right] at hg
      rw [hg]
      exact k
    · walk_at "z_go"
      exact ⟨a' % b', Nat.mod_lt _ (by omega), b', a' % b', by rw [Int.natCast_emod], rfl, rfl, by rw [gcd_step, hg]⟩

theorem ok_odd_part (T : Txt K mg) : FnOk P w K mg base (L2.CX P w) 1 (He.ga K "odd_part") T.F_odd_part.choose ["number"] spOdd := by
  refine T.F_odd_part.choose_spec.ok sc_odd_part (fun vs H Q E h => ?_) (fun cdv A outer s H vs Q E hr h => ?_)
  · obtain ⟨o, s, ho, rfl, k⟩ := h
    rfl
  · obtain ⟨o, s, ho, rfl, k⟩ := h
    refine ⟨_, (pss_cons (ps_while pO (pt_cmpR op_eq (pe_op op_mod (pv 0) pe_int) pe_int (nomark _)) (pss_one (ps_set (i := 0) sc_odd_part.nd rfl (Or.inl rfl) (pe_op op_fdivW (pv 0) pe_int))))
    (pss_one (ps_ret (pv 0)))), ?_⟩
    walk_at "z_in"
    walk_at "z_go"
    refine ⟨fun m σ H' => σ = [some (V.int (o * 2 ^ m : Nat))] ∧ H' = H, ⟨s, rfl, rfl⟩, ?_⟩
    rintro m σ H' ⟨rfl, rfl⟩
    walk_at "z_go"
    cases m with
    | zero =>
      rw [Nat.pow_zero, Nat.mul_one]
      refine f_F (by omega) ?_
      walk_at "z_go"
      exact k
    | succ m =>
      have e : o * 2 ^ (m + 1) = 2 * (o * 2 ^ m) := by rw [Nat.pow_succ, ← Nat.mul_assoc, Nat.mul_comm]
      rw [e]
      refine f_T (by omega) ⟨_, fun _ _ h => h, ?_⟩
      walk_at "z_go"
      refine ⟨m, by omega, ?_, rfl⟩
      have e2 : ((2 * (o * 2 ^ m) : Nat) : Int) / 2 = ((o * 2 ^ m : Nat) : Int) := by omega
      rw [e2]


local macro_rules | `(tactic| walk_at "z_1") => `(tactic| first
  | with_reducible refine Z.s_callN ?_
  | with_reducible refine Z.s_callS ?_
  | with_reducible refine Z.s_err ?_
  | with_reducible refine Z.s_xv ?_
  | ((with_reducible refine Z.g_tup (xs := ?zx) ?zh ?zn ?_); (case zh => walk_at "z_hp"); (case zn => rfl))
  | with_reducible refine Z.g_cons ?_
  | with_reducible refine Z.g_nil ?_
  | ((with_reducible refine Z.s_aug (x := ?zx) ?zh ?_); (case zh => rfl))
  | ((with_reducible refine Z.r_ip ?_); dsimp only [List.set]))
theorem ok_order_of (T : Txt K mg) : FnOk P w K mg base (L2.CX P w) 3 (He.ga K "order_of") T.F_order_of.choose ["number"] (spOrd (He.ga K "TooLarge")) := by
  refine T.F_order_of.choose_spec.ok sc_order_of (fun vs H Q E h => ?_) (fun cdv A outer s H vs Q E hr h => ?_)
  · obtain ⟨n, rfl, hn, k, kx⟩ := h
    rfl
  · obtain ⟨n, rfl, hn, k, kx⟩ := h
    refine ⟨_, (pss_cons (ps_set (i := 1) sc_order_of.nd rfl (Or.inl rfl) (pe_op op_mod pe_int (pv 0)))
    (pss_cons (ps_set (i := 2) sc_order_of.nd rfl (Or.inl rfl) pe_int)
    (pss_cons (ps_while pO (pt_cmpR op_ne (pv 1) (pe_op op_mod pe_int (pv 0)) (nomark _)) (pss_cons (ps_set (i := 1) sc_order_of.nd rfl (Or.inl rfl) (pe_op op_mod (pe_op op_mul pe_int (pv 1)) (pv 0)))
    (pss_cons (ps_aug (i := 2) sc_order_of.nd rfl (Or.inl rfl) pe_int ip_add)
    (pss_one (ps_if (pt_cmpR op_gt (pv 2) (pe_glob (v := .int 5040) rfl T.c_MOST_LENGTH.choose_spec ⟨_, rfl⟩) (nomark _)) (pss_one (ps_raise rfl pT (pmk_err (errI_TooLarge T) errS_TooLarge (errN_TooLarge T) (by decide) (by decide) (hr.mono (by decide)) rfl T.g_TooLarge (pa_cons pe_str (pa_cons (pe_glob (v := .int 5040) rfl T.c_MOST_LENGTH.choose_spec ⟨_, rfl⟩) pa_nil))))) pss_nil)))))
    (pss_one (ps_ret (pv 2)))))), ?_⟩
    walk_at "z_in"
    have c1 : (1 : Int) % (n : Int) = ((1 % n : Nat) : Int) := by rw [Int.natCast_emod]; rfl
    have c2 : (2 : Int) % (n : Int) = ((2 % n : Nat) : Int) := by rw [Int.natCast_emod]; rfl
    walk_at "z_go"
    rw [c2]
    refine ⟨fun m σ H' => ∃ p o : Nat, σ = [some (V.int n), some (V.int p), some (V.int o)] ∧ H' = H ∧ 1 ≤ o ∧ o ≤ 5040 ∧ 5041 - o = m ∧ ordF n (5041 - o) p o = ord n, ⟨5040, 2 % n, 1, rfl, rfl, by omega, by omega, rfl, rfl⟩, ?_⟩
    rintro m σ H' ⟨p, o, rfl, rfl, o1, o2, rfl, ho⟩
    obtain ⟨f, hf⟩ : ∃ f, 5041 - o = f + 1 := ⟨5040 - o, by omega⟩
    rw [hf] at ho
    unfold ordF at ho
    walk_at "z_go"
    rw [c1]
    refine f_2 (fun h => ?_) (fun h => ⟨_, fun _ _ h => h, ?_⟩)
    · walk_at "z_go"
      rw [if_pos (by exact_mod_cast h)] at ho
      exact k _ ho.symm
    · rw [if_neg (fun q => h (by exact_mod_cast q))] at ho
      have c3 : (2 : Int) * (p : Int) % (n : Int) = ((2 * p % n : Nat) : Int) := by rw [Int.natCast_emod]; rfl
      walk_at "z_go"
      rw [c3]
      refine f_2 (fun h2 => ?_) (fun h2 => ?_)
      · have h5 : f = 0 := by omega
        rw [h5] at ho
        walk_at "z_go"
        exact kx ho.symm
      · walk_at "z_go"
        refine ⟨5041 - (o + 1), by omega, 2 * p % n, o + 1, rfl, rfl, by omega, by omega, rfl, ?_⟩
        have e : 5041 - (o + 1) = f := by omega
        rw [e]
        exact ho


local macro_rules | `(tactic| walk_at "z_1") => `(tactic| first
  | with_reducible refine Z.s_callN ?_
  | with_reducible refine Z.s_callS ?_
  | with_reducible refine Z.s_err ?_
  | with_reducible refine Z.s_xv ?_
  | ((with_reducible refine Z.g_tup (xs := ?zx) ?zh ?zn ?_); (case zh => walk_at "z_hp"); (case zn => rfl))
  | with_reducible refine Z.g_cons ?_
  | with_reducible refine Z.g_nil ?_
  | ((with_reducible refine Z.s_aug (x := ?zx) ?zh ?_); (case zh => rfl))
  | ((with_reducible refine Z.r_ip ?_); dsimp only [List.set]))
theorem ok_shared (T : Txt K mg) : FnOk P w K mg base (L2.CX P w) 2 (He.ga K "shared") T.F_shared.choose ["number", "width"] spSh := by
  refine T.F_shared.choose_spec.ok sc_shared (fun vs H Q E h => ?_) (fun cdv A outer s H vs Q E hr h => ?_)
  · obtain ⟨o, s, w, ho, h9, rfl, k⟩ := h
    rfl
  · obtain ⟨o, s, w, ho, h9, rfl, k⟩ := h
    refine ⟨_, (pss_cons (ps_set (i := 2) sc_shared.nd rfl (Or.inl rfl) (pe_call (ok_odd_part T) (hr.mono (by decide)) (by rfl) T.g_odd_part T.F_odd_part.choose_spec.kp (b_odd_part T) .nil pX (pa_cons (pv 0) pa_nil)))
    (pss_cons (ps_par3 (i := 3) (j := 4) (l := 5) (by rfl) sc_shared.nd rfl rfl rfl (by decide) (by decide) (by decide) rfl rfl rfl (pa_cons (pe_op op_mod pe_int (pv 2)) (pa_cons (pe_op op_mod pe_int (pv 2)) (pa_cons (pv 1) pa_nil))) (by rfl))
    (pss_cons (ps_while pO (pt_cmpR op_gt (pv 5) pe_int (nomark _)) (pss_cons (ps_if (pt_cmpR op_eq (pe_op op_mod (pv 5) pe_int) pe_int (nomark _)) (pss_one (ps_set (i := 3) sc_shared.nd rfl (Or.inl rfl) (pe_op op_mod (pe_op op_mulW (pv 3) (pv 4)) (pv 2)))) pss_nil)
    (pss_cons (ps_set (i := 4) sc_shared.nd rfl (Or.inl rfl) (pe_op op_mod (pe_op op_mulW (pv 4) (pv 4)) (pv 2)))
    (pss_one (ps_set (i := 5) sc_shared.nd rfl (Or.inl rfl) (pe_op op_fdivW (pv 5) pe_int))))))
    (pss_one (ps_ret (pe_call (ok_gcd T) (hr.mono (by decide)) (by rfl) T.g_gcd T.F_gcd.choose_spec.kp (b_gcd T) .nil pX (pa_cons (pv 2) (pa_cons (pe_op op_mod (pe_op op_sub (pv 3) pe_int) (pv 2)) pa_nil)))))))), ?_⟩
    walk_at "z_in"
    have o0 : 0 < o := by omega
    have c1 : (1 : Int) % (o : Int) = ((1 % o : Nat) : Int) := by rw [Int.natCast_emod]; rfl
    have c2 : (2 : Int) % (o : Int) = ((2 % o : Nat) : Int) := by rw [Int.natCast_emod]; rfl
    have bnd : ∀ x : Nat, x < o → (x : Int).natAbs < 2 ^ 100 := fun x hx => by rw [Int.natAbs_natCast]; omega
    walk_at "z_go"
    refine ⟨o, s, ho, rfl, ?_⟩
    walk_at "z_go"
    rw [c1, c2]
    refine ⟨fun m σ H' => ∃ p b l : Nat, σ = [some (V.int (o * 2 ^ s : Nat)), some (V.int w), some (V.int o), some (V.int p), some (V.int b), some (V.int l)] ∧ H' = H ∧ p < o ∧ b < o ∧ l = m ∧ (p * b ^ l) % o = 2 ^ w % o, ⟨w, 1 % o, 2 % o, w, rfl, rfl, Nat.mod_lt _ o0, Nat.mod_lt _ o0, rfl, sq_start⟩, ?_⟩
    rintro m σ H' ⟨p, b, l, rfl, rfl, p1, b1, rfl, hi⟩
    walk_at "z_go"
    refine f_2 (fun h => ⟨_, fun _ _ h => h, ?_⟩) (fun h => ?_)
    · have c3 : (b : Int) * (b : Int) % (o : Int) = ((b * b % o : Nat) : Int) := by rw [Int.natCast_emod]; rfl
      have c4 : (p : Int) * (b : Int) % (o : Int) = ((p * b % o : Nat) : Int) := by rw [Int.natCast_emod]; rfl
      have c5 : (l : Int) / 2 = ((l / 2 : Nat) : Int) := by omega
      walk_at "z_go"
      refine f_2 (fun h2 => ?_) (fun h2 => ?_)
      · walk_at "z_go"
        refine r_i (wide_mul (bnd p p1) (bnd b b1) (by decide) (by decide) (by decide)) ?_
        walk_at "z_go"
        refine r_i (wide_mul (bnd b b1) (bnd b b1) (by decide) (by decide) (by decide)) ?_
        walk_at "z_go"
        rw [c3, c4, c5]
        exact ⟨l / 2, by omega, p * b % o, b * b % o, l / 2, rfl, rfl, Nat.mod_lt _ o0, Nat.mod_lt _ o0, rfl, by rw [← hi]; exact sq_one (by omega)⟩
      · walk_at "z_go"
        refine r_i (wide_mul (bnd b b1) (bnd b b1) (by decide) (by decide) (by decide)) ?_
        walk_at "z_go"
        rw [c3, c5]
        exact ⟨l / 2, by omega, p, b * b % o, l / 2, rfl, rfl, p1, Nat.mod_lt _ o0, rfl, by rw [← hi]; exact sq_zero (by omega)⟩
    · have l0 : l = 0 := by omega
      subst l0
      rw [Nat.pow_zero, Nat.mul_one] at hi
      walk_at "z_go"
      refine ⟨o, (2 ^ w - 1) % o, ?_, k⟩
      rw [sq_end hi]

theorem ok__law_order (T : Txt K mg) : FnOk P w K mg base (L2.CX P w) 1 (He.ga K "_law_order") T.F__law_order.choose ["_law_odd"] spLOrd := by
  refine T.F__law_order.choose_spec.ok sc__law_order (fun vs H Q E h => ?_) (fun cdv A outer s H vs Q E hr h => ?_)
  · obtain ⟨n, r, rfl, hn, hr0, k⟩ := h
    rfl
  · obtain ⟨n, r, rfl, hn, hr0, k⟩ := h
    refine ⟨_, (pss_cons (ps_asg (pe_tup (pa_cons pe_int (pa_cons pe_int pa_nil))) (pg_tup (by rfl) (pgs_cons (pg_name (i := 1) sc__law_order.nd rfl (Or.inl rfl)) (pgs_cons (pg_name (i := 2) sc__law_order.nd rfl (Or.inl rfl)) pgs_nil))))
    (pss_cons (ps_while pO (pt_cmpR op_ne (pe_op op_mod (pe_callTy zc_int (by rfl) T.n_int (by decide +kernel) (pa_cons (pe_op op_sub (pv 2) pe_int) pa_nil)) (pv 0)) pe_int (nomark _)) (pss_one (ps_par (i := 1) (j := 2) (by rfl) sc__law_order.nd rfl rfl (by decide) rfl rfl (pa_cons (pe_op op_add (pv 1) pe_int) (pa_cons (pe_op op_mod (pe_callTy zc_int (by rfl) T.n_int (by decide +kernel) (pa_cons (pe_op op_mul pe_int (pv 2)) pa_nil)) (pv 0)) pa_nil)) (by rfl))))
    (pss_one (ps_ret (pv 1))))), ?_⟩
    walk_at "z_in"
    walk_at "z_go"
    rename_i l1 H1 f1 e1 h1
    refine ⟨fun m σ H' => ∃ q p : Nat, σ = [some (V.int n), some (V.int q), some (V.int p)] ∧ H' = H1 ∧ 1 ≤ q ∧ q ≤ 5040 ∧ 5041 - q = m ∧ ordF n (5041 - q) (p % n) q = some r, ⟨5040, 1, 2, rfl, rfl, by omega, by omega, rfl, hr0⟩, ?_⟩
    rintro m σ H' ⟨q, p, rfl, rfl, q1, q2, rfl, ho⟩
    obtain ⟨f, hf⟩ : ∃ f, 5041 - q = f + 1 := ⟨5040 - q, by omega⟩
    rw [hf] at ho
    unfold ordF at ho
    walk_at "z_go"
    refine f_2 (fun h => ?_) (fun h => ⟨_, fun _ _ h => h, ?_⟩)
    · rw [if_pos (ints_mod.mp h)] at ho
      walk_at "z_go"
      cases ho
      exact k _ e1
    · rw [if_neg (fun z => h (ints_mod.mpr z))] at ho
      have c3 : (2 : Int) * (p : Int) % (n : Int) = ((2 * p % n : Nat) : Int) := by rw [Int.natCast_emod]; rfl
      have f0 : f ≠ 0 := fun z => by
        rw [z] at ho
        cases ho
      walk_at "z_go"
      rw [c3]
      refine ⟨5041 - (q + 1), by omega, q + 1, 2 * p % n, rfl, rfl, by omega, by omega, rfl, ?_⟩
      have e : 5041 - (q + 1) = f := by omega
      rw [e, Nat.mod_mod, ← Nat.mul_mod_mod 2 p n]
      exact ho


local macro_rules | `(tactic| walk_at "z_1") => `(tactic| first
  | with_reducible refine Z.s_callN ?_
  | with_reducible refine Z.s_callS ?_
  | with_reducible refine Z.s_err ?_
  | with_reducible refine Z.s_xv ?_
  | ((with_reducible refine Z.g_tup (xs := ?zx) ?zh ?zn ?_); (case zh => walk_at "z_hp"); (case zn => rfl))
  | with_reducible refine Z.g_cons ?_
  | with_reducible refine Z.g_nil ?_
  | ((with_reducible refine Z.s_aug (x := ?zx) ?zh ?_); (case zh => rfl))
  | ((with_reducible refine Z.r_ip ?_); dsimp only [List.set]))
theorem ok__law_is_refused (T : Txt K mg) : FnOk P w K mg base (L2.CX P w) 5 (He.ga K "_law_is_refused") T.F__law_is_refused.choose ["_law_odd"] spRef := by
  refine T.F__law_is_refused.choose_spec.ok sc__law_is_refused (fun vs H Q E h => ?_) (fun cdv A outer s H vs Q E hr h => ?_)
  · obtain ⟨n, rfl, hn, ho, k⟩ := h
    rfl
  · obtain ⟨n, rfl, hn, ho, k⟩ := h
    refine ⟨_, (pss_cons (ps_set (i := 1) sc__law_is_refused.nd rfl (Or.inl rfl) pe_non)
    (pss_cons (ps_try_kp (i := 2) rfl rfl rfl sc__law_is_refused.nd rfl rfl ⟨rfl, by decide, .inl T.g_ZerosError⟩ pT
    (fun W pn xe tk _ => pss_one (ps_expr (pe_callS (ok_order_of T) (hr.mono (by decide)) rfl T.g_order_of T.F_order_of.choose_spec.kp (b_order_of T) (fun σ => passAt tk σ) (pa_cons (pv 0) pa_nil))))
    (fun a oe cls d pn hz hf => pss_one (ps_set (i := 1) sc__law_is_refused.nd rfl (Or.inl rfl) (pv 2))))
    (pss_one (ps_ret (pe_and (pe_callB call_isV (by rfl) T.n_isinstance (by decide +kernel) (pa_cons (pv 1) (pa_cons (pe_glob (v := .ref (He.ga K "TooLarge")) rfl T.g_TooLarge rfl) pa_nil))) (pe_one (pe_cmpR (op_eqD hr.units) (pe_tup (pa_cons (pe_xv (pv 1)) (pa_cons (pe_xv (pv 1)) pa_nil))) (pe_tup (pa_cons pe_str (pa_cons pe_int pa_nil))) (nomark _)))))))), ?_⟩
    walk_at "z_in"
    walk_at "z_go"
    dsimp only
    walk_at "z_go"
    refine ⟨n, rfl, hn, fun q hq => ?_, fun _ d hd => ?_⟩
    · rw [ho] at hq
      cases hq
    refine w_kp T.xm_TooLarge_ZerosError fun a ha => ?_
    dsimp only [List.set]
    walk_at "z_go"
    dsimp only [List.set]
    have hE := isE_new (C := (He.ga K "TooLarge")) ha
    have hX := ex_new2 (u := exv a (.ref (He.ga K "TooLarge")) (some d)) hd ha
    generalize upd (upd H d (.xd [("most", V.int 5040), ("what", V.str "length")])) a (exv a (.ref (He.ga K "TooLarge")) (some d)) = H1 at *
    walk_at "z_go"
    refine r_isV (errQ_TooLarge T) hE T.xk_TooLarge_TooLarge ?_
    walk_at "z_go"
    refine ⟨a, _, _, .str "length", rfl, errQ_TooLarge T, T.en_TooLarge_what, hE, by decide +kernel, ?_⟩
    walk_at "z_go"
    refine ⟨a, _, _, .int 5040, rfl, errQ_TooLarge T, T.en_TooLarge_most, hE, by decide +kernel, ?_⟩
    walk_at "z_go"
    rename_i l2 H2 f2 e2 h2 l3 H3 f3 e3 h3
    refine ⟨.tuple [.str "length", .int 5040], .tuple [.str "length", .int 5040], .tup (sqt_of (e3.get h2)) (.cons (.str _) (.cons (.int _) .nil)), .tup (sqt_of h3) (.cons (.str _) (.cons (.int _) .nil)), by decide +kernel, by decide +kernel, ?_⟩
    have ev : PyData.eqv (.tuple [.str "length", .int 5040]) (.tuple [.str "length", .int 5040]) = true := by decide +kernel
    rw [ev]
    exact k _ ((hX.trans e2).trans e3)


local macro_rules | `(tactic| walk_at "z_1") => `(tactic| first
  | with_reducible refine Z.s_callN ?_
  | with_reducible refine Z.s_callS ?_
  | with_reducible refine Z.s_err ?_
  | with_reducible refine Z.s_xv ?_
  | ((with_reducible refine Z.g_tup (xs := ?zx) ?zh ?zn ?_); (case zh => walk_at "z_hp"); (case zn => rfl))
  | with_reducible refine Z.g_cons ?_
  | with_reducible refine Z.g_nil ?_
  | ((with_reducible refine Z.s_aug (x := ?zx) ?zh ?_); (case zh => rfl))
  | ((with_reducible refine Z.r_ip ?_); dsimp only [List.set]))
theorem ord_no {n : Nat} (h : n ∈ [167555, 32805, 837775, 19683, 59049, 98415, 137781]) : ord n = none := eq_of_beq (List.all_eq_true.mp ord_none n h)
theorem r_neSS {s : Str} {Q : VK} {H : Hp} (k : Q (.bl false) H) : rNe (.str s) (.str s) H Q := ⟨rfl, by simpa using k⟩
theorem log_9 {i : Int} {a : Nat} (h0 : 0 ≤ i) (h : i < 2 ^ a) (ha : 0 < a) (hb : a ≤ 9000) : i.natAbs.log2 < 9000 := by
  have h1 : i.natAbs < 2 ^ a := pow_bound h0 h
  exact Nat.lt_of_lt_of_le (PySem.Flt.log2_lt_of ha h1) hb
theorem kb_order_of {K : PySem.W.Frag} {mg : Str → Option Value} (T : Txt K mg) : KBn K T.F_order_of.choose ["number"] 0 ["number"] (fun us ws => us ++ ws) (fun us ws => us ++ ws) :=
  Z.FunD.kbindsN T.F_order_of.choose_spec 0 ["number"] (fun us ws => us ++ ws) (fun r1 r2 => r1.append r2) fun _ _ _ _ _ _ us ws h1 h2 => match us, ws, h1, h2 with | [], [_], _, _ => rfl
theorem kb_shared {K : PySem.W.Frag} {mg : Str → Option Value} (T : Txt K mg) : KBn K T.F_shared.choose ["number", "width"] 0 ["number", "width"] (fun us ws => us ++ ws) (fun us ws => us ++ ws) :=
  Z.FunD.kbindsN T.F_shared.choose_spec 0 ["number", "width"] (fun us ws => us ++ ws) (fun r1 r2 => r1.append r2) fun _ _ _ _ _ _ us ws h1 h2 => match us, ws, h1, h2 with | [], [_, _], _, _ => rfl
theorem ok_law (T : Txt K mg) : FnOk P w K mg base (L2.CX P w) 6 (He.ga K "law") T.F_law.choose ["_law_script"] (spLaw K) := by
  refine T.F_law.choose_spec.ok sc_law (fun vs H Q E h => ?_) (fun cdv A outer s H vs Q E hr h => ?_)
  · obtain ⟨a, ns, rfl, hS, hlen, k⟩ := h
    rfl
  · obtain ⟨a, ns, rfl, hS, hlen, k⟩ := h
    refine ⟨_, (pss_cons (ps_set (i := 1) sc_law.nd rfl (Or.inl rfl) (pe_call (ok__law_pen T) (hr.mono (by decide)) (by rfl) T.g__law_pen T.F__law_pen.choose_spec.kp (b__law_pen T) .nil pX (pa_cons (pv 0) pa_nil)))
    (pss_cons (ps_for pO rfl (pi_range1 (by rfl) T.n_range (pa_cons pe_int pa_nil)) (pg_name (i := 2) sc_law.nd rfl (Or.inl rfl))
    (pss_cons (ps_set (i := 3) sc_law.nd rfl (Or.inl rfl) (pe_op op_add pe_int (pe_op op_mul pe_int (pe_call (ok__law_draw T) (hr.mono (by decide)) (by rfl) T.g__law_draw T.F__law_draw.choose_spec.kp (b__law_draw T) .nil pX (pa_cons (pv 1) (pa_cons (pe_call (ok__law_pick T) (hr.mono (by decide)) (by rfl) T.g__law_pick T.F__law_pick.choose_spec.kp (b__law_pick T) .nil pX (pa_cons (pv 1) (pa_cons (pe_lst (pa_cons pe_int (pa_cons pe_int (pa_cons pe_int (pa_cons pe_int pa_nil))))) pa_nil))) pa_nil))))))
    (pss_cons (ps_set (i := 4) sc_law.nd rfl (Or.inl rfl) (pe_call (ok__law_order T) (hr.mono (by decide)) (by rfl) T.g__law_order T.F__law_order.choose_spec.kp (b__law_order T) .nil pX (pa_cons (pv 3) pa_nil)))
    (pss_cons (ps_if (pt_cmpR op_ne (pe_callB zc_reprI (by rfl) T.n_repr (by decide +kernel) (pa_cons (pe_callN (ok_order_of T) (hr.mono (by decide)) (by rfl) T.g_order_of T.F_order_of.choose_spec.kp (kb_order_of T) pX (pk_cons (pv 3) pk_nil)) pa_nil)) (pe_callB zc_reprI (by rfl) T.n_repr (by decide +kernel) (pa_cons (pv 4) pa_nil)) (nomark _)) (pss_one (ps_ret pe_bl)) pss_nil)
    (pss_cons (ps_set (i := 5) sc_law.nd rfl (Or.inl rfl) (pe_op op_shl (pv 3) (pe_call (ok__law_pick T) (hr.mono (by decide)) (by rfl) T.g__law_pick T.F__law_pick.choose_spec.kp (b__law_pick T) .nil pX (pa_cons (pv 1) (pa_cons (pe_lst (pa_cons pe_int (pa_cons pe_int (pa_cons pe_int (pa_cons pe_int pa_nil))))) pa_nil)))))
    (pss_cons (ps_set (i := 6) sc_law.nd rfl (Or.inl rfl) (pe_op op_add pe_int (pe_call (ok__law_draw T) (hr.mono (by decide)) (by rfl) T.g__law_draw T.F__law_draw.choose_spec.kp (b__law_draw T) .nil pX (pa_cons (pv 1) (pa_cons pe_int pa_nil)))))
    (pss_cons (ps_set (i := 7) sc_law.nd rfl (Or.inl rfl) (pe_call (ok__law_gcd T) (hr.mono (by decide)) (by rfl) T.g__law_gcd T.F__law_gcd.choose_spec.kp (b__law_gcd T) .nil pX (pa_cons (pv 5) (pa_cons (pe_op op_sub (pe_op op_shl pe_int (pv 6)) pe_int) pa_nil))))
    (pss_cons (ps_if (pt_cmpR op_ne (pe_callB zc_reprI (by rfl) T.n_repr (by decide +kernel) (pa_cons (pe_callN (ok_shared T) (hr.mono (by decide)) (by rfl) T.g_shared T.F_shared.choose_spec.kp (kb_shared T) pX (pk_cons (pv 5) (pk_cons (pv 6) pk_nil))) pa_nil)) (pe_callB zc_reprI (by rfl) T.n_repr (by decide +kernel) (pa_cons (pv 7) pa_nil)) (nomark _)) (pss_one (ps_ret pe_bl)) pss_nil)
    (pss_cons (ps_set (i := 8) sc_law.nd rfl (Or.inl rfl) (pe_op op_add (pv 6) (pe_op op_mul (pv 4) (pe_call (ok__law_draw T) (hr.mono (by decide)) (by rfl) T.g__law_draw T.F__law_draw.choose_spec.kp (b__law_draw T) .nil pX (pa_cons (pv 1) (pa_cons (pe_call (ok__law_pick T) (hr.mono (by decide)) (by rfl) T.g__law_pick T.F__law_pick.choose_spec.kp (b__law_pick T) .nil pX (pa_cons (pv 1) (pa_cons (pe_lst (pa_cons pe_int (pa_cons (pe_op op_pow pe_int pe_int) (pa_cons (pe_op op_pow pe_int pe_int) pa_nil)))) pa_nil))) pa_nil))))))
    (pss_one (ps_if (PW.pt (pw_or (pt_cmpR op_ne (pe_callB zc_reprI (by rfl) T.n_repr (by decide +kernel) (pa_cons (pe_call (ok_shared T) (hr.mono (by decide)) (by rfl) T.g_shared T.F_shared.choose_spec.kp (b_shared T) .nil pX (pa_cons (pv 5) (pa_cons (pv 8) pa_nil))) pa_nil)) (pe_callB zc_reprI (by rfl) T.n_repr (by decide +kernel) (pa_cons (pv 7) pa_nil)) (nomark _)) (pw_or1 (pt_cmpR op_ne (pe_callB zc_reprI (by rfl) T.n_repr (by decide +kernel) (pa_cons (pe_call (ok_shared T) (hr.mono (by decide)) (by rfl) T.g_shared T.F_shared.choose_spec.kp (b_shared T) .nil pX (pa_cons (pv 3) (pa_cons (pe_op op_mul (pv 4) (pe_op op_add pe_int (pe_call (ok__law_draw T) (hr.mono (by decide)) (by rfl) T.g__law_draw T.F__law_draw.choose_spec.kp (b__law_draw T) .nil pX (pa_cons (pv 1) (pa_cons (pe_op op_pow pe_int pe_int) pa_nil))))) pa_nil))) pa_nil)) (pe_callB zc_reprI (by rfl) T.n_repr (by decide +kernel) (pa_cons (pv 3) pa_nil)) (nomark _))))) (pss_one (ps_ret pe_bl)) pss_nil)))))))))))
    (pss_cons (ps_set (i := 9) sc_law.nd rfl (Or.inl rfl) (pe_call (ok__law_draw T) (hr.mono (by decide)) (by rfl) T.g__law_draw T.F__law_draw.choose_spec.kp (b__law_draw T) .nil pX (pa_cons (pv 1) (pa_cons pe_int pa_nil))))
    (pss_cons (ps_set (i := 10) sc_law.nd rfl (Or.inl rfl) pe_int)
    (pss_cons (ps_for pO rfl (pi_range1 (by rfl) T.n_range (pa_cons (pv 9) pa_nil)) (pg_name (i := 2) sc_law.nd rfl (Or.inl rfl))
    (pss_one (ps_set (i := 10) sc_law.nd rfl (Or.inl rfl) (pe_op op_mul pe_int (pv 10)))))
    (pss_cons (ps_if (pt_cmpR op_ne (pe_call (ok_order_of T) (hr.mono (by decide)) (by rfl) T.g_order_of T.F_order_of.choose_spec.kp (b_order_of T) .nil pX (pa_cons (pv 10) pa_nil)) (pe_ifExp (pt_cmpR op_eq (pv 9) pe_int (nomark _)) pe_int (pe_op op_mul pe_int (pe_op op_fdivW (pv 10) pe_int))) (nomark _)) (pss_one (ps_ret pe_bl)) pss_nil)
    (pss_cons (ps_set (i := 11) sc_law.nd rfl (Or.inl rfl) (pe_op op_add pe_int (pe_call (ok__law_draw T) (hr.mono (by decide)) (by rfl) T.g__law_draw T.F__law_draw.choose_spec.kp (b__law_draw T) .nil pX (pa_cons (pv 1) (pa_cons pe_int pa_nil)))))
    (pss_cons (ps_if (PW.pt (pw_or (pt_cmpR op_ne (pe_call (ok_order_of T) (hr.mono (by decide)) (by rfl) T.g_order_of T.F_order_of.choose_spec.kp (b_order_of T) .nil pX (pa_cons (pe_op op_sub (pe_op op_shl pe_int (pv 11)) pe_int) pa_nil)) (pv 11) (nomark _)) (pw_or1 (pt_cmpR op_ne (pe_call (ok_shared T) (hr.mono (by decide)) (by rfl) T.g_shared T.F_shared.choose_spec.kp (b_shared T) .nil pX (pa_cons (pe_op op_sub (pe_op op_shl pe_int (pv 11)) pe_int) (pa_cons (pe_op op_mul (pv 11) (pe_op op_pow pe_int pe_int)) pa_nil))) (pe_op op_sub (pe_op op_shl pe_int (pv 11)) pe_int) (nomark _))))) (pss_one (ps_ret pe_bl)) pss_nil)
    (pss_cons (ps_if (PW.pt (pw_or (pt_cmpR op_ne (pe_call (ok_order_of T) (hr.mono (by decide)) (by rfl) T.g_order_of T.F_order_of.choose_spec.kp (b_order_of T) .nil pX (pa_cons pe_int pa_nil)) pe_int (nomark _)) (pw_or1 (pt_not (pt_val (pe_call (ok__law_is_refused T) (hr.mono (by decide)) (by rfl) T.g__law_is_refused T.F__law_is_refused.choose_spec.kp (b__law_is_refused T) .nil pX (pa_cons (pe_call (ok__law_pick T) (hr.mono (by decide)) (by rfl) T.g__law_pick T.F__law_pick.choose_spec.kp (b__law_pick T) .nil pX (pa_cons (pv 1) (pa_cons (pe_lst (pa_cons pe_int (pa_cons pe_int (pa_cons (pe_op op_mul pe_int pe_int) pa_nil)))) pa_nil))) pa_nil))))))) (pss_one (ps_ret pe_bl)) pss_nil)
    (pss_one (ps_ret (pe_call (ok__law_is_refused T) (hr.mono (by decide)) (by rfl) T.g__law_is_refused T.F__law_is_refused.choose_spec.kp (b__law_is_refused T) .nil pX (pa_cons (pe_op op_mul (pe_op op_pow pe_int pe_int) (pe_op op_add pe_int (pe_op op_mul pe_int (pe_call (ok__law_draw T) (hr.mono (by decide)) (by rfl) T.g__law_draw T.F__law_draw.choose_spec.kp (b__law_draw T) .nil pX (pa_cons (pv 1) (pa_cons pe_int pa_nil)))))) pa_nil))))))))))))), ?_⟩
    walk_at "z_in"
    walk_at "z_go"
    refine use_pen hS fun p H1 e1 p1 => ?_
    walk_at "z_go"
    refine ⟨_, rfl, by decide, by decide, for_range (lo := 0) (n := 3) (fun i σ H' => ∃ a2 a3 a4 a5 a6 a7 a8, σ = [some (.ref a), some (.ref p), a2, a3, a4, a5, a6, a7, a8, none, none, none] ∧ PenAt K H' p (1000000 - 100 * i)) ⟨_, _, _, _, _, _, _, rfl, p1⟩ ?_ ?_⟩
    · rintro I σ H2 hi ⟨a2, a3, a4, a5, a6, a7, a8, rfl, p2⟩
      obtain ⟨n, hn⟩ : ∃ n, 1000000 - 100 * I = n + 100 := ⟨1000000 - 100 * I - 100, by omega⟩
      rw [hn] at p2
      walk_at "z_go"
      rename_i l3 H3 f3 e3 h3
      refine use_pick (n := n + 99) (xs := [8, 40, 200, 1500]) (p2.ex e3) h3 (by decide) (by decide) fun m H4 g4 p4 hm => ?_
      have hm' : 1 ≤ m ∧ m ≤ 1500 := by
        simp only [List.mem_cons, List.not_mem_nil, or_false] at hm
        omega
      walk_at "z_go"
      refine use_draw (n := n + 98) p4 (by omega) (log_small (by omega) (by omega)) fun r H5 g5 p5 r0 r1 => ?_
      obtain ⟨o, ho⟩ : ∃ o : Nat, 1 + 2 * r = (o : Int) := ⟨(1 + 2 * r).toNat, by omega⟩
      have o2 : o % 2 = 1 := by omega
      have o3 : o < 3001 := by omega
      obtain ⟨q, hq⟩ : ∃ q, ord o = some q := by
        have z := List.all_eq_true.mp ord_small (o / 2) (List.mem_range.mpr (by omega))
        rw [show 2 * (o / 2) + 1 = o by omega] at z
        exact Option.isSome_iff_exists.mp z
      obtain ⟨q1, q2, q3⟩ := ord_some (by omega) hq
      walk_at "z_go"
      rw [ho]
      refine ⟨o, q, rfl, by omega, hq, fun H6 e6 => ?_⟩
      walk_at "z_go"
      refine ⟨o, rfl, by omega, fun q' hq' => ?_, fun z => by rw [hq] at z; cases z⟩
      obtain rfl : q = q' := by rw [hq] at hq'; exact Option.some.inj hq'
      walk_at "z_go"
      refine r_reprI (log_lt (a := 13) (by omega) (by omega) (by decide) (by decide)) ?_
      walk_at "z_go"
      refine r_reprI (log_lt (a := 13) (by omega) (by omega) (by decide) (by decide)) ?_
      refine r_neSS ?_
      walk_at "z_go"
      rename_i l7 H7 f7 e7 h7
      refine use_pick (n := n + 97) (xs := [0, 1, 5, 40]) ((p5.ex e6).ex e7) h7 (by decide) (by decide) fun t H8 g8 p8 ht => ?_
      have ht' : 0 ≤ t ∧ t ≤ 40 := by
        simp only [List.mem_cons, List.not_mem_nil, or_false] at ht
        omega
      walk_at "z_go"
      refine use_draw (n := n + 96) p8 (by omega) (log_small (by omega) (by omega)) fun r2 H9 g9 p9 r20 r21 => ?_
      obtain ⟨w, hw⟩ : ∃ w : Nat, 1 + r2 = (w : Int) := ⟨(1 + r2).toNat, by omega⟩
      have w1 : 1 ≤ w ∧ w ≤ 60 := by omega
      obtain ⟨s, hs⟩ : ∃ s : Nat, t.toNat = s := ⟨_, rfl⟩
      have s1 : s ≤ 40 := by omega
      have ew : (o : Int) * 2 ^ s = ((o * 2 ^ s : Nat) : Int) := by rw [Int.natCast_mul, Int.natCast_pow]; rfl
      have em : (1 : Int) * 2 ^ ((w : Int)).toNat - 1 = ((2 ^ w - 1 : Nat) : Int) := by
        rw [Int.toNat_natCast, Int.one_mul]
        have := two_pow_pos w
        have e : ((2 ^ w : Nat) : Int) = 2 ^ w := by rw [Int.natCast_pow]; rfl
        omega
      have shb : sh o w ≤ o := Nat.gcd_le_left _ (by omega)
      walk_at "z_go"
      rw [hw, hs, ew, em]
      refine ⟨o * 2 ^ s, 2 ^ w - 1, rfl, ?_⟩
      rw [sh_gcd w1.1]
      walk_at "z_go"
      refine ⟨o, s, w, o2, by omega, rfl, ?_⟩
      walk_at "z_go"
      refine r_reprI (log_lt (a := 13) (by omega) (by omega) (by decide) (by decide)) ?_
      walk_at "z_go"
      refine r_reprI (log_lt (a := 13) (by omega) (by omega) (by decide) (by decide)) ?_
      refine r_neSS ?_
      walk_at "z_go"
      rename_i l10 H10 f10 e10 h10
      refine use_pick (n := n + 95) (xs := [3, 10 ^ Int.toNat 6, 10 ^ Int.toNat 25]) (p9.ex e10) h10 (by decide) (by decide) fun m2 H11 g11 p11 hm2 => ?_
      have hm3 : 1 ≤ m2 ∧ m2 < 2 ^ 84 := by
        simp only [List.mem_cons, List.not_mem_nil, or_false] at hm2
        rcases hm2 with h | h | h <;> rw [h] <;> decide
      walk_at "z_go"
      refine use_draw (n := n + 94) p11 (by omega) (log_9 (a := 84) (by omega) hm3.2 (by decide) (by decide)) fun r3 H12 g12 p12 r30 r31 => ?_
      obtain ⟨f, rfl⟩ : ∃ f : Nat, r3 = (f : Int) := ⟨r3.toNat, by omega⟩
      have ef : (w : Int) + (q : Int) * (f : Int) = ((w + q * f : Nat) : Int) := by rw [Int.natCast_add, Int.natCast_mul]
      walk_at "z_go"
      rw [ef]
      refine ⟨o, s, w + q * f, o2, by omega, rfl, ?_⟩
      rw [sh_far q3]
      walk_at "z_go"
      refine r_reprI (log_lt (a := 13) (by omega) (by omega) (by decide) (by decide)) ?_
      walk_at "z_go"
      refine r_reprI (log_lt (a := 13) (by omega) (by omega) (by decide) (by decide)) ?_
      refine r_neSS ?_
      walk_at "z_go"
      refine use_draw (n := n + 93) p12 (by decide) (log_9 (a := 84) (by decide) (by decide) (by decide) (by decide)) fun r4 H13 g13 p13 r40 r41 => ?_
      obtain ⟨g, hg⟩ : ∃ g : Nat, 1 + r4 = (g : Int) := ⟨(1 + r4).toNat, by omega⟩
      have eg : (q : Int) * (g : Int) = ((q * g : Nat) : Int) := by rw [Int.natCast_mul]
      walk_at "z_go"
      rw [hg, eg]
      refine ⟨o, 0, q * g, o2, by omega, by rw [Nat.pow_zero, Nat.mul_one], ?_⟩
      rw [sh_all q3]
      walk_at "z_go"
      refine r_reprI (log_lt (a := 13) (by omega) (by omega) (by decide) (by decide)) ?_
      walk_at "z_go"
      refine r_reprI (log_lt (a := 13) (by omega) (by omega) (by decide) (by decide)) ?_
      refine r_neSS ?_
      walk_at "z_go"
      exact ⟨_, _, _, _, _, _, _, rfl, p13.mono (by omega)⟩
    · rintro σ H2 ⟨a2, a3, a4, a5, a6, a7, a8, rfl, p2⟩
      have p2 : PenAt K H2 p (999000 + 100) := p2.mono (by omega)
      walk_at "z_go"
      refine use_draw (n := 999099) p2 (by omega) (log_small (by omega) (by omega)) fun r H3 g3 p3 r0 r1 => ?_
      obtain ⟨e, rfl⟩ : ∃ e : Nat, r = (e : Int) := ⟨r.toNat, by omega⟩
      walk_at "z_go"
      refine s_forR (n := e) ⟨by omega, by omega⟩ (fun R h => ⟨_, rfl, h⟩) (fun i σ H' => ∃ b2, σ = [some (.ref a), some (.ref p), b2, a3, a4, a5, a6, a7, a8, some (.int e), some (.int (3 ^ i : Nat)), none] ∧ H' = H3) ⟨_, rfl, rfl⟩ ?_ ?_
      · rintro i σ H' hi ⟨b2, rfl, rfl⟩
        walk_at "z_go"
        refine ⟨some (.int i), ?_, rfl⟩
        rw [show (3 : Int) * ((3 ^ i : Nat) : Int) = ((3 ^ (i + 1) : Nat) : Int) by rw [Nat.pow_succ]; omega]
      rintro σ H' ⟨b2, rfl, rfl⟩
      rw [Int.toNat_natCast]
      have o3 : ord (3 ^ e) = some (if e = 0 then 1 else 2 * (3 ^ e / 3)) := by
        have z := List.all_eq_true.mp ord_three e (List.mem_range.mpr (by omega))
        exact eq_of_beq z
      have e3 : 0 < 3 ^ e := Nat.pow_pos (by decide)
      walk_at "z_go"
      refine ⟨3 ^ e, rfl, e3, fun q' hq' => ?_, fun z => by rw [o3] at z; cases z⟩
      have q0 : e = 0 → q' = 1 := fun h => by rw [o3, if_pos h] at hq'; exact (Option.some.inj hq').symm
      have q1 : e ≠ 0 → q' = 2 * (3 ^ e / 3) := fun h => by rw [o3, if_neg h] at hq'; exact (Option.some.inj hq').symm
      walk_at "z_go"
      refine f_2 (fun h => have hh := q0 (by omega); ?_) (fun h => have hh := q1 (by omega); ?_)
      all_goals
        walk_at "z_go"
        refine use_draw (n := 999098) p3 (by omega) (log_small (by omega) (by omega)) fun r5 H5 g5 p5 r50 r51 => ?_
        obtain ⟨f, hf⟩ : ∃ f : Nat, 1 + r5 = ((f + 1 : Nat) : Int) := ⟨r5.toNat, by omega⟩
        have f1 : f < 99 := by omega
        have o4 : ord (2 ^ (f + 1) - 1) = some (f + 1) := eq_of_beq (List.all_eq_true.mp ord_long f (List.mem_range.mpr f1))
        have t1 := two_pow_pos f
        have t2 : 2 ^ (f + 1) = 2 * 2 ^ f := by rw [Nat.pow_succ, Nat.mul_comm]
        have t3 : 2 ^ (f + 1) < 2 ^ 100 := Nat.pow_lt_pow_right (by decide) (by omega)
        have em : (1 : Int) * 2 ^ (((f + 1 : Nat) : Int)).toNat - 1 = ((2 ^ (f + 1) - 1 : Nat) : Int) := by
          rw [Int.toNat_natCast, Int.one_mul]
          have e : ((2 ^ (f + 1) : Nat) : Int) = 2 ^ (f + 1) := by rw [Int.natCast_pow]; rfl
          rw [← e]
          omega
        obtain ⟨-, -, q3⟩ := ord_some (by omega) o4
        have eg : (((f + 1 : Nat) : Int)) * 10 ^ Int.toNat 20 = (((f + 1) * 10 ^ 20 : Nat) : Int) := by rw [Int.natCast_mul]; rfl
        walk_at "z_go"
        rw [hf, em]
        refine ⟨2 ^ (f + 1) - 1, rfl, by omega, fun q' hq' => ?_, fun z => by rw [o4] at z; cases z⟩
        obtain rfl : f + 1 = q' := by rw [o4] at hq'; exact Option.some.inj hq'
        walk_at "z_go"
        rw [em, eg]
        refine ⟨2 ^ (f + 1) - 1, 0, (f + 1) * 10 ^ 20, by omega, by omega, by rw [Nat.pow_zero, Nat.mul_one], ?_⟩
        rw [sh_all q3]
        walk_at "z_go"
        refine ⟨73862057, rfl, by decide, fun q' hq' => ?_, fun z => by rw [ord_5040] at z; cases z⟩
        obtain rfl : 5040 = q' := by rw [ord_5040] at hq'; exact Option.some.inj hq'
        walk_at "z_go"
        rename_i l6 H6 f6 e6 h6
        refine use_pick (n := 999096) (xs := [167555, 32805, 5 * 167555]) ((p5.mono (by decide)).ex e6) h6 (by decide) (by decide) fun m H7 g7 p7 hm => ?_
        obtain ⟨m', rfl, hm1, hm2⟩ : ∃ m' : Nat, m = m' ∧ 0 < m' ∧ ord m' = none := by
          simp only [List.mem_cons, List.not_mem_nil, or_false] at hm
          rcases hm with h | h | h
          · exact ⟨167555, h, by decide, ord_no (by decide)⟩
          · exact ⟨32805, h, by decide, ord_no (by decide)⟩
          · exact ⟨837775, h, by decide, ord_no (by decide)⟩
        refine ⟨m', rfl, hm1, hm2, fun H8 e8 => ?_⟩
        walk_at "z_go"
        refine use_draw (n := 999095) (p7.ex e8) (by omega) (log_small (by omega) (by omega)) fun r9 H9 g9 p9 r90 r91 => ?_
        obtain ⟨m2, em2, hm3, hm4⟩ : ∃ m' : Nat, (3:Int) ^ Int.toNat 9 * (1 + 2 * r9) = m' ∧ 0 < m' ∧ ord m' = none := by
          have z : r9 = 0 ∨ r9 = 1 ∨ r9 = 2 ∨ r9 = 3 := by omega
          rcases z with h | h | h | h
          · exact ⟨19683, by rw [h]; decide, by decide, ord_no (by decide)⟩
          · exact ⟨59049, by rw [h]; decide, by decide, ord_no (by decide)⟩
          · exact ⟨98415, by rw [h]; decide, by decide, ord_no (by decide)⟩
          · exact ⟨137781, by rw [h]; decide, by decide, ord_no (by decide)⟩
        walk_at "z_go"
        rw [em2]
        exact ⟨m2, rfl, hm3, hm4, fun H' _ => k H'⟩

end
abbrev R : PySem.W.OpenRow := PySem.W.OpenLaw.row PySem.Challenge.rw_twozeros_k37_orders_and_shared
abbrev hk : PySem.W.Hook := hook 6 fns exs
def ob (s : PySem.W.SharedT) : Al := obs 6 fns exs (HandSHeadRun.getT s)
theorem ob_eq (s : PySem.W.SharedT) : ob s = hk.obs s.abs := obs_eq (HandSHeadRun.getT_eq s)
def loose : List Str := (["__name__", "ZerosError", "TooLarge", "gcd", "MOST_LENGTH", "odd_part", "order_of", "shared", "_law_pen", "_law_draw", "_law_pick", "_law_gcd", "_law_order", "_law_is_refused"] : List Str)
theorem run (w : World) : HandSHeadRun.RunEq R (PySem.W.view R.prog [17]) hk ob 8000 loose w := by
  intro os
  kernel_rfl
theorem law_at {w : World} {K : PySem.W.Frag} {h : Heap} {mg : Str → Option Value} {f : Addr} (X : K.In h) (G : h.Ns mainGlobals mg) (hf : mg ("law" : Str) = some (.ref f)) (c : Says fns exs K) :
    ∃ fd : FuncData, (∀ (s : Shared) (v : Value), BindsTo s fd ⟨[v], []⟩ [("_law_script", v)]) ∧ ∀ base : Heap, K.In base → base.Ns mainGlobals mg → FnOk P w K mg base (L2.CX P w) 6 f fd ["_law_script"] (spLaw K) := by
  have T := txt_mk X G c
  have e := hf.symm.trans T.g_law
  cases e
  have b := FunD.bindsA (ps := ["_law_script"]) T.F_law.choose_spec fun _ _ _ _ _ _ us hl => match us, hl with | [_], _ => rfl
  exact ⟨T.F_law.choose, fun s v => b s [v] rfl, fun base _ _ => ok_law T⟩
end L
open PySem PySem.W PySem.Calls PyProof.Rows
set_option maxRecDepth 100000 in
set_option maxHeartbeats 0 in
theorem PySem.Challenge.cw_twozeros_k37_orders_and_shared_holds : PySem.Challenge.rw_twozeros_k37_orders_and_shared.Holds := by
  w_on; o_law
  refine HandSHeadRun.head_any (r := L.R) (q := view L.R.prog [17]) (H := L.hk) (ob := L.ob) (M := 8000) (loose := L.loose) (d := HandSHeadRun.topDef L.R.prog 17) (kwd := []) L.ob_eq
    (by kernel_rfl) (fun s => by kernel_rfl) L.run (by kernel_rfl) (by kernel_rfl) (by kernel_rfl) (by rfl) (by first | assumption | decide +kernel) (by decide +kernel) ⟨rfl, rfl, rfl, rfl, rfl, by decide +kernel⟩ ?hw ?hc
  case hw => w_witness2
  case hc =>
    refine Z.walk_end (l := PySem.Challenge.rw_twozeros_k37_orders_and_shared) (n := 63) (k := 6) (x := "_law_script") rfl (by decide) (by kernel_rfl) ⟨rfl, by decide, by decide⟩ ?F
    intro w mg fa h Y G hm0
    obtain ⟨K, KX, c⟩ := Y
    have hm : mg ("law" : PySem.Str) = some (.ref fa) := by
      have e : (HandSHeadRun.topDef L.R.prog 17).name = ("law" : PySem.Str) := by kernel_rfl
      rw [← e]
      exact hm0
    obtain ⟨fd, hb, hF⟩ := L.law_at (w := w) KX G hm c
    exact ⟨K, fd, Z.spLaw K, KX, hb, fun H a ns hl _ hS => ⟨a, ns, rfl, hS, hl, fun _ => rfl⟩, hF⟩
