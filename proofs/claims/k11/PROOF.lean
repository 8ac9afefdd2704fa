import PyProof.Rows.All
import Wide.All
import OpenK.AllK
import Wide.FinOn
import KE.KStateDown
import Lean
import HandS.ForMost
import HandS.Exc
import HandS.WordsExc
import HandS.Defaults
import HandS.Flow
import HandS.Style
import HandS.Wide
import HandS.WideBits
import HandS.ClsMeth
import HandS.Property
import HandS.IsInst
import KE.KOpsOwn
import HandS.Head0
import HandS.Head1
import HandS.Head2
import HandS.HeadEnd
import HandS.HeadHook1
import HandS.HeadHook2
import PyProof.ReprLen
import KE.KExcSuper
import HandS.ExcInit
import HandS.ExcField
import HandS.TryMany
import HandS.RaiseMore
import KE.KExcIs
import KE.KIsAll
import HandS.FStr
import HandS.Lambda
import HandS.MakeKwOnly
import KE.KNestM
import HandS.Walk
import PyProof.Rows.StrDigitsNeg
import PySem.Challenge.RW_twozeros_k11_halves
set_option Elab.async false
set_option linter.all false
set_option maxRecDepth 100000
set_option maxHeartbeats 4000000
/-! Z: own layer over HandS: heap relations, readings step by step. -/
namespace Z
open PySem PySem.Spec PyProof.Rows L2

/-! ### heaps -/
/-- all that was told stays -/
def Ex (H H' : Hp) : Prop := ∀ a o, H a = some o → H' a = some o
/-- a pen: its cells, the next one's index, what is left of a great one -/
def isPen : HO → Bool
  | .lst [.ref _, .int _, .int _] => true
  | _ => false
/-- what a pen may become: its cells stay the same ones -/
def penTo (o : HO) (x : Option HO) : Prop := match o with
  | .lst [.ref l, .int _, .int _] => ∃ i j, x = some (.lst [.ref l, .int i, .int j])
  | o => x = some o
theorem penTo_no {o : HO} {x : Option HO} (n : isPen o = false) (h : penTo o x) : x = some o := by
  unfold penTo at h
  split at h
  · cases n
  · exact h
theorem penTo_self (o : HO) : penTo o (some o) := by
  unfold penTo
  split
  · exact ⟨_, _, rfl⟩
  · rfl
/-- all but pens stays -/
def Gr (H H' : Hp) : Prop := ∀ a o, H a = some o → penTo o (H' a)
/-- all but what stands at l stays -/
def But (l : Addr) (H H' : Hp) : Prop := ∀ a o, a ≠ l → H a = some o → H' a = some o
theorem Ex.refl (H : Hp) : Ex H H := fun _ _ h => h
theorem Ex.trans {H H1 H2 : Hp} (a : Ex H H1) (b : Ex H1 H2) : Ex H H2 := fun x o h => b x o (a x o h)
theorem Ex.new {H : Hp} {p : Addr} {o : HO} (h : H p = none) : Ex H (upd H p o) := fun a u e => by
  rw [upd_ne (ne_of_none e h)]
  exact e
theorem Ex.gr {H H' : Hp} (a : Ex H H') : Gr H H' := fun x o h => by
  rw [a x o h]
  exact penTo_self o
theorem Gr.refl (H : Hp) : Gr H H := (Ex.refl H).gr
theorem Gr.trans {H H1 H2 : Hp} (a : Gr H H1) (b : Gr H1 H2) : Gr H H2 := fun x o h => by
  have h1 := a x o h
  unfold penTo at h1
  split at h1
  · obtain ⟨i, j, h2⟩ := h1
    obtain ⟨i', j', h3⟩ := b x _ h2
    exact ⟨i', j', h3⟩
  · exact b x _ h1
theorem Ex.get {H H' : Hp} {a : Addr} {o : HO} (e : Ex H H') (h : H a = some o) : H' a = some o := e a o h
theorem Gr.get {H H' : Hp} {a : Addr} {o : HO} (e : Gr H H') (h : H a = some o) (n : isPen o = false) : H' a = some o := penTo_no n (e a o h)
theorem But.get {l : Addr} {H H' : Hp} {a : Addr} {o : HO} (e : But l H H') (h : H a = some o) (n : a ≠ l) : H' a = some o := e a o n h
theorem But.upd {l : Addr} {H : Hp} {o : HO} : But l H (upd H l o) := fun a u n h => by
  rw [upd_ne n]
  exact h
theorem Ex.free {H H' : Hp} {a : Addr} (e : Ex H H') (h : H' a = none) : H a = none := by
  cases q : H a with
  | none => rfl
  | some o =>
    rw [e a o q] at h
    cases h
/-- fresh behind Gr: either fresh before, or a pen -/
theorem Ex.sql {K : PySem.W.Frag} {H H' : Hp} {a : Addr} {xs : List V} (e : Ex H H') (h : SqL K H a xs) : SqL K H' a xs := by
  rcases h with (h | ⟨o, h⟩) | h
  · exact .inl (.inl (e _ _ h))
  · exact .inl (.inr ⟨o, e _ _ h⟩)
  · exact .inr h
theorem Ex.sqt {K : PySem.W.Frag} {H H' : Hp} {a : Addr} {xs : List V} (e : Ex H H') (h : SqT K H a xs) : SqT K H' a xs := by
  rcases h with (h | ⟨o, h⟩) | h
  · exact .inl (.inl (e _ _ h))
  · exact .inl (.inr ⟨o, e _ _ h⟩)
  · exact .inr h
theorem Gr.sql {K : PySem.W.Frag} {H H' : Hp} {a : Addr} {xs : List V} (e : Gr H H') (h : SqL K H a xs) (n : isPen (.lst xs) = false) : SqL K H' a xs := by
  rcases h with (h | ⟨o, h⟩) | h
  · exact .inl (.inl (e.get h n))
  · exact .inl (.inr ⟨o, e.get h rfl⟩)
  · exact .inr h
theorem Gr.sqt {K : PySem.W.Frag} {H H' : Hp} {a : Addr} {xs : List V} (e : Gr H H') (h : SqT K H a xs) : SqT K H' a xs := by
  rcases h with (h | ⟨o, h⟩) | h
  · exact .inl (.inl (e.get h rfl))
  · exact .inl (.inr ⟨o, e.get h rfl⟩)
  · exact .inr h
theorem But.sql {K : PySem.W.Frag} {l : Addr} {H H' : Hp} {a : Addr} {xs : List V} (e : But l H H') (h : SqL K H a xs) (n : a ≠ l) : SqL K H' a xs := by
  rcases h with (h | ⟨o, h⟩) | h
  · exact .inl (.inl (e _ _ n h))
  · exact .inl (.inr ⟨o, e _ _ n h⟩)
  · exact .inr h
theorem sql_of {K : PySem.W.Frag} {H : Hp} {a : Addr} {xs : List V} (h : H a = some (.lst xs)) : SqL K H a xs := .inl (.inl h)
theorem sqt_of {K : PySem.W.Frag} {H : Hp} {a : Addr} {xs : List V} (h : H a = some (.tup xs)) : SqT K H a xs := .inl (.inl h)
theorem pen_ints (ns : List Int) : isPen (.lst (ns.map V.int)) = false := by
  cases ns with
  | nil => rfl
  | cons a r => rfl
theorem pen_refs (ns : List Addr) : isPen (.lst (ns.map V.ref)) = false := by
  cases ns with
  | nil => rfl
  | cons a r =>
    cases r with
    | nil => rfl
    | cons b r => rfl

/-! ### readings, one step each -/
/-- what is wanted of an object's attribute -/
def FldP (K : PySem.W.Frag) (f : Str) (Q : VK) (x : V) (H : Hp) : Prop := ∃ a C dx fs v, x = .ref a ∧ H a = some (.ins C dx fs) ∧ Cls K C ∧ NoAttr K C f ∧ fs.lookup f = some v ∧ Q v H
/-- what is wanted of a new object -/
def NewO (Q : VK) (o : HO) (H : Hp) : Prop := ∀ p, H p = none → Q (.ref p) (upd H p o)
section
variable {K : PySem.W.Frag} {σ : L2.St} {H : Hp} {Q : VK} {QT : Bool → Hp → Prop} {QA : List V → Hp → Prop} {D : Ends} {E : XK}
variable {ta tb tc te tv : TE} {tt tu tw : TT} {t u : TS} {tr : TA} {r r' : R2} {v x y z : V} {i j : Nat}
theorem s_var (h : σ[i]? = some (some v)) (k : Q v H) : tVar i σ H Q := ⟨v, h, k⟩
theorem s_c (k : Q v H) : tC v σ H Q := k
theorem s_op (k : ta σ H fun x H1 => tb σ H1 fun y H2 => r x y H2 Q) : tOp r ta tb σ H Q := k
theorem s_un {r : V → Hp → VK → Prop} (k : ta σ H fun x H1 => r x H1 Q) : tUn r ta σ H Q := k
theorem s_test (k : te σ H fun x H' => ∃ k, x = .bl k ∧ QT k H') : tTest te σ H QT := k
theorem s_tb (k : te σ H fun x H' => ∃ k, x = .bl k ∧ QT k H') : tB te σ H QT := k
theorem s_not (k : tt σ H fun c H1 => QT (!c) H1) : tNot tt σ H QT := k
theorem s_and (k : tt σ H fun c H1 => if c = true then tu σ H1 QT else QT false H1) : tAnd tt tu σ H QT := k
theorem s_or (k : tt σ H fun c H1 => if c = true then QT true H1 else tu σ H1 QT) : tOr tt tu σ H QT := k
theorem s_andV (k : ta σ H fun x H1 => ∃ c, x = .bl c ∧ if c = true then tb σ H1 Q else Q (.bl false) H1) : tAndV ta tb σ H Q := k
theorem s_orV (k : ta σ H fun x H1 => ∃ c, x = .bl c ∧ if c = true then Q (.bl true) H1 else tb σ H1 Q) : tOrV ta tb σ H Q := k
theorem s_notV (k : ta σ H fun x H1 => ∃ c, x = .bl c ∧ Q (.bl (!c)) H1) : tNotV ta σ H Q := k
theorem s_ifE (k : tt σ H fun c H1 => if c = true then ta σ H1 Q else tb σ H1 Q) : tIf tt ta tb σ H Q := k
theorem s_chain (k : ta σ H fun x H1 => tb σ H1 fun y H2 => r x y H2 fun z H3 => ∃ k, z = .bl k ∧ (if k = true then tc σ H3 fun w' H4 => r' y w' H4 Q else Q (.bl false) H3)) : tChain r r' ta tb tc σ H Q := k
theorem s_seq (k : t { D with nx := u D } σ H) : tSeq t u D σ H := k
theorem s_next (k : D.nx σ H) : tNext D σ H := k
theorem s_drop (k : te σ H fun _ H1 => D.nx σ H1) : tDrop te D σ H := k
theorem s_ret (k : te σ H D.rt) : tRet te D σ H := k
theorem s_retN (k : D.rt .non H) : tRetN D σ H := k
theorem s_if (k : tt σ H fun b H1 => if b = true then t D σ H1 else u D σ H1) : tIfS tt t u D σ H := k
theorem s_asg {g : TG} (k : te σ H fun x H1 => g x σ H1 D.nx) : tAsg te g D σ H := k
theorem s_name {N : L2.St → Hp → Prop} (k : N (σ.set i (some v)) H) : gName i v σ H N := k
theorem s_sub {ts : TSet} {N : L2.St → Hp → Prop} (k : ta σ H fun o H1 => tb σ H1 fun i H2 => ts o i v H2 fun H3 => N σ H3) : gSub ta tb ts v σ H N := k
theorem s_par (k : tr σ H fun vs H1 => ∃ v w, vs = [v, w] ∧ D.nx ((σ.set i (some v)).set j (some w)) H1) : tPar i j tr D σ H := k
theorem s_nil (k : QA [] H) : tNil σ H QA := k
theorem s_cons (k : ta σ H fun x H1 => tr σ H1 fun xs H2 => QA (x :: xs) H2) : tCons ta tr σ H QA := k
theorem s_cb {r : List V → Hp → VK → Prop} (k : tr σ H fun vs H1 => r vs H1 Q) : tCB r tr σ H Q := k
theorem s_call {sp : Sp} (k : tr σ H fun vs H1 => sp vs H1 Q E) : tCall sp [] E tr σ H Q := by
  have e : (fun (vs : List V) (H1 : Hp) => sp (vs ++ []) H1 Q E) = fun vs H1 => sp vs H1 Q E := by
    funext vs H1
    rw [List.append_nil]
  unfold tCall
  rw [e]
  exact k
theorem s_lst0 (k : tr σ H fun xs H1 => xs.length ≤ sizeLine ∧ NewO Q (.lst xs) H1) : tLst tr σ H Q := k
theorem s_tup0 (k : tr σ H fun xs H1 => xs.length ≤ sizeLine ∧ NewO Q (.tup xs) H1) : tTup tr σ H Q := k
/-- a new object -/
theorem s_new {o : HO} (k : ∀ p H', H p = none → Ex H H' → H' p = some o → Q (.ref p) H') : ∀ p, H p = none → Q (.ref p) (upd H p o) := fun p hp => k p _ hp (Ex.new hp) upd_same
theorem s_len {xs : List V} {P : Prop} (h : xs.length ≤ 1000) (k : P) : xs.length ≤ sizeLine ∧ P := ⟨Nat.le_trans h (by decide), k⟩
theorem s_fld {f : Str} (k : ta σ H fun x H1 => FldP K f Q x H1) : tFld K ta f σ H Q := k
/-! values -/
theorem v_bl {b : Bool} (k : QT b H) : ∃ k, V.bl b = .bl k ∧ QT k H := ⟨b, rfl, k⟩
theorem r_i0 {g : Int → Int → V} {a b : Int} (k : Q (g a b) H) : rI0 g (.int a) (.int b) H Q := ⟨a, b, rfl, rfl, k⟩
theorem r_i {C : Int → Int → Prop} {g : Int → Int → V} {a b : Int} (c : C a b) (k : Q (g a b) H) : rI C g (.int a) (.int b) H Q := ⟨a, b, rfl, rfl, c, k⟩
theorem r_u {g : Int → V} {a : Int} (k : Q (g a) H) : rU g (.int a) H Q := ⟨a, rfl, k⟩
theorem r_eqI {a b : Int} (k : Q (.bl (decide (a = b))) H) : rEq (.int a) (.int b) H Q := ⟨rfl, by
  have e : decide (V.int a = V.int b) = decide (a = b) := by
    by_cases h : a = b
    · subst h
      simp
    · rw [decide_eq_false h, decide_eq_false (fun q => h (V.int.inj q))]
  rw [e]
  exact k⟩
theorem r_neI {a b : Int} (k : Q (.bl (!decide (a = b))) H) : rNe (.int a) (.int b) H Q := ⟨rfl, by
  have e : decide (V.int a = V.int b) = decide (a = b) := by
    by_cases h : a = b
    · subst h
      simp
    · rw [decide_eq_false h, decide_eq_false (fun q => h (V.int.inj q))]
  rw [e]
  exact k⟩
theorem r_eqB {a b : Bool} (k : Q (.bl (decide (a = b))) H) : rEq (.bl a) (.bl b) H Q := ⟨rfl, by
  have e : decide (V.bl a = V.bl b) = decide (a = b) := by cases a <;> cases b <;> decide
  rw [e]
  exact k⟩
theorem r_neB {a b : Bool} (k : Q (.bl (!decide (a = b))) H) : rNe (.bl a) (.bl b) H Q := ⟨rfl, by
  have e : decide (V.bl a = V.bl b) = decide (a = b) := by cases a <;> cases b <;> decide
  rw [e]
  exact k⟩
theorem r_ixL {p : Addr} {xs : List V} {n : Int} (h : SqL K H p xs) (ha : atI xs n = some v) (k : Q v H) : rIxL K (.ref p) (.int n) H Q := ⟨p, xs, n, v, rfl, rfl, h, ha, k⟩
theorem r_ixT {p : Addr} {xs : List V} {n : Int} (h : SqT K H p xs) (ha : atI xs n = some v) (k : Q v H) : rIxT K (.ref p) (.int n) H Q := ⟨p, xs, n, v, rfl, rfl, h, ha, k⟩
end
/-! tests -/
section
variable {A B : Prop}
theorem f_T {c : Prop} {dc : Decidable c} (h : c) (k : A) : if decide c = true then A else B := by
  rw [if_pos (decide_eq_true h)]
  exact k
theorem f_F {c : Prop} {dc : Decidable c} (h : ¬ c) (k : B) : if decide c = true then A else B := by
  rw [if_neg (by rw [decide_eq_false h]; decide)]
  exact k
theorem f_2 {c : Prop} {dc : Decidable c} (h1 : c → A) (h2 : ¬ c → B) : if decide c = true then A else B := by
  by_cases h : c
  · exact f_T h (h1 h)
  · exact f_F h (h2 h)
theorem f_b {b : Bool} (h1 : b = true → A) (h2 : b = false → B) : if b = true then A else B := by
  cases b with
  | true => exact iteT (h1 rfl)
  | false => exact iteF (h2 rfl)
theorem f_not {b : Bool} (k : if b = true then B else A) : if (!b) = true then A else B := by
  cases b with
  | true => exact k
  | false => exact k
theorem f_bT {b : Bool} (h : b = true) (k : A) : if b = true then A else B := by
  rw [if_pos h]
  exact k
theorem f_bF {b : Bool} (h : b = false) (k : B) : if b = true then A else B := by
  rw [h]
  exact iteF k
end
end Z
namespace Z
open PySem PySem.Spec PyProof.Rows L2
/-! ### bodies that may raise: what a call lets out leaves the body -/
section
variable {P : Program} {w : World} {K : PySem.W.Frag} {mg : Str → Option Value} {base : Heap} {N : List Str} {ql : Str} {sc : Scope} {f : Addr} {cd : Value} {A : Around} {outer : List Env} {s : Shared} {H : Hp} {E : XK}
theorem pT : Takes (cxOf (L2.CX P w) P w K mg base N ql sc f cd A outer s H E) (fun cls d _ H => E cls d H) := takes_of rfl rfl rfl rfl
theorem pX : Passes (L2.CX P w) (cxOf (L2.CX P w) P w K mg base N ql sc f cd A outer s H E) E := passes_call pT fun _ _ _ _ h => h
theorem pO : PassesOwn (model P w) (cxOf (L2.CX P w) P w K mg base N ql sc f cd A outer s H E).A (cxOf (L2.CX P w) P w K mg base N ql sc f cd A outer s H E).env (cxOf (L2.CX P w) P w K mg base N ql sc f cd A outer s H E).xe := passes_of rfl
end
/-! ### the pen -/
/-- a pen that may draw n times more -/
def PenAt (K : PySem.W.Frag) (H : Hp) (p : Addr) (n : Nat) : Prop := ∃ (l : Addr) (cs : List Int) (i j : Int), H p = some (.lst [.ref l, .int i, .int j]) ∧ H l = some (.lst (cs.map V.int)) ∧ 0 ≤ i ∧ i + n ≤ 1000000 ∧ cs.length ≤ 1000
theorem PenAt.ex {K : PySem.W.Frag} {H H' : Hp} {p : Addr} {n : Nat} (e : Ex H H') (h : PenAt K H p n) : PenAt K H' p n := by
  obtain ⟨l, cs, i, j, h1, h2, h3, h4, h5⟩ := h
  exact ⟨l, cs, i, j, e _ _ h1, e _ _ h2, h3, h4, h5⟩
theorem PenAt.mono {K : PySem.W.Frag} {H : Hp} {p : Addr} {n m : Nat} (h : PenAt K H p n) (hm : m ≤ n) : PenAt K H p m := by
  obtain ⟨l, cs, i, j, h1, h2, h3, h4, h5⟩ := h
  exact ⟨l, cs, i, j, h1, h2, h3, by omega, h5⟩
def spPen (K : PySem.W.Frag) : Sp := fun vs H Q _ => ∃ (a : Addr) (ns : List Int), vs = [.ref a] ∧ SqL K H a (ns.map V.int) ∧ ∀ p H', Ex H H' → PenAt K H' p 1000000 → Q (.ref p) H'
def spDraw (K : PySem.W.Frag) : Sp := fun vs H Q _ => ∃ (p : Addr) (m : Int) (n : Nat), vs = [.ref p, .int m] ∧ PenAt K H p (n + 1) ∧ 0 < m ∧ m.natAbs.log2 < 9000 ∧ ∀ r H', Gr H H' → PenAt K H' p n → 0 ≤ r → r < m → But p H H' → Q (.int r) H'
theorem Ex.bt {p : Addr} {H H' : Hp} (e : Ex H H') : But p H H' := fun a o _ h => e a o h
end Z
namespace Z
open PySem PySem.Spec PyProof.Rows L2
/-! ### readings with names -/
abbrev RC := List V → Hp → VK → Prop
def rInt1 : RC := fun xs H Q => (∃ i, xs = [.int i] ∧ Q (.int i) H) ∨ ∃ k, xs = [.bl k] ∧ Q (.int (if k then 1 else 0)) H
def rBool1 : RC := fun xs H Q => (∃ i, xs = [.int i] ∧ Q (.bl (i != 0)) H) ∨ ∃ k, xs = [.bl k] ∧ Q (.bl k) H
def rAbs : RC := fun xs H Q => ∃ i, xs = [.int i] ∧ Q (.int (if i < 0 then -i else i)) H
def rLenS (K : PySem.W.Frag) : RC := fun xs H Q => ∃ p ys, xs = [.ref p] ∧ (SqL K H p ys ∨ SqT K H p ys) ∧ Q (.int ys.length) H
def rListOf (K : PySem.W.Frag) : RC := fun xs H Q => ∃ p ys, xs = [.ref p] ∧ (SqL K H p ys ∨ SqT K H p ys) ∧ ∀ l, H l = none → Q (.ref l) (upd H l (.lst ys))
section
variable {X : Cx}
theorem zc_int : CallR X (.type "int") rInt1 := call_int1
theorem zc_bool : CallR X (.type "bool") rBool1 := call_bool1
theorem zc_abs : CallR X (.builtin "abs") rAbs := call_abs
theorem zc_len : CallR X (.builtin "len") (rLenS X.K) := call_len_seq
theorem zc_list : CallR X (.type "list") (rListOf X.K) := call_list_of
end
section
variable {K : PySem.W.Frag} {σ : L2.St} {H : Hp} {Q : VK} {QT : Bool → Hp → Prop} {QA : List V → Hp → Prop} {D : Ends} {E : XK} {te : TE} {tl th : TO} {tr : TA}
theorem r_intI {a : Int} (k : Q (.int a) H) : rInt1 [.int a] H Q := Or.inl ⟨a, rfl, k⟩
theorem r_intB {b : Bool} (k : Q (.int (if b then 1 else 0)) H) : rInt1 [.bl b] H Q := Or.inr ⟨b, rfl, k⟩
theorem r_boolI {a : Int} (k : Q (.bl (a != 0)) H) : rBool1 [.int a] H Q := Or.inl ⟨a, rfl, k⟩
theorem r_boolB {b : Bool} (k : Q (.bl b) H) : rBool1 [.bl b] H Q := Or.inr ⟨b, rfl, k⟩
theorem r_abs {a : Int} (k : Q (.int (if a < 0 then -a else a)) H) : rAbs [.int a] H Q := ⟨a, rfl, k⟩
theorem r_lenL {p : Addr} {ys : List V} (h : SqL K H p ys) (k : Q (.int ys.length) H) : rLenS K [.ref p] H Q := ⟨p, ys, rfl, Or.inl h, k⟩
theorem r_lenT {p : Addr} {ys : List V} (h : SqT K H p ys) (k : Q (.int ys.length) H) : rLenS K [.ref p] H Q := ⟨p, ys, rfl, Or.inr h, k⟩
theorem r_listL {p : Addr} {ys : List V} (h : SqL K H p ys) (k : ∀ l H', H l = none → Ex H H' → H' l = some (.lst ys) → Q (.ref l) H') : rListOf K [.ref p] H Q := ⟨p, ys, rfl, Or.inl h, s_new k⟩
theorem r_listT {p : Addr} {ys : List V} (h : SqT K H p ys) (k : ∀ l H', H l = none → Ex H H' → H' l = some (.lst ys) → Q (.ref l) H') : rListOf K [.ref p] H Q := ⟨p, ys, rfl, Or.inr h, s_new k⟩
theorem s_slc {r : V → Option Int → Option Int → Hp → VK → Prop} (k : te σ H fun x H1 => tl σ H1 fun l H2 => th σ H2 fun u H3 => r x l u H3 Q) : tSl r te tl th σ H Q := k
theorem s_noPart {QO : Option Int → Hp → Prop} (k : QO none H) : tNoPart σ H QO := k
theorem s_part {QO : Option Int → Hp → Prop} (k : te σ H fun x H1 => ∃ i, x = .int i ∧ QO (some i) H1) : tPart te σ H QO := k
theorem v_int {QO : Option Int → Hp → Prop} {a : Int} (k : QO (some a) H) : ∃ i, V.int a = .int i ∧ QO (some i) H := ⟨a, rfl, k⟩
theorem r_slL {p : Addr} {ys : List V} {lo hi : Option Int} (h : SqL K H p ys) (k : ∀ l H', H l = none → Ex H H' → H' l = some (.lst (cutV ys lo hi)) → Q (.ref l) H') : rSlL K (.ref p) lo hi H Q := ⟨p, ys, rfl, h, s_new k⟩
theorem v_pair {N : V → V → Hp → Prop} {a b : V} (k : N a b H) : ∃ v w, [a, b] = [v, w] ∧ N v w H := ⟨a, b, rfl, k⟩
theorem r_setL {p : Addr} {xs : List V} {n : Int} {j : Nat} {v : V} {N : Hp → Prop} (h : H p = some (.lst xs)) (hj : ixN xs.length n = some j) (k : ∀ H', But p H H' → H' p = some (.lst (xs.set j v)) → N H') : rSetL (.ref p) (.int n) v H N :=
  ⟨p, xs, n, j, rfl, rfl, h, hj, k _ But.upd upd_same⟩
theorem s_newN {xs : List V} {o : HO} (h : xs.length ≤ 1000) (k : ∀ p H', H p = none → Ex H H' → H' p = some o → Q (.ref p) H') : xs.length ≤ sizeLine ∧ NewO Q o H := ⟨Nat.le_trans h (by decide), s_new k⟩
end
end Z
namespace Z
open PySem PySem.Spec PyProof.Rows L2
theorem cut_upto {ns : List Int} {m : Nat} : cutV (ns.map V.int) none (some (m : Int)) = (ns.take m).map V.int := by
  unfold cutV
  have e1 : HT.sIx (ns.map V.int).length 0 none = 0 := rfl
  rw [e1]
  have e2 : HT.sIx (ns.map V.int).length (ns.map V.int).length (some (m : Int)) = min m ns.length := by
    simp [HT.sIx]
    omega
  rw [e2, List.drop_zero, Nat.sub_zero, List.map_take]
  by_cases h : m ≤ ns.length
  · rw [Nat.min_eq_left h]
  · rw [Nat.min_eq_right (by omega), List.take_of_length_le (by simp), List.take_of_length_le (by simp; omega)]
end Z
namespace Z
open PySem PySem.Spec PyProof.Rows L2
theorem But.gr {p l : Addr} {H H' : Hp} {i j i' j' : Int} (e : But p H H') (h : H p = some (.lst [.ref l, .int i, .int j])) (h' : H' p = some (.lst [.ref l, .int i', .int j'])) : Gr H H' := fun a u ha => by
  by_cases z : a = p
  · subst z
    rw [h] at ha
    cases ha
    exact ⟨_, _, h'⟩
  · rw [e a u z ha]
    exact penTo_self u
theorem PenAt.set {K : PySem.W.Frag} {H H' : Hp} {p l : Addr} {cs : List Int} {i j i' j' : Int} {n' : Nat} (h : H p = some (.lst [.ref l, .int i, .int j])) (hl : H l = some (.lst (cs.map V.int))) (hc : cs.length ≤ 1000) (e : But p H H')
    (h' : H' p = some (.lst [.ref l, .int i', .int j'])) (h1 : 0 ≤ i') (h2 : i' + n' ≤ 1000000) : Gr H H' ∧ PenAt K H' p n' := by
  have g := e.gr h h'
  exact ⟨g, l, cs, i', j', h', g.get hl (pen_ints _), h1, h2, hc⟩
/-- something that was not there when the pen was is changed -/
theorem PenAt.but {K : PySem.W.Frag} {H H1 H2 : Hp} {p q : Addr} {n0 n : Nat} (h0 : PenAt K H p n0) (g : Gr H H1) (h1 : PenAt K H1 p n) (hq : H q = none) (e : But q H1 H2) : PenAt K H2 p n := by
  obtain ⟨l, cs, i, j, a1, a2, _, _, _⟩ := h0
  obtain ⟨l', cs', i', j', b1, b2, b3, b4, b5⟩ := h1
  obtain ⟨i2, j2, c1⟩ := g p _ a1
  rw [b1] at c1
  have el : l' = l := by
    injection c1 with c2
    injection c2 with c3
    injection c3 with c4
    injection c4
  subst el
  exact ⟨l', cs', i', j', e _ _ (ne_of_none a1 hq) b1, e _ _ (ne_of_none a2 hq) b2, b3, b4, b5⟩
/-- .. and all else is as it was -/
theorem Gr.but {H H1 H2 : Hp} {q : Addr} (g : Gr H H1) (hq : H q = none) (e : But q H1 H2) : Gr H H2 := fun a o h => by
  have h1 := g a o h
  have ne : a ≠ q := ne_of_none h hq
  unfold penTo at h1 ⊢
  split at h1
  · obtain ⟨i, j, h2⟩ := h1
    exact ⟨i, j, e a _ ne h2⟩
  · exact e a _ ne h1
theorem pow_bound {x : Int} {a : Nat} (h0 : 0 ≤ x) (h1 : x < 2 ^ a) : x.natAbs < 2 ^ a := by
  have := Int.natAbs_of_nonneg h0
  have h2 : (x.natAbs : Int) < ((2 ^ a : Nat) : Int) := by rw [this]; simpa using h1
  exact Int.ofNat_lt.mp h2
end Z
namespace Z
open PySem PySem.Spec PyProof.Rows L2
theorem dp_ints {K : PySem.W.Frag} {H : Hp} : ∀ ns : List Int, DpAll K H (ns.map V.int) (ns.map PyData.int)
  | [] => .nil
  | a :: r => .cons (.int a) (dp_ints r)
theorem lay_ints : ∀ ns : List Int, PyData.canLayAll0 (ns.map PyData.int) = true
  | [] => rfl
  | a :: r => by
    show (true && PyData.canLayAll0 (r.map PyData.int)) = true
    rw [lay_ints r]
    rfl
theorem deep_ints : ∀ ns : List Int, PyData.depthAll (ns.map PyData.int) = 0
  | [] => rfl
  | a :: r => by
    show max 0 (PyData.depthAll (r.map PyData.int)) = 0
    rw [deep_ints r]
    rfl
theorem shaped_ints (ns : List Int) : SeqAt.shaped (.list (ns.map PyData.int)) = true := by
  unfold SeqAt.shaped
  have e1 : (PyData.list (ns.map PyData.int)).canLay0 = true := lay_ints ns
  have e2 : (PyData.list (ns.map PyData.int)).depth = 1 := by
    show PyData.depthAll (ns.map PyData.int) + 1 = 1
    rw [deep_ints]
  rw [e1, e2]
  rfl
theorem eqvAll_ints : ∀ as bs : List Int, PyData.eqvAll (as.map PyData.int) (bs.map PyData.int) = decide (as = bs)
  | [], [] => by simp [PyData.eqvAll]
  | [], b :: s => by simp [PyData.eqvAll]
  | a :: r, [] => by simp [PyData.eqvAll]
  | a :: r, b :: s => by
    have ih := eqvAll_ints r s
    simp only [List.map_cons, PyData.eqvAll, PyData.eqv, ih, List.cons.injEq]
    by_cases h1 : a = b <;> by_cases h2 : r = s <;> simp [h1, h2]
theorem eqv_ints (as bs : List Int) : PyData.eqv (.list (as.map PyData.int)) (.list (bs.map PyData.int)) = decide (as = bs) := by
  have h := eqvAll_ints as bs
  simp only [PyData.eqv]
  exact h
section
variable {K : PySem.W.Frag} {H : Hp} {Q : VK} {p q : Addr} {as bs : List Int}
theorem r_eqL (h1 : SqL K H p (as.map V.int)) (h2 : SqL K H q (bs.map V.int)) (k : Q (.bl (decide (as = bs))) H) : rEqD K (.ref p) (.ref q) H Q :=
  ⟨_, _, .lst h1 (dp_ints as), .lst h2 (dp_ints bs), shaped_ints as, shaped_ints bs, by rw [eqv_ints]; exact k⟩
theorem r_neL (h1 : SqL K H p (as.map V.int)) (h2 : SqL K H q (bs.map V.int)) (k : Q (.bl (!decide (as = bs))) H) : rNeD K (.ref p) (.ref q) H Q :=
  ⟨_, _, .lst h1 (dp_ints as), .lst h2 (dp_ints bs), shaped_ints as, shaped_ints bs, by rw [eqv_ints]; exact k⟩
end
end Z
namespace Z
open PySem PySem.Spec PyProof.Rows L2
section
variable {K : PySem.W.Frag} {H : Hp} {Q : VK} {p q : Addr} {as bs : List Int}
theorem r_eqL0 (h1 : SqL K H p (as.map V.int)) (h2 : SqL K H q []) (k : Q (.bl (decide (as = []))) H) : rEqD K (.ref p) (.ref q) H Q := r_eqL (bs := []) h1 h2 k
theorem r_neL0 (h1 : SqL K H p (as.map V.int)) (h2 : SqL K H q []) (k : Q (.bl (!decide (as = []))) H) : rNeD K (.ref p) (.ref q) H Q := r_neL (bs := []) h1 h2 k
end
theorem atI_lt {xs : List V} {k : Int} (h0 : 0 ≤ k) (h1 : k < xs.length) : atI xs k = some (xs[k.toNat]'(by omega)) := by
  unfold atI ixN
  rw [if_pos (by omega), if_pos (by omega)]
  simp only [Option.bind_some]
  exact List.getElem?_eq_getElem _
theorem atI_ints {cs : List Int} {k : Int} (h0 : 0 ≤ k) (h1 : k < cs.length) : atI (cs.map V.int) k = some (.int (cs[k.toNat]'(by omega))) := by
  rw [atI_lt h0 (by simpa using h1)]
  simp
end Z

/-! Z: what the head tells: function objects by paths, and a list of truths. -/
namespace Z
open PySem PySem.Spec PyProof.Rows L2 He

/-- a def of the text: where its function object stands, its names, its statement, its defaults -/
structure Fn where
  ad : PySem.W.Frag → Addr
  nm : Str
  ql : Str
  st : Stmt
  df : List Dv := []
  kd : List (Str × Dv) := []
  er : Bool := false
def fnAt (K : PySem.W.Frag) (a : Addr) : FnW :=
  (K.lookup a).bind fun o => match o.data with
    | .func d => some (d.name, d.qualname, d.params, d.body, d.scope, d.globals, d.closure, d.builtins)
    | _ => none
/-- the same without the closure (an error's __init__) -/
def fnAtE (K : PySem.W.Frag) (a : Addr) : FnW := (K.lookup a).bind fun o => match o.data with
  | .func d => some (d.name, d.qualname, d.params, d.body, d.scope, d.globals, [], d.builtins)
  | _ => none
def Fn.at_ (f : Fn) (K : PySem.W.Frag) : FnW := if f.er then fnAtE K (f.ad K) else fnAt K (f.ad K)
def Fn.due (f : Fn) : FnW := some (f.nm, f.ql, defArgs f.st, .stmts (defBody f.st), defScope f.st, mainGlobals, [], builtinsNs)
def Fn.vs (f : Fn) (K : PySem.W.Frag) : List V := f.df.map (Dv.v K)
def Fn.ks (f : Fn) (K : PySem.W.Frag) : List (Str × V) := f.kd.map fun q => (q.1, q.2.v K)
def Fn.good (f : Fn) (K : PySem.W.Frag) : Bool := f.er || PySem.W.keepIn K (.ref (f.ad K)) && match (K.lookup (f.ad K)).map (fun o : Obj => o.data) with
  | some (PySem.Data.func d) => PySem.W.codeIn K d.code f.ql && (dflB K d.defaults (f.vs K) && kwdB K d.kwdefaults (f.ks K))
  | _ => false
theorem Fn.fun (f : Fn) {K : PySem.W.Frag} (e : fnAt K (f.ad K) = f.due) (c : f.good K = true) (he : f.er = false) :
    ∃ d, FunD K f.nm f.ql (defArgs f.st) (defBody f.st) (defScope f.st) (f.vs K) (f.ks K) (f.ad K) d := by
  unfold Fn.good at c
  rw [he, Bool.false_or] at c
  obtain ⟨kp, c⟩ := Bool.and_eq_true_iff.mp c
  unfold fnAt at e
  cases q : K.lookup (f.ad K) with
  | none =>
    rw [q] at c
    cases c
  | some o =>
    obtain ⟨oc, od, dt, osl⟩ := o
    rw [q] at c e
    cases dt with
    | func d =>
      obtain ⟨n1, n2, n3, n4, n5, n6, n7, n8, n9, n10, n11, n12, n13, n14, n15⟩ := d
      have e2 : some (n1, n2, n3, n4, n5, n6, n7, n15) = f.due := e
      unfold Fn.due at e2
      simp only [Option.some.injEq, Prod.mk.injEq] at e2
      obtain ⟨h1, h2, h3, h4, h5, h6, h7, h8⟩ := e2
      subst h1 h2 h3 h4 h5 h6 h7 h8
      obtain ⟨k1, k2⟩ := Bool.and_eq_true_iff.mp (show (PySem.W.codeIn K n13 f.ql && (dflB K n8 (f.vs K) && kwdB K n9 (f.ks K))) = true from c)
      obtain ⟨k3, k4⟩ := Bool.and_eq_true_iff.mp k2
      exact ⟨_, ⟨oc, od, n8, n9, n10, n11, n12, n13, n14, osl, rfl, q, k1, dflB_ok k3, kwdB_ok k4⟩, kp⟩
    | _ => cases c
/-- what is told of the written part -/
structure Says (fs : List Fn) (ex : PySem.W.Frag → List Bool) (K : PySem.W.Frag) : Prop where
  fn : fs.map (fun f => f.at_ K) = fs.map Fn.due
  ok : (fs.all fun f => f.good K) = true
  ex : ((ex K).all fun b => b) = true
theorem Says.def_ {fs : List Fn} {ex : PySem.W.Frag → List Bool} {K : PySem.W.Frag} (c : Says fs ex K) (i : Nat) {f : Fn} (h : fs[i]? = some f := by rfl) (he : f.er = false := by rfl) :
    ∃ d, FunD K f.nm f.ql (defArgs f.st) (defBody f.st) (defScope f.st) (f.vs K) (f.ks K) (f.ad K) d := by
  have e := congrArg (fun l => l[i]?) c.fn
  simp only [List.getElem?_map, h, Option.map_some, Option.some.injEq] at e
  unfold Fn.at_ at e
  rw [he] at e
  exact f.fun e (List.all_eq_true.mp c.ok f (List.mem_of_getElem? h)) he
theorem Says.err_ {fs : List Fn} {ex : PySem.W.Frag → List Bool} {K : PySem.W.Frag} (c : Says fs ex K) (i : Nat) {f : Fn} (h : fs[i]? = some f := by rfl) (he : f.er = true := by rfl) : fnAtE K (f.ad K) = f.due := by
  have e := congrArg (fun l => l[i]?) c.fn
  simp only [List.getElem?_map, h, Option.map_some, Option.some.injEq] at e
  unfold Fn.at_ at e
  rw [he] at e
  exact e
theorem Says.at_ {fs : List Fn} {ex : PySem.W.Frag → List Bool} {K : PySem.W.Frag} (c : Says fs ex K) (i : Nat) {b : Bool} (h : (ex K)[i]? = some b := by rfl) : b = true :=
  List.all_eq_true.mp c.ex b (List.mem_of_getElem? h)
theorem Says.dec {fs : List Fn} {ex : PySem.W.Frag → List Bool} {K : PySem.W.Frag} (c : Says fs ex K) (i : Nat) {p : Prop} {dp : Decidable p} (h : (ex K)[i]? = some (@decide p dp) := by rfl) : p :=
  of_decide_eq_true (c.at_ i h)
abbrev Al : Type := List FnW × (Bool × Bool)
def obs (n : Nat) (fs : List Fn) (ex : PySem.W.Frag → List Bool) (g : Addr → Option Obj) : Al :=
  (fs.map (fun f => f.at_ (frG g (PySem.cStatics :: asD g n))), (fs.all fun f => f.good (frG g (PySem.cStatics :: asD g n))), (ex (frG g (PySem.cStatics :: asD g n))).all fun b => b)
def val (fs : List Fn) : Al := (fs.map Fn.due, true, true)
def hook (n : Nat) (fs : List Fn) (ex : PySem.W.Frag → List Bool) : PySem.W.Hook where
  α := Al
  obs := fun s => obs n fs ex s.heap.get?
  val := fun _ => val fs
  says := fun _ h => ∃ K : PySem.W.Frag, K.In h ∧ Says fs ex K
  of := fun _ _ e => ⟨_, frG_in, ⟨congrArg (·.1) e, congrArg (·.2.1) e, congrArg (·.2.2) e⟩⟩
  keeps := fun _ _ _ ⟨K, hK, c⟩ k => ⟨K, PySem.W.Frag.In.keeps hK k, c⟩
theorem obs_eq {n : Nat} {fs : List Fn} {ex : PySem.W.Frag → List Bool} {g : Addr → Option Obj} {s : Shared} (h : ∀ a, g a = s.heap.get? a) : obs n fs ex g = (hook n fs ex).obs s := by
  have e : g = s.heap.get? := funext h
  rw [e]
  rfl
/-- the object that a record names first -/
def recAd (K : PySem.W.Frag) (p : Addr) (T : String) : Addr := match PySem.W.recIn K p T with
  | some (.ref g :: _) => g
  | _ => 0
end Z

/-! Z: operators of own classes, by their methods' promises. -/
namespace Z
open PySem PySem.Spec PyProof.Rows L2
section
variable {X : Cx} {CX : CXT} {k : Nat} {C f : Addr} {fd : FuncData} {ps : List Str} {sp : Sp} {E : XK}
/-- the instance at a, as the library sees it -/
theorem ins_look {pins : List (Addr × Obj)} {σ : L2.St} {H : Hp} {s : Shared} {a dx : Addr} {fs : List (Str × V)} (I : Inv X pins σ H s) (e : H a = some (.ins C dx fs)) :
    ∃ ox od, PySem.W.InstAt s.heap a ox C od := by
  obtain ⟨mA, o, _⟩ := ins_get I.hok e
  obtain ⟨od, h, _⟩ := o.look
  exact ⟨_, _, h⟩
theorem back_of {pins : List (Addr × Obj)} {σ : L2.St} {Q : VK} {v : Value} {s : Shared} (h : EP X pins σ Q v s) : PySem.W.CmpBack (EP X pins σ Q) v s := by
  cases v with
  | notImplemented =>
    obtain ⟨x, H', _, r, _⟩ := h
    cases x <;> first | exact nomatch r | (obtain ⟨_, r⟩ := r; exact nomatch r)
  | _ => exact h
/-- a op b, two instances of the class at C -/
def rOO (C : Addr) (sp : Sp) (E : XK) : R2 := fun x y H Q => ∃ a b dx dy fs gs, x = .ref a ∧ y = .ref b ∧ H a = some (.ins C dx fs) ∧ H b = some (.ins C dy gs) ∧ sp [.ref a, .ref b] H Q E
theorem op_oo {op : Operator} (hc : PySem.W.selfFirst X.K C = true) (hs : PySem.W.findIn X.K (.ref C) (PySem.dunder op.info.2) = some (some (.ref f))) (hf : PySem.W.isFn X.K (.ref f) = true)
    (F : FnOk X.prog X.w X.K X.mg X.base CX k f fd ps sp) (hr : Room k X.A) (hb : Binds X.K fd ps []) (hx : Passes CX X E) : OpR X (binaryOp op) (rOO C sp E) := by
  intro pins s σ H x y v u Q I rx ry h
  obtain ⟨a, b, dx, dy, fs, gs, rfl, rfl, ha, hb2, hsp⟩ := h
  obtain rfl : v = Value.ref a := rx
  obtain rfl : u = Value.ref b := ry
  obtain ⟨ox, od, i1⟩ := ins_look I ha
  obtain ⟨oy, oe, i2⟩ := ins_look I hb2
  obtain ⟨m, fr⟩ := I.fr
  refine PySem.W.binop_K fr I.ok.mod.kin i1 i2.type hc hs hf (wpAny_mono (run_fn (vs := [.ref a, .ref b]) F hr hb .nil hx I (.cons rfl (.cons rfl .nil)) (by simpa using hsp)) (fun _ _ q => back_of q) fun _ _ q => q)
/-- a op n, an instance and an int -/
def rOI (C : Addr) (sp : Sp) (E : XK) : R2 := fun x y H Q => ∃ a n dx fs, x = .ref a ∧ y = .int n ∧ H a = some (.ins C dx fs) ∧ sp [.ref a, .int n] H Q E
theorem op_oi {op : Operator} {rc : Option Value} (hc : PySem.W.selfFirst X.K C = true) (hs : PySem.W.findIn X.K (.ref C) (PySem.dunder op.info.2) = some (some (.ref f))) (hf : PySem.W.isFn X.K (.ref f) = true)
    (hr2 : PySem.W.findIn X.K (.ref C) (dunderR op.info.2) = some rc) (hp : rc = none ∨ ∃ g : Addr, rc = some (.ref g)) (h1 : (PySem.W.findIn X.K (.type "int") (PySem.dunder op.info.2)).isSome = true) (h2 : (PySem.W.findIn X.K (.type "int") (dunderR op.info.2)).isSome = true)
    (hsub : PySem.W.subIn X.K (.type "int") (.ref C) = some false)
    (F : FnOk X.prog X.w X.K X.mg X.base CX k f fd ps sp) (hr : Room k X.A) (hb : Binds X.K fd ps []) (hx : Passes CX X E) : OpR X (binaryOp op) (rOI C sp E) := by
  intro pins s σ H x y v u Q I rx ry h
  obtain ⟨a, n, dx, fs, rfl, rfl, ha, hsp⟩ := h
  obtain rfl : v = Value.ref a := rx
  obtain ⟨t, rfl⟩ : ∃ t, u = Value.int n t := ry
  obtain ⟨ox, od, i1⟩ := ins_look I ha
  obtain ⟨m, fr⟩ := I.fr
  refine PySem.W.ksp_binT fr I.ok.mod.kin i1 rfl hc hs hf hr2 hp (Option.isSome_iff_exists.mp h1).choose_spec (Option.isSome_iff_exists.mp h2).choose_spec hsub (wpAny_mono (run_fn (vs := [.ref a, .int n]) F hr hb .nil hx I (.cons rfl (.cons ⟨t, rfl⟩ .nil)) (by simpa using hsp)) (fun _ _ q => back_of q) fun _ _ q => q)
/-- a cmp b, two instances -/
theorem op_cc {op : CmpOp} (hop : ∀ a b, compareOp op a b = richCompare op a b) (hs : PySem.W.findIn X.K (.ref C) (cmpInfo op).2.1 = some (some (.ref f))) (hf : PySem.W.isFn X.K (.ref f) = true)
    (F : FnOk X.prog X.w X.K X.mg X.base CX k f fd ps sp) (hr : Room k X.A) (hb : Binds X.K fd ps []) (hx : Passes CX X E) : OpR X (compareOp op) (rOO C sp E) := by
  intro pins s σ H x y v u Q I rx ry h
  obtain ⟨a, b, dx, dy, fs, gs, rfl, rfl, ha, hb2, hsp⟩ := h
  obtain rfl : v = Value.ref a := rx
  obtain rfl : u = Value.ref b := ry
  obtain ⟨ox, od, i1⟩ := ins_look I ha
  obtain ⟨oy, oe, i2⟩ := ins_look I hb2
  obtain ⟨m, fr⟩ := I.fr
  rw [hop]
  have hu := hr.un
  refine PySem.W.cmp_K (by omega) fr I.ok.mod.kin i1 i2.type (by unfold PySem.W.notFirst; simp) hs hf (wpAny_mono (run_fn (vs := [.ref a, .ref b]) F hr hb .nil hx I (.cons rfl (.cons rfl .nil)) (by simpa using hsp)) (fun _ _ q => back_of q) fun _ _ q => q)
/-- ~a -/
def rO1 (C : Addr) (sp : Sp) (E : XK) : V → Hp → VK → Prop := fun x H Q => ∃ a dx fs, x = .ref a ∧ H a = some (.ins C dx fs) ∧ sp [.ref a] H Q E
theorem un_inv_o (hs : PySem.W.findIn X.K (.ref C) "__invert__" = some (some (.ref f))) (hf : PySem.W.isFn X.K (.ref f) = true)
    (F : FnOk X.prog X.w X.K X.mg X.base CX k f fd ps sp) (hr : Room k X.A) (hb : Binds X.K fd ps []) (hx : Passes CX X E) : UnR X (unaryOp .Invert) (rO1 C sp E) := by
  intro pins s σ H x v Q I rx h
  obtain ⟨a, dx, fs, rfl, ha, hsp⟩ := h
  obtain rfl : v = Value.ref a := rx
  obtain ⟨ox, od, i1⟩ := ins_look I ha
  obtain ⟨m, fr⟩ := I.fr
  exact PySem.W.ksp_inv fr I.ok.mod.kin i1 hs hf (run_fn (vs := [.ref a]) F hr hb .nil hx I (.cons rfl .nil) (by simpa using hsp))
end
end Z
namespace Z
open PySem PySem.Spec PyProof.Rows L2
open AutoSeq1 (wpAny_loadPart')
abbrev Declines (B : Builtin) : Prop := ∀ (b : Int) (u : Tok) (l C : Addr) (dx : Option Addr) (sl : Array (Option Value)),
    Meets (B ⟨[.int b u, .ref l], []⟩) (fun _ R s => s.heap.get? l = some { cls := .ref C, dict := dx, data := .plain, slots := sl } ∧ R (.ok (.ret .notImplemented)) s)
theorem no_mul : Declines Builtin.«int.__mul__» := fun b u l C dx sl => .of_wp fun prog w A R s h => by
  obtain ⟨hp, g, d, tk, os⟩ := s
  obtain ⟨hl, h⟩ := h
  wp_walk using wpAny_loadPart' hl, wpAny_load hl
  exact ⟨_, rfl, h⟩
theorem no_add : Declines Builtin.«int.__add__» := fun b u l C dx sl => .of_wp fun prog w A R s h => by
  obtain ⟨hp, g, d, tk, os⟩ := s
  obtain ⟨hl, h⟩ := h
  wp_walk using wpAny_loadPart' hl, wpAny_load hl
  exact ⟨_, rfl, h⟩
theorem no_sub : Declines Builtin.«int.__sub__» := fun b u l C dx sl => .of_wp fun prog w A R s h => by
  obtain ⟨hp, g, d, tk, os⟩ := s
  obtain ⟨hl, h⟩ := h
  wp_walk using wpAny_loadPart' hl, wpAny_load hl
  exact ⟨_, rfl, h⟩
theorem no_xor : Declines Builtin.«int.__xor__» := fun b u l C dx sl => .of_wp fun prog w A R s h => by
  obtain ⟨hp, g, d, tk, os⟩ := s
  obtain ⟨hl, h⟩ := h
  wp_walk using wpAny_loadPart' hl, wpAny_load hl
  exact ⟨_, rfl, h⟩

/-- n op b, an int and an instance: the instance's reflected method -/
def rIO (C : Addr) (sp : Sp) (E : XK) : R2 := fun x y H Q => ∃ n b dx fs, x = .int n ∧ y = .ref b ∧ H b = some (.ins C dx fs) ∧ sp [.ref b, .int n] H Q E
section
variable {X : Cx} {CX : CXT} {k : Nat} {C f f0 : Addr} {fd : FuncData} {ps : List Str} {sp : Sp} {E : XK}
theorem op_io {op : Operator} {idl : String} {B : Builtin} (slot : Slot "int" (PySem.dunder op.info.2) idl) (entry : entryFor table idl = some B) (args : ∀ a b, argsOk idl ⟨[a, b], []⟩) (no : Declines B)
    (fi : fillsNumberSlot (.type "int") op.info.2 = pure true) (hc : PySem.W.selfFirst X.K C = true)
    (hs : PySem.W.findIn X.K (.ref C) (dunderR op.info.2) = some (some (.ref f))) (h0 : PySem.W.findIn X.K (.ref C) (PySem.dunder op.info.2) = some (some (.ref f0))) (hf : PySem.W.isFn X.K (.ref f) = true)
    (hsub : PySem.W.subIn X.K (.ref C) (.type "int") = some false)
    (F : FnOk X.prog X.w X.K X.mg X.base CX k f fd ps sp) (hr : Room k X.A) (hb : Binds X.K fd ps []) (hx : Passes CX X E) : OpR X (binaryOp op) (rIO C sp E) := by
  intro pins s σ H x y v u Q I rx ry h
  obtain ⟨n, b, dx, fs, rfl, rfl, hb1, hsp⟩ := h
  obtain rfl : u = Value.ref b := ry
  obtain ⟨t, rfl⟩ : ∃ t, v = Value.int n t := rx
  obtain ⟨mA, o, _⟩ := ins_get I.hok hb1
  obtain ⟨od, i1, _⟩ := o.look
  have X1 : X.K.In s.heap := I.kIn
  obtain ⟨cd, rest, hcd, hm⟩ := PySem.W.ksp_first hc
  have two := wpAny_mono (run_fn (vs := [.ref b, .int n]) F hr hb .nil hx I (.cons rfl (.cons ⟨t, rfl⟩ .nil)) (by simpa using hsp)) (fun _ _ q => back_of q) fun _ _ q => q
  rcases hi : op.info with ⟨sym, nm⟩
  rw [hi] at slot fi hs h0
  dsimp only at slot fi hs h0
  have one := PySem.W.ksp_try X1 i1 hs hf two
  obtain ⟨hh, g, d, tt, os⟩ := s
  have L2' : PySem.W.Looks (model X.prog X.w) hh (typeOf (.ref b)) (.ref C) := i1.type
  have L4 : PySem.W.Looks (model X.prog X.w) hh (fillsNumberSlot (.ref C) nm) true := PySem.W.fills_K X1 hcd hm h0
  have L5 : PySem.W.Looks (model X.prog X.w) hh (isSubtype (.ref C) (.type "int")) false := PySem.W.looks_subIn X1 hsub
  have L7 : PySem.W.Looks (model X.prog X.w) hh (numberSlotInPython (.type "int") nm) false := PySem.W.Looks.of_pure rfl
  have hne : (Value.type "int" == Value.ref C) = false := Bool.eq_false_iff.mpr fun q => by cases beq_iff_eq.mp q
  simp only [binaryOp, hi]
  refine wpAny_holding (wpAny_bind ?_)
  unfold binaryOp1
  refine wpAny_bind (wpAny_of_eq (show typeOf (.int n t) = pure (.type "int") from rfl) (wpAny_bind (L2'.at (wpAny_bind (wpAny_of_eq fi ?_)))))
  simp only [hne, Bool.false_eq_true, if_false]
  refine wpAny_bind (L4.at ?_)
  simp only [Bool.and_true, if_true, Bool.true_and]
  refine wpAny_bind (L5.at ?_)
  simp only [Bool.false_eq_true, if_false, Bool.not_false, if_true]
  refine wpAny_bind (L7.at ?_)
  simp only [Bool.false_eq_true, if_false]
  refine wpAny_bind (wpAny_tryMethod_declines (typeIs_int _ n t) slot (call_meets slot (typeIs_int _ n t) entry (args _ _) (no n t b C (some dx) #[]) ⟨o.obj, rfl, ?_⟩))
  simp only []
  refine wpAny_bind (wpAny_mono one (fun r s' hr' => ?_) fun _ _ e => e)
  obtain ⟨v, rfl, hq⟩ := hr'
  ksp_lk
  exact hq
end
end Z

namespace Z
open PySem PySem.Spec PyProof.Rows L2
/-! ### C.m(..), m a static method -/
structure SMet (K : PySem.W.Frag) (C : Addr) (m : Str) (p g : Addr) : Prop where
  rd : PySem.W.readsIn K C (.type "type") = true
  ga : PySem.W.specialIn K (.ref C) "__getattribute__" = some (some (.builtin "type.__getattribute__"))
  to : PySem.W.findCls K (.ref C) (.type "type") m = some (.get (.builtin "staticmethod.__get__") (.ref p) .none (.ref C))
  rc : (PySem.W.recIn K p "staticmethod").bind List.head? = some (.ref g)
  kp : PySem.W.keepIn K (.ref g) = true
def tSM (C : Addr) (sp : Sp) (E : XK) (ta : TE) (t : TA) : TE := fun σ H Q => ta σ H fun x H1 => x = .ref C ∧ t σ H1 fun vs H2 => sp vs H2 Q E
section
variable {X : Cx} {CX : CXT} {k : Nat} {C p g : Addr} {fd : FuncData} {ps : List Str} {sp : Sp} {E : XK} {o e : Expr} {es : List Expr} {m : Str} {pos apos : Pos} {ta : TE} {t : TA} {pl : Sem Bool}
theorem pe_sm (he : PE X o ta) (c : SMet X.K C m p g) (F : FnOk X.prog X.w X.K X.mg X.base CX k g fd ps sp) (hr : Room k X.A) (hb : Binds X.K fd ps []) (hx : Passes CX X E) (ha : PA X (e :: es) t)
    (hst : starEach (e :: es) X.env = (false, eval e X.env) :: starEach es X.env := by rfl) (hpl : (backTo pos (starEach es X.env)).any (·.1) = false := by rfl)
    (ht : eval (.Call (.Attribute o m apos) (e :: es) [] pos) X.env = (eval o X.env >>= fun ov => standAt apos.atName >>= fun _ => holding [ov] (getMethod ov m pl) >>= fun q => callWith pos q.1 q.2 (backTo pos (starEach (e :: es) X.env)) (backToKw pos (keywordEach [] X.env))) := by rfl) :
    PE X (.Call (.Attribute o m apos) (e :: es) [] pos) (tSM C sp E ta t) := by
  refine ⟨fun pins s σ H Q I h => ?_⟩
  refine PySem.W.methodCall_KW (pl := pl) (thn (he.run pins s σ H _ I h) fun u s1 ⟨x, H1, I1, rx, ex, q⟩ => ?_) ht
  subst ex
  obtain rfl : u = Value.ref C := rx
  have hrc := c.rc
  cases hq : PySem.W.recIn X.K p "staticmethod" with
  | none =>
    rw [hq] at hrc
    cases hrc
  | some l =>
    cases l with
    | nil =>
      rw [hq] at hrc
      cases hrc
    | cons a r =>
      rw [hq] at hrc
      obtain rfl : a = Value.ref g := Option.some.inj hrc
      refine PySem.W.method_cls I1.kIn c.ga (PySem.W.cls_bind I1.kIn c.rd c.to (wpAny_call (PySem.W.sm_get (s := { s1 with toks := s1.toks + 1 }) I1.kIn hq (PySem.W.handed_on rfl ?_))))
      refine PySem.W.callWith_K (h₀ := X.base) I1.ok.mod.kin c.kp (thn (ha.run pos pins _ σ H1 _ (I1.tok _) q) fun us s3 ⟨vs, H2, I3, rv, q2⟩ => ⟨I3.kIn, ?_⟩) hst hpl
      exact run_fn F hr hb .nil hx I3 rv (by simpa using q2)
end
/-! ### what isinstance tells of values -/
def isI : V → Bool
  | .int _ => true
  | _ => false
/-- the class of v is known, and it is that of ints just if v is one -/
def KI (K : PySem.W.Frag) (H : Hp) (v : V) : Prop := ∃ t b1 b2, TyX K H v t ∧ PySem.W.kitOne K t (.type "int") = some b1 ∧ PySem.W.kitOne K t (.type "bool") = some b2 ∧ isI v = (b1 && !b2)
theorem ki_int {K : PySem.W.Frag} {H : Hp} (i : Int) : KI K H (.int i) := ⟨_, true, false, .base (.int i), kit_ty (by decide +kernel), kit_ty (by decide +kernel), rfl⟩
theorem ki_bl {K : PySem.W.Frag} {H : Hp} (i : Bool) : KI K H (.bl i) := ⟨_, true, true, .base (.bl i), kit_ty (by decide +kernel), kit_ty (by decide +kernel), rfl⟩
theorem ki_non {K : PySem.W.Frag} {H : Hp} : KI K H .non := ⟨_, false, false, .base .non, kit_ty (by decide +kernel), kit_ty (by decide +kernel), rfl⟩
theorem ki_str {K : PySem.W.Frag} {H : Hp} (i : Str) : KI K H (.str i) := ⟨_, false, false, .base (.str i), kit_ty (by decide +kernel), kit_ty (by decide +kernel), rfl⟩
def btw (v : V) (lo hi : Int) : Bool := match v with
  | .int i => decide (lo ≤ i) && decide (i ≤ hi)
  | _ => false
def spIsI (K : PySem.W.Frag) : Sp := fun vs H Q _ => ∃ v, vs = [v] ∧ KI K H v ∧ Q (.bl (isI v)) H
def spBtw (K : PySem.W.Frag) : Sp := fun vs H Q _ => ∃ v lo hi, vs = [v, .int lo, .int hi] ∧ KI K H v ∧ Q (.bl (btw v lo hi)) H
theorem r_isi {K : PySem.W.Frag} {H : Hp} {Q : VK} {x : V} {n : String} {t : Value} {b : Bool} (h : TyX K H x t) (hk : PySem.W.kitOne K t (.type n) = some b) (k : Q (.bl b) H) : rIsi K [x, .ty n] H Q := ⟨x, .ty n, t, .type n, b, rfl, .ty n, h, hk, k⟩
theorem r_isiC {K : PySem.W.Frag} {H : Hp} {Q : VK} {x : V} {C : Addr} {t : Value} {b : Bool} (h : TyX K H x t) (hk : PySem.W.kitOne K t (.ref C) = some b) (k : Q (.bl b) H) : rIsi K [x, .ref C] H Q := ⟨x, .ref C, t, .ref C, b, rfl, .own C, h, hk, k⟩
end Z

namespace Z
open PySem PySem.Spec PyProof.Rows L2
def rNeNil : R2 := fun x y H Q => ∃ l b xs, x = .ref l ∧ y = .ref b ∧ H l = some (.lst xs) ∧ H b = some (.lst []) ∧ Q (.bl (!xs.isEmpty)) H
theorem op_neNil {X : Cx} (hu : X.A.units < cLine) : OpR X (compareOp .NotEq) rNeNil := by
  intro pins s σ H x y v u Q I rx ry h
  obtain ⟨l, b, xs, rfl, rfl, hl, hb, q⟩ := h
  obtain rfl : v = Value.ref l := rx
  obtain rfl : u = Value.ref b := ry
  obtain ⟨_, its, n, r, e1⟩ := I.hok l _ hl
  obtain ⟨_, its2, n2, r2, e2⟩ := I.hok b _ hb
  cases r2
  show wpAny _ _ (richCompare .NotEq (.ref l) (.ref b)) _ _ _
  cases r with
  | nil =>
    refine wpAny_richCompare_same_room (op := .NotEq) ⟨_, e1, rfl⟩ ⟨_, e2, rfl⟩ F.slot_list_ne (call_meets F.slot_list_ne ⟨_, e1, rfl⟩ F.entry_list_ne (F.args_list_ne_2 _ _) (SeqAt.list_neAt l b #[] #[] n n2 none none #[] #[] rfl (fun _ => true)) ⟨e1, e2, fun j h1 _ => absurd h1 (by simp), ?_⟩) hu
    exact ⟨nofun, .bl false, H, I, rfl, q⟩
  | cons r0 rs =>
    refine wpAny_richCompare_same_room (op := .NotEq) ⟨_, e1, rfl⟩ ⟨_, e2, rfl⟩ F.slot_list_ne (call_meets F.slot_list_ne ⟨_, e1, rfl⟩ F.entry_list_ne (F.args_list_ne_2 _ _) (SeqAt.list_ne_lengthsAt l b _ #[] n n2 none none #[] #[] (by simp)) ⟨e1, e2, ?_⟩) hu
    exact ⟨nofun, .bl true, H, I, rfl, q⟩
theorem r_neNil {H : Hp} {Q : VK} {l b : Addr} {xs : List V} (h1 : H l = some (.lst xs)) (h2 : H b = some (.lst [])) (k : Q (.bl (!xs.isEmpty)) H) : rNeNil (.ref l) (.ref b) H Q := ⟨l, b, xs, rfl, rfl, h1, h2, k⟩
end Z

/-! Z: words: the values, the promises of words.py -/
namespace Z
open PySem PySem.Spec PyProof.Rows L2
def topI (w : Int) : Int := 2 ^ w.toNat - 1
def osum (w a b : Int) : Int := if a + b ≤ topI w then a + b else a + b - topI w
def omul (w v t : Int) : Int := if t = 0 ∨ v = 0 then 0 else (t * v - 1) % topI w + 1
def orest (w v : Int) : Int := if v = topI w then 0 else v
/-- a width and a value of a word -/
def InW (w v : Int) : Prop := 1 ≤ w ∧ w ≤ 64 ∧ 0 ≤ v ∧ v ≤ topI w
theorem pow64 {n : Nat} (h : n ≤ 64) : (2 : Int) ^ n ≤ 2 ^ 64 := by
  have : (2 : Nat) ^ n ≤ 2 ^ 64 := Nat.pow_le_pow_right (by decide) h
  exact_mod_cast this
theorem topI_pos {w : Int} (h : 1 ≤ w) : 1 ≤ topI w := by
  unfold topI
  have h1 : (2 : Nat) ^ 1 ≤ 2 ^ w.toNat := Nat.pow_le_pow_right (by decide) (by omega)
  have h2 : (2 : Int) ^ 1 ≤ 2 ^ w.toNat := by exact_mod_cast h1
  omega
theorem topI_lt {w : Int} (h : w ≤ 64) : topI w < 2 ^ 64 := by
  unfold topI
  have := pow64 (n := w.toNat) (by omega)
  omega
theorem osum_in {w a b : Int} (ha : InW w a) (hb : InW w b) : InW w (osum w a b) := by
  obtain ⟨h1, h2, h3, h4⟩ := ha
  obtain ⟨_, _, h5, h6⟩ := hb
  have := topI_pos h1
  unfold osum
  refine ⟨h1, h2, ?_, ?_⟩ <;> split <;> omega
theorem omul_in {w v t : Int} (h : InW w v) (ht : 0 ≤ t) : InW w (omul w v t) := by
  obtain ⟨h1, h2, h3, h4⟩ := h
  have hp := topI_pos h1
  have e1 := Int.emod_nonneg (t * v - 1) (show topI w ≠ 0 by omega)
  have e2 := Int.emod_lt_of_pos (t * v - 1) (show 0 < topI w by omega)
  unfold omul
  refine ⟨h1, h2, ?_, ?_⟩ <;> split <;> omega
theorem comp_in {w v : Int} (h : InW w v) : InW w (topI w - v) := by
  obtain ⟨h1, h2, h3, h4⟩ := h
  exact ⟨h1, h2, by omega, by omega⟩
/-- the attributes of a word -/
def wf (w v : Int) : List (Str × V) := [("width", .int w), ("value", .int v)]
theorem wf_ne : ¬ (("width" : Str) = "value") := by decide +kernel
theorem wf_put (w v : Int) : putF "value" (.int v) (putF "width" (.int w) []) = wf w v := by
  show (if ("width" : Str) = "value" then _ else (("width" : Str), V.int w) :: putF "value" (V.int v) []) = wf w v
  rw [if_neg wf_ne]
  rfl
theorem wf_e1 : (("width" : Str) == "width") = true := by decide +kernel
theorem wf_e2 : (("value" : Str) == "width") = false := by decide +kernel
theorem wf_e3 : (("value" : Str) == "value") = true := by decide +kernel
theorem wf_width (w v : Int) : (wf w v).lookup ("width" : Str) = some (.int w) := by
  unfold wf
  simp only [List.lookup, wf_e1]
theorem wf_value (w v : Int) : (wf w v).lookup ("value" : Str) = some (.int v) := by
  unfold wf
  simp only [List.lookup, wf_e2, wf_e3]
theorem wf_no {w v : Int} {m : Str} (h1 : (m == "width") = false) (h2 : (m == "value") = false) : (wf w v).lookup m = none := by
  show (match (m == "width") with | true => some (V.int w) | false => (match (m == "value") with | true => some (V.int v) | false => none)) = _
  rw [h1, h2]
/-- a word stands at a -/
def IsW (C : Addr) (H : Hp) (a : Addr) (w v : Int) : Prop := InW w v ∧ ∃ dx, H a = some (.ins C dx (wf w v))
theorem IsW.ex {C : Addr} {H H' : Hp} {a : Addr} {w v : Int} (e : Ex H H') (h : IsW C H a w v) : IsW C H' a w v := ⟨h.1, h.2.choose, e _ _ h.2.choose_spec⟩
theorem IsW.gr {C : Addr} {H H' : Hp} {a : Addr} {w v : Int} (e : Gr H H') (h : IsW C H a w v) : IsW C H' a w v := ⟨h.1, h.2.choose, e.get h.2.choose_spec rfl⟩
theorem IsW.but {C l : Addr} {H H' : Hp} {a : Addr} {w v : Int} {xs : List V} (e : But l H H') (hl : H l = some (.lst xs)) (h : IsW C H a w v) : IsW C H' a w v :=
  ⟨h.1, h.2.choose, e _ _ (ne_of h.2.choose_spec hl (by intro z; cases z)) h.2.choose_spec⟩
/-- a new word is handed back -/
abbrev RetW (C : Addr) (H : Hp) (Q : VK) (w v : Int) : Prop := ∀ x H', Ex H H' → IsW C H' x w v → Q (.ref x) H'
def spTop : Sp := fun vs H Q _ => ∃ w, vs = [.int w] ∧ 0 ≤ w ∧ w ≤ 1000 ∧ Q (.int (topI w)) H
def spInitW (C : Addr) : Sp := fun vs H Q _ => ∃ x dx w v, vs = [.ref x, .int w, .int v] ∧ InW w v ∧ H x = some (.ins C dx []) ∧ ∀ H', But x H H' → H' x = some (.ins C dx (wf w v)) → Q .non H'
def spSum (C : Addr) : Sp := fun vs H Q _ => ∃ w a b, vs = [.int w, .int a, .int b] ∧ InW w a ∧ InW w b ∧ RetW C H Q w (osum w a b)
def spMul (C : Addr) : Sp := fun vs H Q _ => ∃ w v t, vs = [.int w, .int v, .int t] ∧ InW w v ∧ 0 ≤ t ∧ t < 2 ^ 200 ∧ RetW C H Q w (omul w v t)
def spNeed : Sp := fun vs H Q _ => ∃ t, vs = [.int t] ∧ 0 ≤ t ∧ t ≤ 10 ^ 30 ∧ Q .non H
/-- an operand beside a word of the width w, and what it is worth -/
def Opd (C : Addr) (H : Hp) (w : Int) (y : V) (n : Int) : Prop := (∃ b, y = .ref b ∧ IsW C H b w n) ∨ (y = .int n ∧ InW w n)
theorem Opd.in_ {C : Addr} {H : Hp} {w n : Int} {y : V} (h : Opd C H w y n) : InW w n := by
  rcases h with ⟨b, _, h⟩ | ⟨_, h⟩
  · exact h.1
  · exact h
theorem Opd.ex {C : Addr} {H H' : Hp} {w n : Int} {y : V} (e : Ex H H') (h : Opd C H w y n) : Opd C H' w y n := by
  rcases h with ⟨b, q, h⟩ | h
  · exact .inl ⟨b, q, h.ex e⟩
  · exact .inr h
def spOpd (C : Addr) : Sp := fun vs H Q _ => ∃ a y w v n, vs = [.ref a, y] ∧ IsW C H a w v ∧ Opd C H w y n ∧ Q (.int n) H
def spRest : Sp := fun vs H Q _ => ∃ w v, vs = [.int w, .int v] ∧ InW w v ∧ Q (.int (orest w v)) H
def spW1 (C : Addr) (f : Int → Int) : Sp := fun vs H Q _ => ∃ w, vs = [.int w] ∧ 1 ≤ w ∧ w ≤ 64 ∧ RetW C H Q w (f w)
/-- a property of a word -/
def spWP (C : Addr) (f : Int → Int → V) : Sp := fun vs H Q _ => ∃ a w v, vs = [.ref a] ∧ IsW C H a w v ∧ Q (f w v) H
/-- ~a and its like -/
def spWW (C : Addr) (f : Int → Int → Int) : Sp := fun vs H Q _ => ∃ a w v, vs = [.ref a] ∧ IsW C H a w v ∧ RetW C H Q w (f w v)
/-- a op b, b an operand -/
def spWO (C : Addr) (f : Int → Int → Int → Int) : Sp := fun vs H Q _ => ∃ a y w v n, vs = [.ref a, y] ∧ IsW C H a w v ∧ Opd C H w y n ∧ RetW C H Q w (f w v n)
/-- a op t, t a number of times -/
def spWT (C : Addr) (f : Int → Int → Int → Int) : Sp := fun vs H Q _ => ∃ a w v t, vs = [.ref a, .int t] ∧ IsW C H a w v ∧ 0 ≤ t ∧ t ≤ 10 ^ 30 ∧ RetW C H Q w (f w v t)
def spEqW (C : Addr) : Sp := fun vs H Q _ => ∃ a b w v w' v', vs = [.ref a, .ref b] ∧ IsW C H a w v ∧ IsW C H b w' v' ∧ Q (.bl (decide (w = w' ∧ v = v'))) H
def spLike (C : Addr) : Sp := fun vs H Q _ => ∃ a y w v n, vs = [.ref a, y] ∧ IsW C H a w v ∧ Opd C H w y n ∧ Q (.bl (decide (orest w v = orest w n))) H
/-- an instance without an attribute m | an instance -/
def InsP (C : Addr) (m : Str) (N : V → Hp → Prop) (x : V) (H : Hp) : Prop := ∃ a dx fs, x = .ref a ∧ H a = some (.ins C dx fs) ∧ fs.lookup m = none ∧ N x H
def InsQ (C : Addr) (N : V → Hp → Prop) (x : V) (H : Hp) : Prop := ∃ a dx fs, x = .ref a ∧ H a = some (.ins C dx fs) ∧ N x H
/-- C(..): what is wanted of a new instance -/
def MakeO (C : Addr) (sp : Sp) (E : XK) (Q : VK) (vs : List V) (H : Hp) : Prop := ∀ x dx, H x = none → H dx = none → dx ≠ x → sp (.ref x :: vs) (upd (upd H dx (.own x)) x (.ins C dx [])) (fun v H2 => v = .non ∧ Q (.ref x) H2) E
section
variable {K : PySem.W.Frag} {σ : L2.St} {H : Hp} {Q : VK} {E : XK} {C : Addr} {ta : TE} {tr : TA} {f : Str}
theorem s_make {sp : Sp} (k : tr σ H fun vs H1 => MakeO C sp E Q vs H1) : tMake C sp [] E tr σ H Q := by
  have e : (fun (vs : List V) (H1 : Hp) => ∀ x dx, H1 x = none → H1 dx = none → dx ≠ x → sp (.ref x :: (vs ++ [])) (upd (upd H1 dx (.own x)) x (.ins C dx [])) (fun v H2 => v = .non ∧ Q (.ref x) H2) E) = fun vs H1 => MakeO C sp E Q vs H1 := by
    funext vs H1
    unfold MakeO
    rw [List.append_nil]
  unfold tMake
  rw [e]
  exact k
theorem make_w {w v : Int} (h : InW w v) (k : RetW C H Q w v) : MakeO C (spInitW C) E Q [.int w, .int v] H := fun x dx hx hd ne =>
  ⟨x, dx, w, v, rfl, h, upd_same, fun H' e h' => ⟨rfl, k x H' (fun a o ha => e a o (ne_of_none ha hx) (by rw [upd_ne (ne_of_none ha hx), upd_ne (ne_of_none ha hd)]; exact ha)) ⟨h, dx, h'⟩⟩⟩
theorem s_meth {m : Str} {sp : Sp} (k : ta σ H fun x H1 => InsP C m (fun x H1 => tr σ H1 fun vs H2 => sp (x :: vs) H2 Q E) x H1) : tMeth C m sp [] E ta tr σ H Q := by
  have e : (fun (x : V) (H1 : Hp) => ∃ a dx fs, x = .ref a ∧ H1 a = some (.ins C dx fs) ∧ fs.lookup m = none ∧ tr σ H1 fun vs H2 => sp (x :: (vs ++ [])) H2 Q E) = fun x H1 => InsP C m (fun x H1 => tr σ H1 fun vs H2 => sp (x :: vs) H2 Q E) x H1 := by
    funext x H1
    have e2 : (fun (vs : List V) (H2 : Hp) => sp (x :: (vs ++ [])) H2 Q E) = fun vs H2 => sp (x :: vs) H2 Q E := by
      funext vs H2
      rw [List.append_nil]
    rw [e2]
    rfl
  unfold tMeth
  rw [e]
  exact k
theorem s_sm {sp : Sp} (k : ta σ H fun x H1 => x = .ref C ∧ tr σ H1 fun vs H2 => sp vs H2 Q E) : tSM C sp E ta tr σ H Q := k
theorem s_prop {sp : Sp} (k : ta σ H fun x H1 => InsQ C (fun x H1 => sp [x] H1 Q E) x H1) : tProp C sp [] E ta σ H Q := by
  have e : (fun (x : V) (H1 : Hp) => ∃ a dx fs, x = .ref a ∧ H1 a = some (.ins C dx fs) ∧ sp (.ref a :: []) H1 Q E) = fun x H1 => InsQ C (fun x H1 => sp [x] H1 Q E) x H1 := by
    funext x H1
    apply propext
    constructor
    · rintro ⟨a, dx, fs, rfl, h, k⟩
      exact ⟨a, dx, fs, rfl, h, k⟩
    · rintro ⟨a, dx, fs, rfl, h, k⟩
      exact ⟨a, dx, fs, rfl, h, k⟩
  unfold tProp
  rw [e]
  exact k
theorem v_fldw {a : Addr} {w v : Int} (c : Cls K C) (n : NoAttr K C "width") (h : IsW C H a w v) (k : Q (.int w) H) : FldP K "width" Q (.ref a) H :=
  ⟨a, C, h.2.choose, wf w v, .int w, rfl, h.2.choose_spec, c, n, wf_width w v, k⟩
theorem v_fldv {a : Addr} {w v : Int} (c : Cls K C) (n : NoAttr K C "value") (h : IsW C H a w v) (k : Q (.int v) H) : FldP K "value" Q (.ref a) H :=
  ⟨a, C, h.2.choose, wf w v, .int v, rfl, h.2.choose_spec, c, n, wf_value w v, k⟩
end
end Z

namespace Z
open PySem PySem.Spec PyProof.Rows L2
def mwB (K : PySem.W.Frag) (C : Addr) (f : Str) (i : Int) : Bool := match PySem.W.findCls K (.ref C) (.type "type") f with
  | some (.val (.int j _)) => decide (j = i)
  | _ => false
theorem mw_ok {K : PySem.W.Frag} {C : Addr} {f : Str} {i : Int} (h : mwB K C f i = true) : ∃ u, ClX.CVal K C (.type "type") f (.int i) u := by
  unfold mwB at h
  cases e : PySem.W.findCls K (.ref C) (.type "type") f with
  | none =>
    rw [e] at h
    cases h
  | some r =>
    rw [e] at h
    cases r with
    | val u =>
      cases u with
      | int j t =>
        have := of_decide_eq_true h
        subst this
        exact ⟨_, e, ⟨t, rfl⟩⟩
      | _ => cases h
    | _ => cases h
theorem rec_of {K : PySem.W.Frag} {p g : Addr} {T : String} (h : (PySem.W.recIn K p T).bind List.head? = some (.ref g)) : ∃ rest, PySem.W.recIn K p T = some (.ref g :: rest) := by
  cases q : PySem.W.recIn K p T with
  | none =>
    rw [q] at h
    cases h
  | some l =>
    cases l with
    | nil =>
      rw [q] at h
      cases h
    | cons a r =>
      rw [q] at h
      obtain rfl : a = Value.ref g := Option.some.inj h
      exact ⟨r, rfl⟩
end Z

namespace Z
open PySem PySem.Spec PyProof.Rows L2
def smB (K : PySem.W.Frag) (C p : Addr) (m : Str) (id : String) : Bool := match PySem.W.findCls K (.ref C) (.type "type") m with
  | some (.get (.builtin i) (.ref q) .none (.ref D)) => decide (i = id) && (decide (q = p) && decide (D = C))
  | _ => false
theorem sm_ok {K : PySem.W.Frag} {C p : Addr} {m : Str} {id : String} (h : smB K C p m id = true) : PySem.W.findCls K (.ref C) (.type "type") m = some (.get (.builtin id) (.ref p) .none (.ref C)) := by
  unfold smB at h
  split at h
  · rename_i i q D e
    obtain ⟨h1, h2⟩ := Bool.and_eq_true_iff.mp h
    obtain ⟨h2, h3⟩ := Bool.and_eq_true_iff.mp h2
    rw [e, of_decide_eq_true h1, of_decide_eq_true h2, of_decide_eq_true h3]
  · cases h
end Z

namespace Z
open PySem PySem.Spec PyProof.Rows L2
section
variable {K : PySem.W.Frag} {σ : L2.St} {H : Hp} {Q : VK} {E : XK} {C : Addr} {ta tv : TE} {tr : TA} {f : Str} {D : Ends}
theorem use_btw {i lo hi : Int} (h : lo ≤ i ∧ i ≤ hi) (k : Q (.bl true) H) : spBtw K [.int i, .int lo, .int hi] H Q E := ⟨.int i, lo, hi, rfl, ki_int i, by
  have e : btw (.int i) lo hi = true := by simp [btw, h.1, h.2]
  rw [e]
  exact k⟩
theorem use_top {w : Int} (h : 0 ≤ w ∧ w ≤ 1000) (k : Q (.int (topI w)) H) : spTop [.int w] H Q E := ⟨w, rfl, h.1, h.2, k⟩
theorem s_cval (k : ta σ H fun x H1 => ∃ C mc v u, x = .ref C ∧ ClX.CRead K C mc ∧ ClX.CVal K C mc f v u ∧ Q v H1) : ClX.tCVal K ta f σ H Q := k
def SetF (K : PySem.W.Frag) (f : Str) (D : Ends) (σ : L2.St) (y x : V) (H : Hp) : Prop := ∃ a C dx fs, x = .ref a ∧ H a = some (.ins C dx fs) ∧ Cls K C ∧ NoAttr K C f ∧ fs.length < 1000 ∧ D.nx σ (upd H a (.ins C dx (putF f y fs)))
theorem s_sfld (k : tv σ H fun y H1 => ta σ H1 fun x H2 => SetF K f D σ y x H2) : sFld K ta tv f D σ H := k
theorem v_setF {a dx : Addr} {fs : List (Str × V)} {y : V} (h : H a = some (.ins C dx fs)) (c : Cls K C) (n : NoAttr K C f) (hl : fs.length < 1000) (k : ∀ H', But a H H' → H' a = some (.ins C dx (putF f y fs)) → D.nx σ H') : SetF K f D σ y (.ref a) H :=
  ⟨a, C, dx, fs, rfl, h, c, n, hl, k _ But.upd upd_same⟩
theorem But.trans {a : Addr} {H1 H2 H3 : Hp} (x : But a H1 H2) (y : But a H2 H3) : But a H1 H3 := fun b o n h => y b o n (x b o n h)
theorem use_retW {w v w' v' : Int} (k : RetW C H Q w v) (e1 : w = w') (e2 : v = v') : RetW C H Q w' v' := by
  subst e1 e2
  exact k
theorem RetW.here {H' : Hp} {w v : Int} (k : RetW C H Q w v) (e : Ex H H') : RetW C H' Q w v := fun x H2 e2 h => k x H2 (e.trans e2) h
/-- an instance's field -/
theorem ins_of {a : Addr} {w v : Int} (h : IsW C H a w v) : ∃ dx, H a = some (.ins C dx (wf w v)) := h.2
theorem use_sum {w a b : Int} (ha : InW w a) (hb : InW w b) (k : RetW C H Q w (osum w a b)) : spSum C [.int w, .int a, .int b] H Q E := ⟨w, a, b, rfl, ha, hb, k⟩
theorem use_mul {w v t : Int} (hv : InW w v) (h0 : 0 ≤ t) (h1 : t < 2 ^ 200) (k : RetW C H Q w (omul w v t)) : spMul C [.int w, .int v, .int t] H Q E := ⟨w, v, t, rfl, hv, h0, h1, k⟩
theorem use_opd {a : Addr} {y : V} {w v n : Int} (h : IsW C H a w v) (o : Opd C H w y n) (k : Q (.int n) H) : spOpd C [.ref a, y] H Q E := ⟨a, y, w, v, n, rfl, h, o, k⟩
theorem use_rest {w v : Int} (h : InW w v) (k : Q (.int (orest w v)) H) : spRest [.int w, .int v] H Q E := ⟨w, v, rfl, h, k⟩
theorem use_need {t : Int} (h0 : 0 ≤ t) (h1 : t ≤ 10 ^ 30) (k : Q .non H) : spNeed [.int t] H Q E := ⟨t, rfl, h0, h1, k⟩
theorem r_oo {a b dx dy : Addr} {fs gs : List (Str × V)} {sp : Sp} (ha : H a = some (.ins C dx fs)) (hb : H b = some (.ins C dy gs)) (k : sp [.ref a, .ref b] H Q E) : rOO C sp E (.ref a) (.ref b) H Q := ⟨a, b, dx, dy, fs, gs, rfl, rfl, ha, hb, k⟩
theorem r_ooW {a b : Addr} {w v w' v' : Int} {sp : Sp} (ha : IsW C H a w v) (hb : IsW C H b w' v') (k : sp [.ref a, .ref b] H Q E) : rOO C sp E (.ref a) (.ref b) H Q := r_oo ha.2.choose_spec hb.2.choose_spec k
theorem r_oiW {a : Addr} {w v n : Int} {sp : Sp} (ha : IsW C H a w v) (k : sp [.ref a, .int n] H Q E) : rOI C sp E (.ref a) (.int n) H Q := ⟨a, n, _, _, rfl, rfl, ha.2.choose_spec, k⟩
theorem r_ioW {a : Addr} {w v n : Int} {sp : Sp} (ha : IsW C H a w v) (k : sp [.ref a, .int n] H Q E) : rIO C sp E (.int n) (.ref a) H Q := ⟨n, a, _, _, rfl, rfl, ha.2.choose_spec, k⟩
theorem r_o1W {a : Addr} {w v : Int} {sp : Sp} (ha : IsW C H a w v) (k : sp [.ref a] H Q E) : rO1 C sp E (.ref a) H Q := ⟨a, _, _, rfl, ha.2.choose_spec, k⟩
end
end Z

/-! Z: sums that carry round, plain mathematics -/
namespace Z
/-- the word from 1 to M with the rest of s; 0 of 0 -/
def norm (M s : Int) : Int := if s = 0 then 0 else (s - 1) % M + 1
theorem norm_zero (M : Int) : norm M 0 = 0 := if_pos rfl
theorem norm_small {M s : Int} (h0 : 0 ≤ s) (h1 : s ≤ M) : norm M s = s := by
  unfold norm
  split
  · omega
  · rw [Int.emod_eq_of_lt (by omega) (by omega)]
    omega
theorem norm_sub {M s : Int} (h : M < s) (hM : 0 < M) : norm M (s - M) = norm M s := by
  unfold norm
  rw [if_neg (by omega), if_neg (by omega)]
  have e : s - M - 1 = s - 1 + M * (-1) := by omega
  rw [e, Int.add_mul_emod_self_left]
theorem norm_add_mul {M s : Int} (k : Nat) (h : 0 < s) (hM : 0 < M) : norm M (s + M * k) = norm M s := by
  unfold norm
  have h1 : 0 ≤ M * (k : Int) := Int.mul_nonneg (by omega) (by omega)
  rw [if_neg (by omega), if_neg (by omega)]
  have e : s + M * k - 1 = s - 1 + M * k := by omega
  rw [e, Int.add_mul_emod_self_left]
theorem norm_range {M s : Int} (hM : 0 < M) : 0 ≤ norm M s ∧ norm M s ≤ M := by
  have e1 := Int.emod_nonneg (s - 1) (show M ≠ 0 by omega)
  have e2 := Int.emod_lt_of_pos (s - 1) hM
  unfold norm
  split <;> omega
theorem norm_pos {M s : Int} (hM : 0 < M) (h : s ≠ 0) : 1 ≤ norm M s := by
  have e1 := Int.emod_nonneg (s - 1) (show M ≠ 0 by omega)
  unfold norm
  rw [if_neg h]
  omega
/-- s and its norm differ by a multiple -/
theorem norm_dvd {M s : Int} (hM : 0 < M) : ∃ k : Int, s = norm M s + M * k := by
  unfold norm
  split
  · exact ⟨0, by omega⟩
  · have := Int.emod_add_mul_ediv (s - 1) M
    exact ⟨(s - 1) / M, by omega⟩
theorem norm_eq {M s t : Int} (hM : 0 < M) (hs : 0 ≤ s) (ht : 0 ≤ t) (hz : s = 0 ↔ t = 0) (k : Int) (h : s = t + M * k) : norm M s = norm M t := by
  by_cases h0 : s = 0
  · rw [h0, hz.mp h0]
  · have h1 : t ≠ 0 := fun z => h0 (hz.mpr z)
    unfold norm
    rw [if_neg h0, if_neg h1]
    have e : s - 1 = t - 1 + M * k := by omega
    rw [e, Int.add_mul_emod_self_left]
theorem norm_norm_add {M a b : Int} (hM : 0 < M) (ha : 0 ≤ a) (hb : 0 ≤ b) : norm M (norm M a + norm M b) = norm M (a + b) := by
  obtain ⟨k, hk⟩ := norm_dvd (s := a) hM
  obtain ⟨j, hj⟩ := norm_dvd (s := b) hM
  have r1 := norm_range (s := a) hM
  have r2 := norm_range (s := b) hM
  refine norm_eq hM (by omega) (by omega) ⟨fun z => ?_, fun z => ?_⟩ (-(k + j)) ?_
  · by_cases h1 : a = 0
    · by_cases h2 : b = 0
      · omega
      · have := norm_pos hM h2
        omega
    · have := norm_pos hM h1
      omega
  · have h1 : a = 0 := by omega
    have h2 : b = 0 := by omega
    rw [h1, h2, norm_zero]
    rfl
  · rw [Int.mul_neg, Int.mul_add]
    omega
theorem norm_mul_norm {M t a : Int} (hM : 0 < M) (ht : 0 ≤ t) (ha : 0 ≤ a) : norm M (t * norm M a) = norm M (t * a) := by
  obtain ⟨k, hk⟩ := norm_dvd (s := a) hM
  have r1 := norm_range (s := a) hM
  refine norm_eq hM (Int.mul_nonneg ht r1.1) (Int.mul_nonneg ht ha) ⟨fun z => ?_, fun z => ?_⟩ (-(t * k)) ?_
  · rcases Int.mul_eq_zero.mp z with h | h
    · rw [h, Int.zero_mul]
    · by_cases h1 : a = 0
      · rw [h1, Int.mul_zero]
      · have := norm_pos hM h1
        omega
  · rcases Int.mul_eq_zero.mp z with h | h
    · rw [h, Int.zero_mul]
    · rw [h, norm_zero, Int.mul_zero]
  · have e : t * a = t * norm M a + t * (M * k) := by
      rw [← Int.mul_add, ← hk]
    have e2 : t * (M * k) = M * (t * k) := by rw [← Int.mul_assoc, Int.mul_comm t M, Int.mul_assoc]
    rw [Int.mul_neg]
    omega
end Z

/-! Z: laws of words -/
namespace Z
theorem osum_norm {w a b : Int} (ha : InW w a) (hb : InW w b) : osum w a b = norm (topI w) (a + b) := by
  obtain ⟨h1, h2, h3, h4⟩ := ha
  obtain ⟨_, _, h5, h6⟩ := hb
  have hp := topI_pos h1
  unfold osum
  split
  · rw [norm_small (by omega) (by omega)]
  · rw [← norm_sub (by omega) (by omega), norm_small (by omega) (by omega)]
theorem omul_norm {w v t : Int} : omul w v t = norm (topI w) (t * v) := by
  unfold omul norm
  by_cases h : t = 0 ∨ v = 0
  · rw [if_pos h, if_pos (Int.mul_eq_zero.mpr h)]
  · rw [if_neg h, if_neg (fun z => h (Int.mul_eq_zero.mp z))]
theorem omul_osum {w a b t : Int} (ha : InW w a) (hb : InW w b) (ht : 0 ≤ t) : omul w (osum w a b) t = osum w (omul w a t) (omul w b t) := by
  have hp := topI_pos ha.1
  have a0 := ha.2.2.1
  have b0 := hb.2.2.1
  rw [osum_norm (omul_in ha ht) (omul_in hb ht), omul_norm, omul_norm, omul_norm, osum_norm ha hb,
    norm_mul_norm (by omega) ht (by omega), norm_norm_add (by omega) (Int.mul_nonneg ht a0) (Int.mul_nonneg ht b0), Int.mul_add]
theorem like_comp {w a b : Int} (ha : InW w a) (hb : InW w b) : orest w (topI w - osum w a b) = orest w (osum w (topI w - a) (topI w - b)) := by
  obtain ⟨h1, h2, h3, h4⟩ := ha
  obtain ⟨_, _, h5, h6⟩ := hb
  have hp := topI_pos h1
  unfold orest osum
  generalize topI w = M at *
  split <;> split <;> split <;> split <;> omega
theorem pow_split {w k : Nat} (h : k ≤ w) : (2 : Int) ^ (w - k) * 2 ^ k = 2 ^ w := by
  rw [← Int.pow_add, Nat.sub_add_cancel h]
theorem turn_zero {w : Int} {k : Nat} {a j : Int} (h1 : 1 ≤ w) (hk : (k : Int) ≤ w) (h : 2 ^ k * a = topI w * j) : ∃ i, a = topI w * i := by
  have e := pow_split (w := w.toNat) (k := k) (by omega)
  have e1 : (2 : Int) ^ (w.toNat - k) * (2 ^ k * a) = 2 ^ w.toNat * a := by rw [← Int.mul_assoc, e]
  have e2 : (2 : Int) ^ w.toNat = topI w + 1 := by unfold topI; omega
  rw [e2, Int.add_mul, Int.one_mul, h] at e1
  have e3 : (2 : Int) ^ (w.toNat - k) * (topI w * j) = topI w * (2 ^ (w.toNat - k) * j) := by
    rw [← Int.mul_assoc, Int.mul_comm _ (topI w), Int.mul_assoc]
  rw [e3] at e1
  exact ⟨2 ^ (w.toNat - k) * j - a, by rw [Int.mul_sub]; omega⟩
theorem turn_comp {w a : Int} {k : Nat} (ha : InW w a) (hk : (k : Int) ≤ w) : topI w - omul w a (2 ^ k) = omul w (topI w - a) (2 ^ k) := by
  obtain ⟨h1, h2, h3, h4⟩ := ha
  have hp := topI_pos h1
  have hpow : (0 : Int) < 2 ^ k := Int.pow_pos (by decide)
  have full : norm (topI w) (2 ^ k * topI w) = topI w := by
    have e : norm (topI w) (2 ^ k * topI w) = norm (topI w) (topI w) := norm_eq (by omega) (Int.mul_nonneg (by omega) (by omega)) (by omega) ⟨fun z => by
      rcases Int.mul_eq_zero.mp z with q | q <;> omega, fun z => by omega⟩ (2 ^ k - 1) (by rw [Int.mul_sub, Int.mul_one, Int.mul_comm (2 ^ k) (topI w)]; omega)
    rw [e, norm_small (by omega) (by omega)]
  rw [omul_norm, omul_norm]
  by_cases z0 : a = 0
  · rw [z0, Int.mul_zero, norm_zero, Int.sub_zero, full]
  by_cases zM : a = topI w
  · rw [zM, full, Int.sub_self, Int.mul_zero, norm_zero]
  have r := norm_range (M := topI w) (s := 2 ^ k * a) (by omega)
  have rp := norm_pos (M := topI w) (s := 2 ^ k * a) (by omega) (fun q => by rcases Int.mul_eq_zero.mp q with q | q <;> omega)
  obtain ⟨j, hj⟩ := norm_dvd (M := topI w) (s := 2 ^ k * a) (by omega)
  have rM : norm (topI w) (2 ^ k * a) ≠ topI w := fun q => by
    rw [q] at hj
    obtain ⟨i, hi⟩ := turn_zero (w := w) (k := k) (a := a) (j := 1 + j) h1 hk (by rw [Int.mul_add, Int.mul_one]; exact hj)
    rcases Int.lt_or_le i 1 with hi1 | hi1
    · have : topI w * i ≤ topI w * 0 := Int.mul_le_mul_of_nonneg_left (by omega) (by omega)
      omega
    · have : topI w * 1 ≤ topI w * i := Int.mul_le_mul_of_nonneg_left hi1 (by omega)
      omega
  have e : norm (topI w) (2 ^ k * (topI w - a)) = norm (topI w) (topI w - norm (topI w) (2 ^ k * a)) := norm_eq (by omega) (Int.mul_nonneg (by omega) (by omega)) (by omega)
    ⟨fun q => by rcases Int.mul_eq_zero.mp q with q | q <;> omega, fun q => by omega⟩ (2 ^ k - 1 - j) (by
      rw [Int.mul_sub, Int.mul_sub, Int.mul_sub, Int.mul_one, Int.mul_comm (2 ^ k) (topI w)]
      omega)
  rw [e]
  exact (norm_small (by omega) (by omega)).symm
theorem osum_comp {w a : Int} (ha : InW w a) : osum w a (topI w - a) = topI w := by
  obtain ⟨h1, h2, h3, h4⟩ := ha
  unfold osum
  split <;> omega
theorem osum_full {w a : Int} (ha : InW w a) : osum w (topI w) a = if a = 0 then topI w else a := by
  obtain ⟨h1, h2, h3, h4⟩ := ha
  unfold osum
  split <;> split <;> omega
theorem osum_zero {w a : Int} (ha : InW w a) : osum w 0 a = a := by
  obtain ⟨h1, h2, h3, h4⟩ := ha
  unfold osum
  split <;> omega
end Z

/-! Z: promises of the laws' own small helpers -/
namespace Z
open PySem PySem.Spec PyProof.Rows L2
def spWidth (K : PySem.W.Frag) : Sp := fun vs H Q _ => ∃ (p : Addr) (n : Nat), vs = [.ref p] ∧ PenAt K H p (n + 2) ∧ ∀ r H', Gr H H' → PenAt K H' p n → 1 ≤ r → r ≤ 64 → Q (.int r) H'
def spValue (K : PySem.W.Frag) : Sp := fun vs H Q _ => ∃ (p : Addr) (w : Int) (n : Nat), vs = [.ref p, .int w] ∧ PenAt K H p (n + 3) ∧ 1 ≤ w ∧ w ≤ 64 ∧ ∀ r H', Gr H H' → PenAt K H' p n → InW w r → Q (.int r) H'
section
variable {K : PySem.W.Frag} {H : Hp} {Q : VK} {E : XK} {p : Addr} {n : Nat}
theorem use_pen {a : Addr} {ns : List Int} (h : SqL K H a (ns.map V.int)) (k : ∀ p H', Ex H H' → PenAt K H' p 1000000 → Q (.ref p) H') : spPen K [.ref a] H Q E := ⟨a, ns, rfl, h, k⟩
theorem use_draw {m : Int} (h : PenAt K H p (n + 1)) (h0 : 0 < m) (h1 : m.natAbs.log2 < 9000) (k : ∀ r H', Gr H H' → PenAt K H' p n → 0 ≤ r → r < m → Q (.int r) H') : spDraw K [.ref p, .int m] H Q E := ⟨p, m, n, rfl, h, h0, h1, fun r H' g q a b _ => k r H' g q a b⟩
theorem use_drawB {m : Int} (h : PenAt K H p (n + 1)) (h0 : 0 < m) (h1 : m.natAbs.log2 < 9000) (k : ∀ r H', Gr H H' → PenAt K H' p n → 0 ≤ r → r < m → But p H H' → Q (.int r) H') : spDraw K [.ref p, .int m] H Q E := ⟨p, m, n, rfl, h, h0, h1, k⟩
theorem use_width (h : PenAt K H p (n + 2)) (k : ∀ r H', Gr H H' → PenAt K H' p n → 1 ≤ r → r ≤ 64 → Q (.int r) H') : spWidth K [.ref p] H Q E := ⟨p, n, rfl, h, k⟩
theorem use_value {w : Int} (h : PenAt K H p (n + 3)) (h0 : 1 ≤ w) (h1 : w ≤ 64) (k : ∀ r H', Gr H H' → PenAt K H' p n → InW w r → Q (.int r) H') : spValue K [.ref p, .int w] H Q E := ⟨p, w, n, rfl, h, h0, h1, k⟩
end
theorem ix_all {xs : List Int} {P : Int → Prop} {k : Int} (h : ∀ x ∈ xs, P x) (h0 : 0 ≤ k) (h1 : k < xs.length) : ∃ v, atI (xs.map V.int) k = some (.int v) ∧ P v :=
  ⟨_, atI_ints h0 h1, h _ (List.getElem_mem _)⟩
theorem log_small {m : Int} (h0 : 0 ≤ m) (h : m < 2 ^ 64) : m.natAbs.log2 < 9000 := by
  have h1 : m.natAbs < 2 ^ 64 := by omega
  by_cases hz : m.natAbs = 0
  · rw [hz]
    decide
  · have := (Nat.log2_lt hz).mpr h1
    omega
/-- words of one width at these places -/
def Ws (C : Addr) (H : Hp) (w : Int) : List Addr → List Int → Prop
  | [], [] => True
  | a :: as, v :: vs => IsW C H a w v ∧ Ws C H w as vs
  | _, _ => False
section
variable {C : Addr} {H H' : Hp} {w : Int}
theorem Ws.gr (e : Gr H H') : ∀ {as : List Addr} {vs : List Int}, Ws C H w as vs → Ws C H' w as vs
  | [], [], _ => True.intro
  | _ :: _, _ :: _, h => ⟨h.1.gr e, Ws.gr e h.2⟩
theorem Ws.ex (e : Ex H H') {as : List Addr} {vs : List Int} (h : Ws C H w as vs) : Ws C H' w as vs := h.gr e.gr
theorem Ws.len : ∀ {as : List Addr} {vs : List Int}, Ws C H w as vs → as.length = vs.length
  | [], [], _ => rfl
  | _ :: _, _ :: _, h => congrArg Nat.succ (Ws.len h.2)
theorem Ws.app : ∀ {as bs : List Addr} {vs us : List Int}, Ws C H w as vs → Ws C H w bs us → Ws C H w (as ++ bs) (vs ++ us)
  | [], _, [], _, _, h => h
  | _ :: _, _, _ :: _, _, h, h' => ⟨h.1, Ws.app h.2 h'⟩
theorem Ws.take (n : Nat) : ∀ {as : List Addr} {vs : List Int}, Ws C H w as vs → Ws C H w (as.take n) (vs.take n) := by
  induction n with
  | zero => intro as vs _; simp only [List.take_zero]; exact True.intro
  | succ n ih =>
    intro as vs h
    match as, vs, h with
    | [], [], _ => exact True.intro
    | a :: as, v :: vs, h => exact ⟨h.1, ih h.2⟩
theorem Ws.drop (n : Nat) : ∀ {as : List Addr} {vs : List Int}, Ws C H w as vs → Ws C H w (as.drop n) (vs.drop n) := by
  induction n with
  | zero => intro as vs h; simp only [List.drop_zero]; exact h
  | succ n ih =>
    intro as vs h
    match as, vs, h with
    | [], [], _ => exact True.intro
    | a :: as, v :: vs, h => exact ih h.2
theorem Ws.get : ∀ {as : List Addr} {vs : List Int} (i : Nat) (h : Ws C H w as vs) (hi : i < as.length), ∃ v, vs[i]? = some v ∧ IsW C H (as[i]'hi) w v
  | [], [], i, _, hi => by simp at hi
  | a :: as, v :: vs, 0, h, _ => ⟨v, rfl, h.1⟩
  | a :: as, v :: vs, i + 1, h, hi => Ws.get i h.2 (by simpa using hi)
theorem Ws.in_ : ∀ {as : List Addr} {vs : List Int}, Ws C H w as vs → ∀ v ∈ vs, InW w v
  | [], [], _ => by simp
  | a :: as, v :: vs, h => by
    intro u hu
    rcases List.mem_cons.mp hu with rfl | hu
    · exact h.1.1
    · exact Ws.in_ h.2 u hu
end
end Z
namespace Z
open PySem PySem.Spec PyProof.Rows L2
theorem cut_to {xs : List V} {k : Int} (h : 0 ≤ k) : cutV xs none (some k) = xs.take k.toNat := by
  obtain ⟨m, rfl⟩ : ∃ m : Nat, k = m := ⟨k.toNat, by omega⟩
  unfold cutV
  rw [HT.sIx_none, HT.sIx_nat, List.drop_zero, Nat.sub_zero, Int.toNat_natCast]
  by_cases hm : m ≤ xs.length
  · rw [Nat.min_eq_left hm]
  · rw [Nat.min_eq_right (by omega), List.take_of_length_le (by omega), List.take_of_length_le (by omega)]
theorem cut_from {xs : List V} {k : Int} (h : 0 ≤ k) : cutV xs (some k) none = xs.drop k.toNat := by
  obtain ⟨m, rfl⟩ : ∃ m : Nat, k = m := ⟨k.toNat, by omega⟩
  unfold cutV
  rw [HT.sIx_none, HT.sIx_nat, Int.toNat_natCast]
  by_cases hm : m ≤ xs.length
  · rw [Nat.min_eq_left hm, List.take_of_length_le (by simp)]
  · rw [Nat.min_eq_right (by omega), List.drop_of_length_le (by omega), List.drop_of_length_le (by omega)]
    simp
theorem atI_refs {cs : List Addr} {k : Int} (h0 : 0 ≤ k) (h1 : k < cs.length) : atI (cs.map V.ref) k = some (.ref (cs[k.toNat]'(by omega))) := by
  rw [atI_lt h0 (by simpa using h1)]
  simp
section
variable {K : PySem.W.Frag} {C : Addr} {H : Hp} {Q : VK} {E : XK}
theorem r_cat {l b : Addr} {xs ys : List V} (h1 : H l = some (.lst xs)) (h2 : H b = some (.lst ys)) (h3 : xs.length + ys.length ≤ 1000) (k : ∀ p H', H p = none → Ex H H' → H' p = some (.lst (xs ++ ys)) → Q (.ref p) H') : rCat (.ref l) (.ref b) H Q :=
  ⟨l, b, xs, ys, rfl, rfl, h1, h2, Nat.le_trans h3 (by decide), s_new k⟩
theorem use_wo {f : Int → Int → Int → Int} {a : Addr} {y : V} {w v n : Int} (h : IsW C H a w v) (o : Opd C H w y n) (k : RetW C H Q w (f w v n)) : spWO C f [.ref a, y] H Q E := ⟨a, y, w, v, n, rfl, h, o, k⟩
theorem use_wt {f : Int → Int → Int → Int} {a : Addr} {w v t : Int} (h : IsW C H a w v) (h0 : 0 ≤ t) (h1 : t ≤ 10 ^ 30) (k : RetW C H Q w (f w v t)) : spWT C f [.ref a, .int t] H Q E := ⟨a, w, v, t, rfl, h, h0, h1, k⟩
theorem use_ww {f : Int → Int → Int} {a : Addr} {w v : Int} (h : IsW C H a w v) (k : RetW C H Q w (f w v)) : spWW C f [.ref a] H Q E := ⟨a, w, v, rfl, h, k⟩
theorem use_w1 {f : Int → Int} {w : Int} (h1 : 1 ≤ w) (h2 : w ≤ 64) (k : RetW C H Q w (f w)) : spW1 C f [.int w] H Q E := ⟨w, rfl, h1, h2, k⟩
theorem use_wp {f : Int → Int → V} {a : Addr} {w v : Int} (h : IsW C H a w v) (k : Q (f w v) H) : spWP C f [.ref a] H Q E := ⟨a, w, v, rfl, h, k⟩
theorem use_eqw {a b : Addr} {w v w' v' : Int} (h : IsW C H a w v) (h' : IsW C H b w' v') (k : Q (.bl (decide (w = w' ∧ v = v'))) H) : spEqW C [.ref a, .ref b] H Q E := ⟨a, b, w, v, w', v', rfl, h, h', k⟩
theorem use_like {a : Addr} {y : V} {w v n : Int} (h : IsW C H a w v) (o : Opd C H w y n) (k : Q (.bl (decide (orest w v = orest w n))) H) : spLike C [.ref a, y] H Q E := ⟨a, y, w, v, n, rfl, h, o, k⟩
end
theorem sum_pair : ∀ {vs : List Int} (i : Nat) {a b c : Int}, vs[i]? = some a → vs[i + 1]? = some b → (vs.take i ++ [c] ++ vs.drop (i + 2)).sum = vs.sum - a - b + c
  | [], i, a, b, c, h, _ => by simp at h
  | v :: vs, 0, a, b, c, h, h' => by
    simp at h
    subst h
    cases vs with
    | nil => simp at h'
    | cons u us =>
      simp at h'
      subst h'
      simp
      omega
  | v :: vs, i + 1, a, b, c, h, h' => by
    have ih := sum_pair (vs := vs) i (a := a) (b := b) (c := c) (by simpa using h) (by simpa using h')
    simp only [List.take_succ_cons, List.cons_append, List.sum_cons, List.drop_succ_cons] at ih ⊢
    simp only [List.append_assoc] at ih ⊢
    omega
theorem sum_nn : ∀ {vs : List Int}, (∀ v ∈ vs, 0 ≤ v) → 0 ≤ vs.sum
  | [], _ => by simp
  | v :: vs, h => by
    have h1 := h v (by simp)
    have h2 := sum_nn (vs := vs) fun u hu => h u (by simp [hu])
    simp only [List.sum_cons]
    omega
theorem norm_pair {w : Int} {vs : List Int} {i : Nat} {a b : Int} (hall : ∀ v ∈ vs, InW w v) (h1 : vs[i]? = some a) (h2 : vs[i + 1]? = some b) :
    norm (topI w) (vs.take i ++ [osum w a b] ++ vs.drop (i + 2)).sum = norm (topI w) vs.sum := by
  have ha := hall a (List.mem_of_getElem? h1)
  have hb := hall b (List.mem_of_getElem? h2)
  have e0 := sum_pair (vs := vs) i (c := 0) h1 h2
  have nn : 0 ≤ (vs.take i ++ [0] ++ vs.drop (i + 2)).sum := sum_nn fun v hv => by
    simp only [List.mem_append, List.mem_singleton] at hv
    rcases hv with (hv | hv) | hv
    · exact (hall v (List.mem_of_mem_take hv)).2.2.1
    · omega
    · exact (hall v (List.mem_of_mem_drop hv)).2.2.1
  rw [sum_pair i h1 h2]
  have hp := topI_pos ha.1
  unfold osum
  split
  · congr 1
    omega
  · have e : vs.sum - a - b + (a + b - topI w) = vs.sum - topI w := by omega
    rw [e]
    exact norm_sub (by omega) (by omega)
/-- grouped: the sum of a list of words in some grouping -/
def spGrouped (K : PySem.W.Frag) (C : Addr) : Sp := fun vs H Q _ => ∃ (p l : Addr) (as : List Addr) (us : List Int) (w : Int) (n : Nat), vs = [.ref p, .ref l] ∧ H l = some (.lst (as.map V.ref)) ∧ Ws C H w as us ∧ 1 ≤ as.length ∧ as.length ≤ 100 ∧
  PenAt K H p (n + as.length) ∧ ∀ x H', Gr H H' → PenAt K H' p n → IsW C H' x w (norm (topI w) us.sum) → Q (.ref x) H'
end Z

namespace Z
open PySem PySem.Spec PyProof.Rows L2
theorem Ws.but {C l : Addr} {H H' : Hp} {w : Int} {xs : List V} (e : But l H H') (hl : H l = some (.lst xs)) : ∀ {as : List Addr} {vs : List Int}, Ws C H w as vs → Ws C H' w as vs
  | [], [], _ => True.intro
  | _ :: _, _ :: _, h => ⟨h.1.but e hl, Ws.but e hl h.2⟩
theorem Ws.erase {C : Addr} {H : Hp} {w : Int} (n : Nat) : ∀ {as : List Addr} {vs : List Int}, Ws C H w as vs → Ws C H w (as.eraseIdx n) (vs.eraseIdx n) := by
  induction n with
  | zero =>
    intro as vs h
    match as, vs, h with
    | [], [], _ => exact True.intro
    | a :: as, v :: vs, h => exact h.2
  | succ n ih =>
    intro as vs h
    match as, vs, h with
    | [], [], _ => exact True.intro
    | a :: as, v :: vs, h => exact ⟨h.1, ih h.2⟩
theorem sum_erase : ∀ {vs : List Int} (i : Nat) {a : Int}, vs[i]? = some a → (vs.eraseIdx i).sum + a = vs.sum
  | [], i, a, h => by simp at h
  | v :: vs, 0, a, h => by
    simp at h
    subst h
    simp
    omega
  | v :: vs, i + 1, a, h => by
    have ih := sum_erase (vs := vs) i (a := a) (by simpa using h)
    simp only [List.eraseIdx_cons_succ, List.sum_cons]
    omega
section
variable {K : PySem.W.Frag} {σ : L2.St} {H : Hp} {Q : VK} {to : TE} {tr : TA}
theorem s_bm {T : String} {r : V → List V → Hp → VK → Prop} (k : to σ H fun x H1 => tyV K T x H1 ∧ tr σ H1 fun xs H2 => r x xs H2 Q) : tBM K T r to tr σ H Q := k
theorem s_bm0 {T : String} {r : V → List V → Hp → VK → Prop} (k : to σ H fun x H1 => tyV K T x H1 ∧ r x [] H1 Q) : tBM0 K T r to σ H Q := k
theorem v_tyL {P : Prop} {q : Addr} {xs : List V} (h : SqL K H q xs) (k : P) : tyV K "list" (.ref q) H ∧ P := ⟨Or.inl ⟨rfl, xs, h⟩, k⟩
theorem r_app {l : Addr} {xs : List V} {y : V} (h : H l = some (.lst xs)) (hl : xs.length < 1000) (k : ∀ H', But l H H' → H' l = some (.lst (xs ++ [y])) → Q .non H') : rAppend (.ref l) [y] H Q :=
  ⟨l, xs, y, rfl, rfl, h, Nat.lt_of_lt_of_le hl (by decide), k _ But.upd upd_same⟩
theorem r_popAt {l : Addr} {xs : List V} {i : Int} {y : V} (h : H l = some (.lst xs)) (h0 : 0 ≤ i) (h1 : i < xs.length) (hs : xs.length ≤ 1000) (hy : xs[i.toNat]? = some y) (k : ∀ H', But l H H' → H' l = some (.lst (xs.eraseIdx i.toNat)) → Q y H') : rPopAt (.ref l) [.int i] H Q :=
  ⟨l, xs, i, i.toNat, y, rfl, rfl, h, by omega, by omega, by
    unfold seqIndex?
    rw [if_neg (show ¬ i < 0 by omega)]
    simp [h0, h1], hy, k _ But.upd upd_same⟩
end
def spMixed (K : PySem.W.Frag) (C : Addr) : Sp := fun vs H Q _ => ∃ (p l : Addr) (as : List Addr) (us : List Int) (w : Int) (n : Nat), vs = [.ref p, .ref l] ∧ H l = some (.lst (as.map V.ref)) ∧ Ws C H w as us ∧ as.length ≤ 100 ∧
  PenAt K H p (n + as.length) ∧ ∀ q bs zs H', Gr H H' → PenAt K H' p n → H' q = some (.lst (bs.map V.ref)) → Ws C H' w bs zs → bs.length = as.length → zs.sum = us.sum → Q (.ref q) H'
end Z

namespace Z
theorem map_erase {α β : Type} (f : α → β) : ∀ (l : List α) (i : Nat), (l.map f).eraseIdx i = (l.eraseIdx i).map f
  | [], _ => rfl
  | _ :: _, 0 => rfl
  | a :: l, i + 1 => congrArg (f a :: ·) (map_erase f l i)
end Z

namespace Z
open PySem PySem.Spec PyProof.Rows L2
section
variable {C : Addr} {H : Hp}
/-- a word whose method is called | whose property is read -/
theorem v_ins {a : Addr} {w v : Int} {m : Str} {N : V → Hp → Prop} (h : IsW C H a w v) (k : (wf w v).lookup m = none ∧ N (.ref a) H) : InsP C m N (.ref a) H := ⟨a, _, _, rfl, h.2.choose_spec, k.1, k.2⟩
theorem v_insP {a : Addr} {w v : Int} {N : V → Hp → Prop} (h : IsW C H a w v) (k : N (.ref a) H) : InsQ C N (.ref a) H := ⟨a, _, _, rfl, h.2.choose_spec, k⟩
end
end Z

namespace Z
open PySem PySem.Spec PyProof.Rows L2
def spPair (C : Addr) : Sp := fun vs H Q _ => ∃ (w : Int) (x y : Addr) (t : Int) (a b : Int), vs = [.int w, .ref x, .ref y, .int t] ∧ IsW C H x w a ∧ IsW C H y w b ∧ 0 ≤ t ∧ t ≤ 1000 ∧ ∀ H', Ex H H' → Q (.bl true) H'
end Z

namespace Z
open PySem PySem.Spec PyProof.Rows L2
theorem q_true {Q : VK} {H : Hp} {c : Prop} {dc : Decidable c} (h : c) (k : Q (.bl true) H) : Q (.bl (decide c)) H := by
  rw [decide_eq_true h]
  exact k
def spLaw (K : PySem.W.Frag) : Sp := fun vs H Q _ => ∃ (a : Addr) (ns : List Int), vs = [.ref a] ∧ SqL K H a (ns.map V.int) ∧ ns.length ≤ 63 ∧ ∀ H', Q (.bl true) H'
end Z

namespace Z
open PySem PySem.Spec PyProof.Rows L2
section
variable {K : PySem.W.Frag} {C : Addr} {σ : L2.St} {H : Hp} {Q : VK} {E : XK} {D : Ends} {t rest : TS}
/-- what holds behind t, whatever follows -/
theorem s_cut (J : L2.St → Hp → Prop) (h1 : ∀ N : L2.St → Hp → Prop, (∀ σ' H', J σ' H' → N σ' H') → t { D with nx := N } σ H) (h2 : ∀ σ' H', J σ' H' → rest D σ' H') : tSeq t rest D σ H := h1 (rest D) h2
theorem r_sum {p : Addr} {ns : List Int} (h : SqL K H p (ns.map V.int)) (k : Q (.int ns.sum) H) : rSum K [.ref p] H Q := ⟨p, ns, rfl, h, k⟩
theorem r_rep {p : Addr} {xs : List V} {n : Int} (h : H p = some (.lst xs)) (h0 : -1000 ≤ n) (h1 : n ≤ 1000) (h2 : xs.length * n.toNat ≤ 1000) (k : ∀ l H', H l = none → Ex H H' → H' l = some (.lst (List.replicate n.toNat xs).flatten) → Q (.ref l) H') : rRep (.ref p) (.int n) H Q :=
  ⟨p, n, xs, rfl, rfl, h, by omega, by omega, Nat.le_trans h2 (by decide), s_new k⟩
/-- one more item of a comprehension's list -/
def LcN (P : Hp → Prop) (L : Addr) (y : V) (H : Hp) : Prop := ∃ acc, H L = some (.lst acc) ∧ acc.length < sizeLine ∧ P (upd H L (.lst (acc ++ [y])))
theorem lc_step {L : Addr} {acc : List V} {y : V} {P : Hp → Prop} (h : H L = some (.lst acc)) (hl : acc.length < 1000) (k : ∀ H', But L H H' → H' L = some (.lst (acc ++ [y])) → P H') : LcN P L y H :=
  ⟨acc, h, Nat.lt_of_lt_of_le hl (by decide), k _ But.upd upd_same⟩
theorem use_mixed {p l : Addr} {as : List Addr} {us : List Int} {w : Int} {n : Nat} (hl : H l = some (.lst (as.map V.ref))) (hW : Ws C H w as us) (h2 : as.length ≤ 100) (hp : PenAt K H p (n + as.length))
    (k : ∀ q bs zs H', Gr H H' → PenAt K H' p n → H' q = some (.lst (bs.map V.ref)) → Ws C H' w bs zs → bs.length = as.length → zs.sum = us.sum → Q (.ref q) H') : spMixed K C [.ref p, .ref l] H Q E := ⟨p, l, as, us, w, n, rfl, hl, hW, h2, hp, k⟩
theorem use_grouped {p l : Addr} {as : List Addr} {us : List Int} {w : Int} {n : Nat} (hl : H l = some (.lst (as.map V.ref))) (hW : Ws C H w as us) (h1 : 1 ≤ as.length) (h2 : as.length ≤ 100) (hp : PenAt K H p (n + as.length))
    (k : ∀ x H', Gr H H' → PenAt K H' p n → IsW C H' x w (norm (topI w) us.sum) → Q (.ref x) H') : spGrouped K C [.ref p, .ref l] H Q E := ⟨p, l, as, us, w, n, rfl, hl, hW, h1, h2, hp, k⟩
theorem use_pair {w t a b : Int} {x y : Addr} (hx : IsW C H x w a) (hy : IsW C H y w b) (h0 : 0 ≤ t) (h1 : t ≤ 1000) (k : ∀ H', Ex H H' → Q (.bl true) H') : spPair C [.int w, .ref x, .ref y, .int t] H Q E := ⟨w, x, y, t, a, b, rfl, hx, hy, h0, h1, k⟩
end
theorem rep_zero (n : Nat) : (List.replicate n [V.int 0]).flatten = (List.replicate n (0 : Int)).map V.int := by
  induction n with
  | zero => rfl
  | succ n ih => rw [List.replicate_succ, List.flatten_cons, ih, List.replicate_succ, List.map_cons]; rfl
theorem sum_zero : ∀ {vs : List Int}, (∀ v ∈ vs, 0 ≤ v) → (vs.sum = 0 ↔ vs = List.replicate vs.length 0)
  | [], _ => by simp
  | v :: vs, h => by
    have h1 := h v (by simp)
    have h2 := sum_nn (vs := vs) fun u hu => h u (by simp [hu])
    have ih := sum_zero (vs := vs) fun u hu => h u (by simp [hu])
    simp only [List.sum_cons, List.length_cons, List.replicate_succ, List.cons.injEq]
    constructor
    · intro q
      exact ⟨by omega, ih.mp (by omega)⟩
    · rintro ⟨a, b⟩
      have := ih.mpr b
      omega
theorem norm_zero_iff {M : Int} {vs : List Int} (hM : 0 < M) (h : ∀ v ∈ vs, 0 ≤ v) : norm M vs.sum = 0 ↔ vs = List.replicate vs.length 0 := by
  rw [← sum_zero h]
  constructor
  · intro q
    rcases Int.lt_or_eq_of_le (sum_nn h) with z | z
    · have := norm_pos (M := M) (s := vs.sum) hM (by omega)
      omega
    · omega
  · intro q
    rw [q, norm_zero]
theorem atI_last {cs : List Addr} (h : 0 < cs.length) : atI (cs.map V.ref) (-1) = some (.ref (cs[cs.length - 1]'(by omega))) := by
  unfold atI ixN
  rw [if_neg (by omega), if_pos (by simp; omega)]
  simp only [Option.bind_some, List.length_map]
  have e : ((-1 : Int) + (cs.length : Int)).toNat = cs.length - 1 := by omega
  rw [e, List.getElem?_map, List.getElem?_eq_getElem (by omega)]
  rfl
theorem walk_end {l : PySem.W.OpenLaw} {n k : Nat} {q : Program} {loose : List Str} {XP : (Str → Option Value) → Heap → Prop} {YP : World → Heap → Prop} {d : DefRec} {x : Str} (hn : l.most = some n) (hn2 : n ≤ sizeLine) (hdf : d.params.defaults = []) (hr : Room k callerA)
    (F : ∀ (w : World) (mg : Str → Option Value) (fa : Addr) (h : Heap), YP w h → h.Ns mainGlobals mg → mg d.name = some (.ref fa) →
      ∃ (K : PySem.W.Frag) (fd : FuncData) (sp : Sp), K.In h ∧ (∀ (s : Shared) (u : Value), BindsTo s fd ⟨[u], []⟩ [(x, u)]) ∧
        (∀ (H : Hp) (a : Addr) (ns : List Int), ns.length ≤ n → Only H → SqL K H a (ns.map V.int) → sp [.ref a] H (fun v _ => v = .bl true) fun _ _ _ => False) ∧
        ∀ base : Heap, K.In base → base.Ns mainGlobals mg → FnOk l.prog w K mg base (L2.CX l.prog w) k fa fd [x] sp) :
    PySem.W.WalkO q loose XP YP l.row.toRowW d [] (fun f vs => PySem.call f vs) := by
  refine Att.attach_call hn hdf fun w s₀ s₁ mg mb fa o pm cd doc a vs ns G Y ho hd hcd hmg hobj hints hlen hg => ?_
  obtain ⟨K, fd, sp, KX, hb, hsp, hF⟩ := F w mg fa _ Y G.T.g hmg
  refine law_call KX G.T.g G.T.b G.T.builtins G.T.nolimit hg hobj hints (Nat.le_trans hlen hn2) hr hF hb (fun H hO hS => hsp H a ns hlen hO hS) fun H e s' c => ?_
  obtain ⟨_, _, _, _, _, _, _, _, _, _, _, _, z⟩ := c
  exact z
end Z

namespace Z
open PySem PySem.Spec PyProof.Rows L2
section
variable {K : PySem.W.Frag} {C : Addr} {σ : L2.St} {H : Hp} {Q : VK} {E : XK} {D : Ends} {ta : TA} {te tl : TE} {g : TG} {tt : TT} {tb : TS} {vs : List Nat}
def LcP (J : It) (g : TG) (tt : TT) (te : TE) (vs : List Nat) (σ : L2.St) (H1 : Hp) (D : Addr) (Qd : Hp → Prop) : Prop := ∃ W : Nat → Nat → Hp → Prop, (∃ m, W 0 m (upd H1 D (.lst []))) ∧ ∀ i m H, W i m H →
  (J.stop i H ∧ Qd H) ∨ (J.go i H ∧ ∃ Nx : Hp → Prop, (∀ H', Nx H' → ∃ m', m' < m ∧ W (i + 1) m' H') ∧ ∀ x H', J.yld i H x H' → g x (wipe σ vs) H' fun σ2 H2 => wipe σ2 vs = wipe σ vs ∧ tt σ2 H2 fun b H3 =>
    if b = true then te σ2 H3 fun y H4 => ∃ acc, H4 D = some (.lst acc) ∧ acc.length < sizeLine ∧ Nx (upd H4 D (.lst (acc ++ [y]))) else Nx H3)
theorem s_lcR {n : Int} (hn : 0 ≤ n ∧ n ≤ 1000) (h : ∀ R : List V → Hp → Prop, R [.int n] H → ta σ H R) (Pv : Addr → Nat → Hp → Prop) (h0 : ∀ L H', H L = none → Ex H H' → H' L = some (.lst []) → Pv L 0 H')
    (hs : ∀ L (i : Nat) H', H L = none → (i : Int) < n → Pv L i H' → g (.int i) (wipe σ vs) H' fun σ2 H2 => wipe σ2 vs = wipe σ vs ∧ tt σ2 H2 fun b H3 => if b = true then te σ2 H3 fun y H4 => LcN (Pv L (i + 1)) L y H4 else Pv L (i + 1) H3)
    (hd : ∀ L H', H L = none → Pv L n.toNat H' → Q (.ref L) H') : tLc (iRng1 ta) g tt te vs σ H Q := by
  refine h _ ⟨n, rfl, by omega, by omega, fun L hL => lc_range (lo := 0) (n := n.toNat) (Pv L) (h0 L _ hL (Ex.new hL) upd_same) (fun i H' hi p => ?_) fun H' p => hd L H' hL p⟩
  have e : (0 : Int) + (i : Int) = (i : Int) := Int.zero_add _
  rw [e]
  exact hs L i H' hL (by omega) p
theorem s_lcL {a : Addr} {xs : List V} (h : ∀ R : VK, R (.ref a) H → tl σ H R) (hx : SqL K H a xs) (Pv : Addr → Nat → Hp → Prop) (h0 : ∀ L H', H L = none → Ex H H' → H' L = some (.lst []) → Pv L 0 H') (hl : ∀ L i H', H L = none → Pv L i H' → SqL K H' a xs)
    (hs : ∀ L i x H', H L = none → xs[i]? = some x → Pv L i H' → g x (wipe σ vs) H' fun σ2 H2 => wipe σ2 vs = wipe σ vs ∧ tt σ2 H2 fun b H3 => if b = true then te σ2 H3 fun y H4 => LcN (Pv L (i + 1)) L y H4 else Pv L (i + 1) H3)
    (hd : ∀ L H', H L = none → Pv L xs.length H' → Q (.ref L) H') : tLc (iList K tl) g tt te vs σ H Q := by
  refine h _ ⟨a, rfl, ⟨xs, hx⟩, fun L hL => lc_list (K := K) (a := a) (xs := xs) (Pv L) (h0 L _ hL (Ex.new hL) upd_same) (fun i H' _ p => hl L i H' hL p) (fun i x H' hi p => hs L i x H' hL hi p) fun H' p => hd L H' hL p⟩
theorem s_yes {QT : Bool → Hp → Prop} (k : QT true H) : tYes σ H QT := k
end
end Z

namespace Z
open PySem PySem.Spec PyProof.Rows L2
section
variable {K : PySem.W.Frag} {σ : L2.St} {H : Hp} {D : Ends} {ta : TA} {tl : TE} {g : TG} {tb : TS}
theorem s_forR {n : Int} (hn : 0 ≤ n ∧ n ≤ 100000) (h : ∀ R : List V → Hp → Prop, R [.int n] H → ta σ H R) (Pv : Nat → L2.St → Hp → Prop) (h0 : Pv 0 σ H)
    (hs : ∀ (i : Nat) σ' H', (i : Int) < n → Pv i σ' H' → g (.int i) σ' H' fun σ2 H2 => tb { D with nx := Pv (i + 1), ct := Pv (i + 1), bk := D.nx } σ2 H2) (hd : ∀ σ' H', Pv n.toNat σ' H' → D.nx σ' H') : tFor (iRng1 ta) g tb D σ H := by
  refine h _ ⟨n, rfl, by omega, by omega, for_range (lo := 0) (n := n.toNat) Pv h0 (fun i σ' H' hi p => ?_) hd⟩
  have e : (0 : Int) + (i : Int) = (i : Int) := Int.zero_add _
  rw [e]
  exact hs i σ' H' (by omega) p
theorem s_forL {a : Addr} {xs : List V} (h : ∀ R : VK, R (.ref a) H → tl σ H R) (hx : SqL K H a xs) (Pv : Nat → L2.St → Hp → Prop) (h0 : Pv 0 σ H) (hl : ∀ (i : Nat) σ' H', Pv i σ' H' → SqL K H' a xs)
    (hs : ∀ (i : Nat) x σ' H', xs[i]? = some x → Pv i σ' H' → g x σ' H' fun σ2 H2 => tb { D with nx := Pv (i + 1), ct := Pv (i + 1), bk := D.nx } σ2 H2) (hd : ∀ σ' H', Pv xs.length σ' H' → D.nx σ' H') : tFor (iList K tl) g tb D σ H :=
  h _ ⟨a, rfl, ⟨xs, hx⟩, for_list (K := K) (a := a) (xs := xs) Pv h0 (fun i σ' H' _ p => hl i σ' H' p) hs hd⟩
end
end Z

/-! Z: defs that show lists as texts: nothing is being shown when they are called -/
namespace Z
open PySem PySem.Spec PyProof.Rows L2
structure FnG (P : Program) (w : World) (K : PySem.W.Frag) (mg : Str → Option Value) (base : Heap) (k : Nat) (f : Addr) (fd : FuncData) (ps : List Str) (sp : Sp) : Prop where
  len : ∀ vs H Q E, sp vs H Q E → vs.length = ps.length
  run : ∀ (A : Around) (outer : List Env) (s : Shared) (H : Hp) (args : Args) (us : List Value) (vs : List V) (Q : VK) (E : XK), Room k A → A.guards = some [] → Env0 P w K mg base A outer s H → BindsTo s fd args (ps.zip us) →
    Vals vs us → sp vs H Q E → codeAny (model P w) A (.call (.ref f) args) (CR (L2.CX P w) outer P w H s Q E) s
theorem FnG.of {P : Program} {w : World} {K : PySem.W.Frag} {mg : Str → Option Value} {base : Heap} {k : Nat} {f : Addr} {fd : FuncData} {ps : List Str} {sp : Sp} (F : FnOk P w K mg base (L2.CX P w) k f fd ps sp) : FnG P w K mg base k f fd ps sp :=
  ⟨F.len, fun A outer s H args us vs Q E hr _ => F.run A outer s H args us vs Q E hr⟩
theorem okG {P : Program} {w : World} {K : PySem.W.Frag} {mg : Str → Option Value} {base : Heap} {x ql : Str} {pr : Arguments} {bd : List Stmt} {sc : Scope} {dvs : List V} {kws : List (Str × V)} {f : Addr} {fd : FuncData}
    {N ps : List Str} {k : Nat} {sp : Sp} (F : FunD K x ql pr bd sc dvs kws f fd) (S : FnScope N ps sc) (len : ∀ vs H Q E, sp vs H Q E → vs.length = ps.length)
    (hb : ∀ (cdv : Value) (A : Around) (outer : List Env) (s : Shared) (H : Hp) (vs : List V) (Q : VK) (E : XK), Room k (A.deeper (envOfC ql sc s.heap.objs.size f cdv)) → (A.deeper (envOfC ql sc s.heap.objs.size f cdv)).guards = some [] → sp vs H Q E →
      ∃ t, PSs (cxOf (L2.CX P w) P w K mg base N ql sc f cdv A outer s H E) bd t ∧ t { nx := fun _ H' => Q .non H', rt := Q } (L2.start N vs) H) : FnG P w K mg base (k + 1) f fd ps sp := by
  obtain ⟨oc, od, dV, kV, doc, pm, an, cdv, ct, osl, rfl, lk, hcd, _, _⟩ := F.ex
  refine ⟨len, fun A outer s H args us vs Q E hr hg e0 bi rv hsp => ?_⟩
  have lv := len _ _ _ _ hsp
  have old : ∀ b o, base.get? b = some o → s.heap.get? b = some o := fun b o e => (e0.bs b o e).1
  have KX : K.In s.heap := e0.mod.kin.keeps old
  have kinds : ∀ y ∈ ps.zip us, sc.names.lookup y.1 = some .local ∨ (sc.names.lookup y.1 = some .cell ∧ ((cellsFrom (s.heap.objs.size + 1) sc.names []).lookup y.1).isSome = true) := by
    rintro ⟨n, v⟩ hy
    exact (S.par n (List.of_mem_zip hy).1).imp id fun q => ⟨q, PySem.W.cellsFrom_some _ _ _ (.inl q)⟩
  refine codeAny_call_function hr.depth (KX _ _ lk) rfl S.co S.gen rfl (PySem.W.codeRec_of KX hcd) (bi _ _ _ _ ?_)
  refine wpAny_newFunctionEnv_cells S.kind kinds fun env he s1 ic => ?_
  subst he
  refine ⟨(e0.mod.nolimit.keeps old).keeps ic.toInCall.keep, codeAny_func ?_⟩
  obtain ⟨t, ht, hq⟩ := hb cdv A outer s H vs Q E (hr.deeper _) hg hsp
  have I := inv_start (CX := L2.CX P w) (E := E) S hr.hd e0 lv rv ic
  refine wpAny_mono (ht.run [] s1 (L2.start N vs) H _ I hq) (fun fl s' hs => ?_) fun _ _ z => z
  cases fl with
  | ret u =>
    obtain ⟨v, σ', H', J, r', q⟩ := hs
    exact ⟨v, H', J.os, J.bare, J.base, J.hok, r', q⟩
  | next =>
    obtain ⟨σ', H', J, q⟩ := hs
    exact ⟨V.non, H', J.os, J.bare, J.base, J.hok, rfl, q⟩
  | brk => exact (hs.choose_spec.choose_spec.2 : False).elim
  | cont => exact (hs.choose_spec.choose_spec.2 : False).elim
section
variable {X : Cx} {k : Nat} {f : Addr} {fd : FuncData} {ps : List Str} {sp : Sp} {E : XK} {x : Str} {p pos : Pos} {e : Expr} {es : List Expr} {t : TA}
theorem runG {pins : List (Addr × Obj)} {σ : L2.St} {H : Hp} {s : Shared} {Q : VK} {us : List Value} {vs : List V} (F : FnG X.prog X.w X.K X.mg X.base k f fd ps sp) (hr : Room k X.A) (hG : X.A.guards = some []) (hb : Binds X.K fd ps [])
    (hx : Passes (L2.CX X.prog X.w) X E) (I : Inv X pins σ H s) (r : Vals vs us) (h : sp vs H Q E) : wpAny (model X.prog X.w) X.A (call (.ref f) us) (EP X pins σ Q) X.xe s := by
  have hl : (us ++ []).length = ps.length := by
    rw [List.append_nil, ← r.length]
    exact F.len _ _ _ _ h
  have hbi := hb s us I.kIn hl
  rw [List.append_nil] at hbi
  refine wpAny_call (codeAny_mono (F.run X.A X.stack s H ⟨us, []⟩ us vs Q E hr hG I.env0 hbi r h) fun r' s' hq => ?_)
  cases r' with
  | error er => exact hx pins σ H s er s' I hq
  | ok fl =>
    cases fl with
    | ret u =>
      exact I.after hq
    | next => exact hq.elim
    | brk => exact hq.elim
    | cont => exact hq.elim
end
end Z

namespace Z
open PySem PySem.Spec PyProof.Rows L2
section
variable {X : Cx} {k : Nat} {f : Addr} {fd : FuncData} {ps : List Str} {sp : Sp} {E : XK} {x : Str} {p pos : Pos} {e : Expr} {es : List Expr} {t : TA}
theorem pe_callG (F : FnG X.prog X.w X.K X.mg X.base k f fd ps sp) (hr : Room k X.A) (hG : X.A.guards = some []) (hg : Gl X x) (hm : X.mg x = some (.ref f)) (hk : PySem.W.keepIn X.K (.ref f) = true) (hb : Binds X.K fd ps []) (hx : Passes (L2.CX X.prog X.w) X E)
    (ha : PA X (e :: es) t) (hdb : (x == ("__debug__" : Str)) = false := by decide) (hst : starEach (e :: es) X.env = (false, eval e X.env) :: starEach es X.env := by rfl) (hpl : (backTo pos (starEach es X.env)).any (·.1) = false := by rfl) :
    PE X (.Call (.Name x p) (e :: es) [] pos) (tCall sp [] E t) := by
  refine ⟨fun pins s σ H Q I h => ?_⟩
  refine wpAny_Call_Name_kw (ld_glob I hg hm ?_ hdb)
  refine PySem.W.callWith_K (h₀ := X.base) I.ok.mod.kin hk (thn (ha.run pos pins s σ H _ I h) ?_) hst hpl
  rintro us s1 ⟨vs, H1, I1, r, q⟩
  rw [List.append_nil] at q
  exact ⟨I1.kIn, runG F hr hG hb hx I1 r q⟩
/-- repr of data -/
def rReprD (K : PySem.W.Frag) : RC := fun xs H Q => ∃ a d, xs = [.ref a] ∧ Dp K H (.ref a) d ∧ d.showable = true ∧ d.hasDict = false ∧ d.depth ≤ 60 ∧ d.shown.length ≤ sizeLine ∧ Q (.str d.shown) H
theorem call_reprD (hG : X.A.guards = some []) (hu : X.A.units + 64 < cLine) : CallR X (.builtin "repr") (rReprD X.K) := by
  intro pins s σ H xs us Q I r h
  obtain ⟨a, d, rfl, hd, hs, hn, hp, hz, q⟩ := h
  cases r with
  | cons r0 r1 =>
    cases r1
    obtain rfl := (show _ = Value.ref a from r0)
    obtain ⟨as, rd⟩ := Dp.reads I d _ _ hd r0
    exact PySem.repr_of_reads' rd hs (PyData.noDict_hsm hn) hG (by omega) (fun _ _ z => z) (fun h' u tk hk => ⟨.str d.shown, H, I.kept hk, ⟨u, rfl⟩, q⟩) hz
end
theorem law_callG {P : Program} {w : World} {K : PySem.W.Frag} {mg mb : Str → Option Value} {k : Nat} {fa a : Addr} {fd : FuncData} {x : Str} {sp : Sp} {s1 : Shared} {vs : List Value} {ns : List Int}
    (KX : K.In s1.heap) (hns : s1.heap.Ns mainGlobals mg) (hb : s1.heap.Ns builtinsNs mb) (hbb : ∀ x : Str, x ≠ "__name__" → mb x = bootBuiltins x) (lim : s1.heap.NoLimit) (hg : s1.gens = #[])
    (ha : s1.heap.get? a = some { cls := .type "list", data := .seq vs.toArray }) (hi : IntsAre vs ns) (hl : ns.length ≤ sizeLine) (hr : Room k callerA)
    (F : ∀ base : Heap, K.In base → base.Ns mainGlobals mg → FnG P w K mg base k fa fd [x] sp) (bi : ∀ (s : Shared) (u : Value), BindsTo s fd ⟨[u], []⟩ [(x, u)])
    (hsp : ∀ H : Hp, Only H → SqL K H a (ns.map V.int) → sp [.ref a] H (fun v _ => v = .bl true) fun _ _ _ => False) :
    codeAny (model P w) callerA (.call (.ref fa) ⟨[.ref a], []⟩) (fun r s' => r = .ok (.ret (.bool true)) ∧ OldK s1.heap s'.heap ∧ s'.os = s1.os ∧ AllBare s'.gens) s1 := by
  have rv := vals_ints hi
  have go : ∀ H : Hp, Only H → SqL K H a (ns.map V.int) → HOk P w H s1.heap → (∀ b, H b ≠ none → b = a) → (H a ≠ none → K.lookup a = none) →
      codeAny (model P w) callerA (.call (.ref fa) ⟨[.ref a], []⟩) (fun r s' => r = .ok (.ret (.bool true)) ∧ OldK s1.heap s'.heap ∧ s'.os = s1.os ∧ AllBare s'.gens) s1 := by
    intro H hO hS ok only noK
    have free : ∀ {b : Addr}, b ≠ a → H b = none := fun {b} ne => by
      cases q : H b with
      | none => rfl
      | some u => exact absurd (only b (by rw [q]; simp)) ne
    have noDict : ∀ {b : Addr} {o : Obj} {es : Array DictEntry} {ep : Nat}, s1.heap.get? b = some o → o.data = .dict es ep → H b = none := fun {b o es ep} e d => free fun z => by
      subst z
      rw [ha] at e
      cases e
      cases (show Data.seq vs.toArray _ = Data.dict es ep from d)
    have ns' : ∀ {b : Addr} {m : Str → Option Value}, s1.heap.Ns b m → (hidT s1.heap H).Ns b m := fun {b m} n => by
      obtain ⟨o, es, ep, e, d, r⟩ := n
      exact ⟨o, es, ep, hidT_get e (noDict e d), d, r⟩
    have K' : K.In (hidT s1.heap H) := fun b o e => hidT_get (KX b o e) (by
      by_cases z : b = a
      · cases q : H b with
        | none => rfl
        | some u =>
          subst z
          rw [noK (by rw [q]; simp)] at e
          cases e
      · exact free z)
    have lim' : (hidT s1.heap H).NoLimit := by
      obtain ⟨mc, h1, h2⟩ := lim
      exact ⟨mc, ns' h1, h2⟩
    have e0 : Env0 P w K mg (hidT s1.heap H) callerA [] s1 H := ⟨rfl, ⟨K', ns' hns, ⟨mb, ns' hb, hbb⟩, lim'⟩, fun _ _ e => of_hidT e, Nat.le_of_eq (hidT_size _ _), trivial, fun b z => absurd (show b ∈ ([] : List Addr) from z) (by simp), ok, .of_eq hg⟩
    refine codeAny_mono ((F _ K' (ns' hns)).run callerA [] s1 H ⟨[.ref a], []⟩ [.ref a] [.ref a] _ _ hr rfl e0 (bi s1 (.ref a)) (.cons rfl .nil) (hsp H hO hS)) ?_
    intro r s' h
    cases r with
    | error e =>
      obtain ⟨_, _, _, _, _, _, _, _, _, _, _, _, z⟩ := h
      exact z.elim
    | ok fl =>
      cases fl with
      | ret u =>
        obtain ⟨v, H', os, bare, un, ok', rr, q⟩ := h
        obtain rfl : v = .bl true := q
        obtain rfl : u = Value.bool true := rr
        refine ⟨rfl, OldK.of_keep fun b o e => ?_, os, bare⟩
        rcases hO b with z | ⟨ob, xs, z⟩
        · exact un.keep b o e z (fun y => absurd (show b ∈ ([] : List Addr) from y) (by simp)) (by simp)
        · have e1 := (ok b _ z).1
          have e2 := (ok' b _ (un.frzs b ob _ z)).1
          rw [e] at e1
          cases e1
          exact e2
      | next => exact h.elim
      | brk => exact h.elim
      | cont => exact h.elim
  have lv := hi.length
  cases hk : K.lookup a with
  | some o =>
    have e := KX a o hk
    rw [ha] at e
    cases e
    exact go (fun _ => none) (fun _ => .inl rfl) (.inr ⟨_, vs.toArray, _, hk, rfl, rfl, rfl, by rw [List.size_toArray, lv]; exact hl, by simpa using rv⟩) (fun _ _ z => nomatch z) (fun _ z => absurd rfl z) fun z => absurd rfl z
  | none =>
    have at_ : ∀ b, b ≠ a → (if b = a then some (HO.frz { cls := .type "list", data := .seq vs.toArray } (.lst (ns.map V.int))) else none) = none := fun b ne => if_neg ne
    refine go (fun b => if b = a then some (.frz { cls := .type "list", data := .seq vs.toArray } (.lst (ns.map V.int))) else none) (fun b => ?_) (.inl (.inr ⟨_, if_pos rfl⟩)) (fun b u z => ?_) (fun b z => ?_) fun _ => hk
    · by_cases q : b = a
      · exact .inr ⟨_, _, if_pos q⟩
      · exact .inl (if_neg q)
    · by_cases q : b = a
      · have z2 := (if_pos q).symm.trans z
        cases z2
        subst q
        exact ⟨ha, by rw [List.length_map]; exact hl, vs, _, rv, ha⟩
      · have z2 := (if_neg q).symm.trans z
        cases z2
    · exact Classical.byContradiction fun q => z (if_neg q)
theorem walk_endG {l : PySem.W.OpenLaw} {n k : Nat} {q : Program} {loose : List Str} {XP : (Str → Option Value) → Heap → Prop} {YP : World → Heap → Prop} {d : DefRec} {x : Str} (hn : l.most = some n) (hn2 : n ≤ sizeLine) (hdf : d.params.defaults = []) (hr : Room k callerA)
    (F : ∀ (w : World) (mg : Str → Option Value) (fa : Addr) (h : Heap), YP w h → h.Ns mainGlobals mg → mg d.name = some (.ref fa) →
      ∃ (K : PySem.W.Frag) (fd : FuncData) (sp : Sp), K.In h ∧ (∀ (s : Shared) (u : Value), BindsTo s fd ⟨[u], []⟩ [(x, u)]) ∧
        (∀ (H : Hp) (a : Addr) (ns : List Int), ns.length ≤ n → Only H → SqL K H a (ns.map V.int) → sp [.ref a] H (fun v _ => v = .bl true) fun _ _ _ => False) ∧
        ∀ base : Heap, K.In base → base.Ns mainGlobals mg → FnG l.prog w K mg base k fa fd [x] sp) :
    PySem.W.WalkO q loose XP YP l.row.toRowW d [] (fun f vs => PySem.call f vs) := by
  refine Att.attach_call hn hdf fun w s₀ s₁ mg mb fa o pm cd doc a vs ns G Y ho hd hcd hmg hobj hints hlen hg => ?_
  obtain ⟨K, fd, sp, KX, hb, hsp, hF⟩ := F w mg fa _ Y G.T.g hmg
  exact law_callG KX G.T.g G.T.b G.T.builtins G.T.nolimit hg hobj hints (Nat.le_trans hlen hn2) hr hF hb (fun H hO hS => hsp H a ns hlen hO hS)
end Z

/-! Z: methods called with keywords, abs of an own instance, xor of words, repr beside lists -/
namespace Z
open PySem PySem.Spec PyProof.Rows L2
theorem and_step (a b : Nat) : a &&& b = 2 * (a / 2 &&& b / 2) + (a % 2) * (b % 2) := by
  have h1 : (a &&& b) / 2 = a / 2 &&& b / 2 := Nat.and_div_two
  have h2 : (a &&& b) % 2 = (a % 2) * (b % 2) := by
    have e := Nat.and_mod_two_pow (a := a) (b := b) (n := 1)
    simp only [Nat.pow_one] at e
    rw [e]
    rcases Nat.mod_two_eq_zero_or_one a with h | h <;> rcases Nat.mod_two_eq_zero_or_one b with h' | h' <;> rw [h, h'] <;> rfl
  omega
theorem xor_le : ∀ (n a b : Nat), a < 2 ^ n → b < 2 ^ n → a + b - 2 * (a &&& b) < 2 ^ n ∧ 2 * (a &&& b) ≤ a + b := by
  intro n
  induction n with
  | zero => intro a b ha hb; simp at ha hb; subst ha; subst hb; decide
  | succ n ih =>
    intro a b ha hb
    rw [Nat.pow_succ] at ha hb ⊢
    have := ih (a / 2) (b / 2) (by omega) (by omega)
    rw [and_step a b]
    generalize a / 2 &&& b / 2 = c at *
    rcases Nat.mod_two_eq_zero_or_one a with h | h <;> rcases Nat.mod_two_eq_zero_or_one b with h' | h' <;> rw [h, h'] <;> omega
def oxor (a b : Int) : Int := Builtin.bitXor a b
theorem oxor_in {w a b : Int} (ha : InW w a) (hb : InW w b) : InW w (oxor a b) := by
  obtain ⟨h1, h2, h3, h4⟩ := ha
  obtain ⟨_, _, h5, h6⟩ := hb
  obtain ⟨m, rfl⟩ := Int.eq_ofNat_of_zero_le h3
  obtain ⟨n, rfl⟩ := Int.eq_ofNat_of_zero_le h5
  unfold oxor
  rw [bitXor_and, bitAnd_pp (Int.natCast_nonneg m) (Int.natCast_nonneg n), Int.toNat_natCast, Int.toNat_natCast]
  unfold topI at h4 h6
  have e : ((2 ^ w.toNat : Nat) : Int) = (2 : Int) ^ w.toNat := by exact_mod_cast rfl
  have := xor_le w.toNat m n (by omega) (by omega)
  refine ⟨h1, h2, by omega, ?_⟩
  unfold topI
  omega
def ofar (w v : Int) : Int := if orest w v < topI w - orest w v then orest w v else topI w - orest w v
section
variable {X : Cx} {CX : CXT} {k : Nat} {f C : Addr} {fd : FuncData} {ps ks : List Str} {sp : Sp} {E : XK} {x m : Str} {p pos apos : Pos} {e o : Expr} {es : List Expr} {kws : List Keyword} {ta : TE} {t tk : TA}
theorem run_in {A : Around} {pins : List (Addr × Obj)} {σ : L2.St} {H : Hp} {s : Shared} {Q : VK} {us : List Value} {vs : List V} (F : FnOk X.prog X.w X.K X.mg X.base CX k f fd ps sp) (hr : Room k A) (e0 : Env0 X.prog X.w X.K X.mg X.base A X.stack s H) (hb : Binds X.K fd ps [])
    (hx : Passes CX X E) (I : Inv X pins σ H s) (r : Vals vs us) (h : sp vs H Q E) : wpAny (model X.prog X.w) A (call (.ref f) us) (EP X pins σ Q) X.xe s := by
  have hl : (us ++ []).length = ps.length := by
    rw [List.append_nil, ← r.length]
    exact F.len _ _ _ _ h
  have hbi := hb s us I.kIn hl
  rw [List.append_nil] at hbi
  refine wpAny_call (codeAny_mono (F.run A X.stack s H ⟨us, []⟩ us vs Q E hr e0 hbi r h) fun r' s' hq => ?_)
  cases r' with
  | error er => exact hx pins σ H s er s' I hq
  | ok fl =>
    cases fl with
    | ret u => exact I.after hq
    | next => exact hq.elim
    | brk => exact hq.elim
    | cont => exact hq.elim
/-- abs(x) of an own instance -/
def rAbsO (C : Addr) (sp : Sp) (E : XK) : RC := fun xs H Q => ∃ a dx fs, xs = [.ref a] ∧ H a = some (.ins C dx fs) ∧ sp [.ref a] H Q E
theorem call_absO (hs : PySem.W.findIn X.K (.ref C) "__abs__" = some (some (.ref f))) (hf : PySem.W.isFn X.K (.ref f) = true)
    (Fn : FnOk X.prog X.w X.K X.mg X.base CX k f fd ps sp) (hr : Room (k + 1) X.A) (hb : Binds X.K fd ps []) (hx : Passes CX X E) : CallR X (.builtin "abs") (rAbsO C sp E) := by
  intro pins s σ H xs us Q I r h
  obtain ⟨a, dx, fs, rfl, ha, hsp⟩ := h
  obtain ⟨u, rfl, ru⟩ := vals1 r
  obtain rfl : u = Value.ref a := ru
  obtain ⟨ox, od, i1⟩ := ins_look I ha
  refine PySem.Calls.call_function_entry kind_abs plain_abs entry_abs (args_abs _) ?_
  unfold Builtin.«abs»
  refine wpAny_bind (m := oneArg "abs" _) (wpAny_pure ?_)
  refine wpAny_bind (m := callSpecial? (.ref a) (Str.ofString "__abs__")) (PySem.W.special_fn I.kIn i1 hs (beq_iff_eq.mp hf) ?_)
  refine wpAny_mono (run_in (vs := [.ref a]) Fn (Room.in1 hr) I.env0.in1 hb hx I (.cons rfl .nil) hsp) (fun v s' hv => ?_) fun _ _ z => z
  exact wpAny_pure ⟨_, rfl, hv⟩
theorem FunD.kbindsN {K : PySem.W.Frag} {x ql : Str} {pr : Arguments} {bd : List Stmt} {sc : Scope} {kws : List (Str × V)} (F : FunD K x ql pr bd sc [] kws f fd) (n : Nat) (ks : List Str) (g : {α : Type} → List α → List α → List α)
    (hrel : ∀ {vs zs : List V} {us ws : List Value}, Vals vs us → Vals zs ws → Vals (g vs zs) (g us ws))
    (h : ∀ (kV doc pm : Value) (an : Option Addr) (cdv ct : Value) (us ws : List Value), us.length = n → ws.length = ks.length → bindArgs (PySem.W.fnOf x ql pr bd sc .none kV doc pm an cdv ct) ⟨us, ks.zip ws⟩ = pure (ps.zip (g us ws))) : KBn K fd ps n ks (fun us ws => g us ws) (fun vs zs => g vs zs) := by
  obtain ⟨oc, od, dV, kV, doc, pm, an, cdv, ct, osl, rfl, lk, hcd, hD, hK⟩ := F.ex
  rcases hD with ⟨_, rfl⟩ | ⟨e, _⟩
  · exact ⟨fun s us ws X l1 l2 => .of_eq (h kV doc pm an cdv ct us ws l1 l2), fun r1 r2 => hrel r1 r2⟩
  · exact absurd rfl e
/-- o.m(k = v, ..) -/
def tMethN (C : Addr) (m : Str) (n : Nat) (sp : Sp) (gV : List V → List V → List V) (E : XK) (ta : TE) (tk : TA) : TE := fun σ H Q => ta σ H fun x H1 => InsP C m (fun x H1 => tk σ H1 fun zs H2 => zs.length = n ∧ sp (gV [x] zs) H2 Q E) x H1
variable {g : List Value → List Value → List Value} {gV : List V → List V → List V}
theorem pe_methN {pl : Sem Bool} (he : PE X o ta) (c : Cls X.K C) (hm : Meth X.K C m f) (F : FnOk X.prog X.w X.K X.mg X.base CX k f fd ps sp) (hr : Room k X.A) (hb : KBn X.K fd ps 1 ks g gV) (hx : Passes CX X E) (hkw : PK X kws tk)
    (hall : (backToKw pos (keywordEach kws X.env)).all (·.1.isSome) = true := by rfl) (hks : (backToKw pos (keywordEach kws X.env)).filterMap (·.1) = ks := by rfl)
    (hpl : ((backTo pos (starEach [] X.env)).any (·.1) || (backToKw pos (keywordEach kws X.env)).any (·.1.isNone)) = false := by rfl)
    (ht : eval (.Call (.Attribute o m apos) [] kws pos) X.env = (do
      let ov ← eval o X.env
      standAt apos.atName
      let (f, first) ← holding [ov] (getMethod ov m pl)
      callWith pos f first (backTo pos (starEach [] X.env)) (backToKw pos (keywordEach kws X.env))) := by rfl) :
    PE X (.Call (.Attribute o m apos) [] kws pos) (tMethN C m ks.length sp gV E ta tk) := by
  refine ⟨fun pins s σ H Q I h => ?_⟩
  refine PySem.W.methodCall_KW (pl := pl) (thn (he.run pins s σ H _ I h) fun u s1 ⟨x, H1, I1, rx, a, dx, fs, ex, ea, l, q⟩ => ?_) ht
  subst ex
  obtain rfl : u = Value.ref a := rx
  refine getmeth_ok I1 ea c hm l ?_
  refine PySem.W.callWith_KW0 (first := [.ref a]) (h₀ := X.base) I.ok.mod.kin hm.kp hall (thn (hkw.run pos pins s1 σ H1 _ I1 q) fun ws s2 ⟨zs, H2, I2, rz, l2, q2⟩ => ⟨I2.kIn, ?_⟩) hpl
  rw [hks]
  exact run_fnN (us := [.ref a]) (vs := [.ref a]) F hr hb hx I2 (.cons rfl .nil) rz rfl l2 q2
theorem s_methN {σ : L2.St} {H : Hp} {Q : VK} {n : Nat} (h : ta σ H fun x H1 => InsP C m (fun x H1 => tk σ H1 fun zs H2 => zs.length = n ∧ sp (gV [x] zs) H2 Q E) x H1) : tMethN C m n sp gV E ta tk σ H Q := h
/-- abs of a word -/
theorem r_absO {a : Addr} {w v : Int} {H : Hp} {Q : VK} (ha : IsW C H a w v) (k : sp [.ref a] H Q E) : rAbsO C sp E [.ref a] H Q := ⟨a, _, _, rfl, ha.2.choose_spec, k⟩
end
end Z

/-! Z: texts of bits -/
namespace Z
open PySem PySem.Spec PyProof.Rows L2
def bitT (v : Int) : Nat → List Nat
  | 0 => []
  | n + 1 => (48 + ((v / 2 ^ n) % 2).toNat) :: bitT v n
def valT (a : Int) (l : List Nat) : Int := l.foldl (fun a (c : Nat) => 2 * a + ((c : Int) - 48)) a
theorem bitT_length (v : Int) : ∀ n, (bitT v n).length = n
  | 0 => rfl
  | n + 1 => by rw [bitT, List.length_cons, bitT_length v n]
theorem emod_pow_succ (v : Int) (n : Nat) : v % 2 ^ (n + 1) = (v / 2 ^ n) % 2 * 2 ^ n + v % 2 ^ n := by
  have hp : (0 : Int) < 2 ^ n := Int.pow_pos (by decide)
  have e1 := Int.mul_ediv_add_emod v (2 ^ n)
  have e2 := Int.mul_ediv_add_emod (v / 2 ^ n) 2
  have r0 := Int.emod_nonneg v (show (2 : Int) ^ n ≠ 0 by omega)
  have r1 := Int.emod_lt_of_pos v hp
  have b0 := Int.emod_nonneg (v / 2 ^ n) (show (2 : Int) ≠ 0 by decide)
  have b1 := Int.emod_lt_of_pos (v / 2 ^ n) (show (0 : Int) < 2 by decide)
  generalize v / 2 ^ n / 2 = q at *
  generalize (v / 2 ^ n) % 2 = b at *
  generalize v % 2 ^ n = r at *
  generalize hu : v / 2 ^ n = u at *
  have e3 : v = (b * 2 ^ n + r) + 2 ^ (n + 1) * q := by
    rw [← e1, ← e2, Int.pow_succ, Int.mul_add, Int.mul_comm b]
    have : (2 : Int) ^ n * (2 * q) = 2 ^ n * 2 * q := by rw [Int.mul_assoc]
    omega
  have lt : b * 2 ^ n + r < 2 ^ (n + 1) := by
    rw [Int.pow_succ]
    have : b = 0 ∨ b = 1 := by omega
    rcases this with rfl | rfl <;> omega
  have ge : 0 ≤ b * 2 ^ n + r := by
    have : b = 0 ∨ b = 1 := by omega
    rcases this with rfl | rfl <;> omega
  rw [e3, Int.add_mul_emod_self_left, Int.emod_eq_of_lt ge lt]
theorem valT_bit (v : Int) : ∀ (n : Nat) (a : Int), valT a (bitT v n) = a * 2 ^ n + v % 2 ^ n
  | 0, a => by
    show a = a * 2 ^ 0 + v % 2 ^ 0
    rw [Int.pow_zero, Int.emod_one]
    omega
  | n + 1, a => by
    have b0 := Int.emod_nonneg (v / 2 ^ n) (show (2 : Int) ≠ 0 by decide)
    show valT (2 * a + (((48 + ((v / 2 ^ n) % 2).toNat : Nat) : Int) - 48)) (bitT v n) = _
    rw [valT_bit v n, emod_pow_succ]
    have e : (((48 + ((v / 2 ^ n) % 2).toNat : Nat) : Int) - 48) = (v / 2 ^ n) % 2 := by omega
    rw [e, Int.add_mul, Int.pow_succ]
    have : 2 * a * 2 ^ n = a * (2 ^ n * 2) := by
      rw [Int.mul_comm 2 a, Int.mul_assoc, Int.mul_comm 2]
    omega
theorem bitT_drop (v : Int) : ∀ (n k : Nat), k ≤ n → (bitT v n).drop k = bitT v (n - k)
  | n, 0, _ => rfl
  | n + 1, k + 1, h => by
    rw [bitT, List.drop_succ_cons, bitT_drop v n k (by omega)]
    congr 1
    omega
theorem bitT_take (v : Int) : ∀ (n k : Nat), k ≤ n → (bitT v n).take k = bitT (v / 2 ^ (n - k)) k
  | n, 0, _ => by simp [bitT]
  | n + 1, k + 1, h => by
    rw [bitT, List.take_succ_cons, bitT_take v n k (by omega), bitT]
    have e : n + 1 - (k + 1) = n - k := by omega
    have e2 : v / 2 ^ n = v / 2 ^ (n - k) / 2 ^ k := by
      rw [Int.ediv_ediv_of_nonneg (Int.le_of_lt (Int.pow_pos (by decide))), ← Int.pow_add, Nat.sub_add_cancel (by omega)]
    rw [e, e2]
theorem turned_eq {w v : Int} {k : Nat} (h : InW w v) (hk : (k : Int) < w) : valT 0 ((bitT v w.toNat).drop k ++ (bitT v w.toNat).take k) = omul w v (2 ^ k) := by
  obtain ⟨h1, h2, h3, h4⟩ := id h
  have hM := topI_pos h1
  rw [bitT_drop _ _ _ (by omega), bitT_take _ _ _ (by omega)]
  unfold valT
  rw [List.foldl_append]
  show valT (valT 0 (bitT v (w.toNat - k))) (bitT (v / 2 ^ (w.toNat - k)) k) = _
  rw [valT_bit, valT_bit, Int.zero_mul, Int.zero_add, omul_norm]
  have hp : (0 : Int) < 2 ^ (w.toNat - k) := Int.pow_pos (by decide)
  have hq : (0 : Int) < 2 ^ k := Int.pow_pos (by decide)
  have e1 := Int.mul_ediv_add_emod v (2 ^ (w.toNat - k))
  have r0 := Int.emod_nonneg v (show (2 : Int) ^ (w.toNat - k) ≠ 0 by omega)
  have r1 := Int.emod_lt_of_pos v hp
  have hs : (2 : Int) ^ (w.toNat - k) * 2 ^ k = 2 ^ w.toNat := by rw [← Int.pow_add, Nat.sub_add_cancel (by omega)]
  have e2 : (2 : Int) ^ w.toNat = topI w + 1 := by unfold topI; omega
  have u0 : 0 ≤ v / 2 ^ (w.toNat - k) := Int.ediv_nonneg h3 (by omega)
  have u1 : v / 2 ^ (w.toNat - k) < 2 ^ k := by
    refine Int.ediv_lt_of_lt_mul hp ?_
    rw [Int.mul_comm, hs]
    omega
  rw [Int.emod_eq_of_lt u0 u1]
  generalize v / 2 ^ (w.toNat - k) = u at *
  generalize v % 2 ^ (w.toNat - k) = r at *
  have e3 : 2 ^ k * v = (r * 2 ^ k + u) + topI w * u := by
    rw [← e1, Int.mul_add, ← Int.mul_assoc, Int.mul_comm (2 ^ k) (2 ^ (w.toNat - k)), hs, e2, Int.add_mul, Int.mul_comm (2 ^ k) r]
    omega
  have le : r * 2 ^ k + u ≤ topI w := by
    have : r + 1 ≤ 2 ^ (w.toNat - k) := r1
    have m := Int.mul_le_mul_of_nonneg_right this (show (0 : Int) ≤ 2 ^ k by omega)
    rw [hs, e2, Int.add_mul] at m
    omega
  have rk : 0 ≤ r * 2 ^ k := Int.mul_nonneg r0 (by omega)
  have ge : 0 ≤ r * 2 ^ k + u := by omega
  have vk : 0 ≤ 2 ^ k * v := Int.mul_nonneg (by omega) h3
  have tu : 0 ≤ topI w * u := Int.mul_nonneg (by omega) u0
  rw [norm_eq (M := topI w) (s := 2 ^ k * v) (t := r * 2 ^ k + u) (by omega) vk ge ⟨fun z => by omega, fun z => ?_⟩ u e3, norm_small ge le]
  have : u = 0 := by omega
  rw [e3, this]
  omega
/-- doubling -/
theorem norm_idem {M s : Int} (hM : 0 < M) : norm M (norm M s) = norm M s := norm_small (norm_range hM).1 (norm_range hM).2
theorem norm_addL {M a b : Int} (hM : 0 < M) (ha : 0 ≤ a) (hb : 0 ≤ b) : norm M (norm M a + b) = norm M (a + b) := by
  rw [← norm_norm_add hM (norm_range hM).1 hb, norm_idem hM, norm_norm_add hM ha hb]
theorem norm_lin {M a t b : Int} (hM : 0 < M) (ha : 0 ≤ a) (ht : 0 ≤ t) (hb : 0 ≤ b) : norm M (a + t * norm M b) = norm M (a + t * b) := by
  have n0 := (norm_range (M := M) (s := b) hM).1
  rw [← norm_norm_add hM ha (Int.mul_nonneg ht n0), norm_mul_norm hM ht hb, norm_norm_add hM ha (Int.mul_nonneg ht hb)]
theorem dbl1 {M f d l g : Int} (hM : 0 < M) (hf : 0 ≤ f) (hd : 0 ≤ d) (hl : 0 ≤ l) (ho : l % 2 = 1) (h : norm M (f + l * d) = g) : norm M (norm M (f + d) + l / 2 * norm M (d + d)) = g := by
  rw [norm_addL hM (by omega) (Int.mul_nonneg (by omega) (norm_range hM).1), norm_lin hM (by omega) (by omega) (by omega), ← h]
  congr 1
  have : l = 2 * (l / 2) + 1 := by omega
  generalize l / 2 = q at *
  subst this
  rw [Int.add_mul, Int.mul_add, Int.mul_assoc]
  generalize q * d = z
  omega
theorem dbl0 {M f d l g : Int} (hM : 0 < M) (hf : 0 ≤ f) (hd : 0 ≤ d) (hl : 0 ≤ l) (ho : l % 2 = 0) (h : norm M (f + l * d) = g) : norm M (f + l / 2 * norm M (d + d)) = g := by
  rw [norm_lin hM (by omega) (by omega) (by omega), ← h]
  congr 1
  have : l = 2 * (l / 2) := by omega
  generalize l / 2 = q at *
  subst this
  rw [Int.mul_add, Int.mul_assoc]
  generalize q * d = z
  omega
/-! the steps -/
def rStrI : RC := fun xs H Q => ∃ i, xs = [.int i] ∧ i.natAbs.log2 < 1920 ∧ Q (.str (toString i)) H
def rIntS : RC := fun xs H Q => ∃ a n, xs = [.str a] ∧ PySem.intText? a = some n ∧ a.length ≤ 640 ∧ Q (.int n) H
def rAddS : R2 := fun x y H Q => ∃ i j, x = .str i ∧ y = .str j ∧ i.length + j.length ≤ sizeLine ∧ Q (.str (i ++ j)) H
section
variable {X : Cx}
theorem zc_strI : CallR X (.type "str") rStrI := call_str_int
theorem zc_intS : CallR X (.type "int") rIntS := call_int_str
theorem op_addS : OpR X (binaryOp .Add) rAddS := op_add_str
end
theorem bit_str (b : Int) (h : b = 0 ∨ b = 1) : ((toString b : String) : Str) = ⟨#[48 + b.toNat]⟩ := by
  rcases h with rfl | rfl <;> decide +kernel
theorem int_bit (b : Int) (h : b = 0 ∨ b = 1) : PySem.intText? (⟨#[48 + b.toNat]⟩ : Str) = some b := by
  rcases h with rfl | rfl <;> decide +kernel
theorem app_bit (c : Nat) (l : List Nat) : (⟨#[c]⟩ : Str) ++ (⟨l.toArray⟩ : Str) = ⟨(c :: l).toArray⟩ := by
  show Str.mk (#[c] ++ l.toArray) = _
  congr 1
  simp
theorem app_l (a l : List Nat) : (⟨a.toArray⟩ : Str) ++ (⟨l.toArray⟩ : Str) = ⟨(a ++ l).toArray⟩ := by
  show Str.mk (a.toArray ++ l.toArray) = _
  congr 1
  simp
theorem cutS_from {l : List Nat} {k : Int} (h0 : 0 ≤ k) (h1 : k ≤ l.length) : cutS ⟨l.toArray⟩ (some k) none = ⟨(l.drop k.toNat).toArray⟩ := by
  have e1 : HT.sIx l.length 0 (some k) = k.toNat := by
    unfold HT.sIx
    simp only []
    split <;> omega
  have e2 : HT.sIx l.length l.length none = l.length := rfl
  show Str.mk (((l.toArray.toList.drop (HT.sIx l.toArray.size 0 (some k))).take (HT.sIx l.toArray.size l.toArray.size none - HT.sIx l.toArray.size 0 (some k))).toArray) = _
  rw [List.size_toArray, e1, e2]
  congr 2
  show (l.drop k.toNat).take _ = _
  rw [List.take_of_length_le (by rw [List.length_drop]; omega)]
theorem cutS_to {l : List Nat} {k : Int} (h0 : 0 ≤ k) (h1 : k ≤ l.length) : cutS ⟨l.toArray⟩ none (some k) = ⟨(l.take k.toNat).toArray⟩ := by
  have e1 : HT.sIx l.length l.length (some k) = k.toNat := by
    unfold HT.sIx
    simp only []
    split <;> omega
  have e2 : HT.sIx l.length 0 none = 0 := rfl
  show Str.mk (((l.toArray.toList.drop (HT.sIx l.toArray.size 0 none)).take (HT.sIx l.toArray.size l.toArray.size (some k) - HT.sIx l.toArray.size 0 none)).toArray) = _
  rw [List.size_toArray, e1, e2]
  rfl
theorem valT_snoc (a : Int) (l : List Nat) (c : Nat) : valT a (l ++ [c]) = 2 * valT a l + ((c : Int) - 48) := by
  unfold valT
  rw [List.foldl_append]
  rfl
theorem bitT_mem (v : Int) : ∀ (n c : Nat), c ∈ bitT v n → c = 48 ∨ c = 49
  | 0, c, h => by simp [bitT] at h
  | n + 1, c, h => by
    rw [bitT, List.mem_cons] at h
    rcases h with h | h
    · have b0 := Int.emod_nonneg (v / 2 ^ n) (show (2 : Int) ≠ 0 by decide)
      have b1 := Int.emod_lt_of_pos (v / 2 ^ n) (show (0 : Int) < 2 by decide)
      omega
    · exact bitT_mem v n c h
theorem int_sign {c : Nat} (h : c = 48 ∨ c = 49) : PySem.intText? (⟨#[c]⟩ : Str) = some ((c : Int) - 48) := by
  rcases h with rfl | rfl <;> decide +kernel
/-- for .. in a text -/
def ForS (g : TG) (tb : TS) (D : Ends) (σ : L2.St) (v : V) (H : Hp) : Prop := ∃ z, v = .str z ∧ ∃ W : Nat → Nat → L2.St → Hp → Prop, (∃ m, W 0 m σ H) ∧ ∀ i m σ H, W i m σ H →
  ((Its z).stop i H ∧ D.nx σ H) ∨ ((Its z).go i H ∧ ∃ N : L2.St → Hp → Prop, (∀ σ' H', N σ' H' → ∃ m', m' < m ∧ W (i + 1) m' σ' H') ∧ ∀ x H', (Its z).yld i H x H' → g x σ H' fun σ2 H2 => tb { D with nx := N, ct := N, bk := D.nx } σ2 H2)
theorem s_forS {te : TE} {g : TG} {tb : TS} {D : Ends} {σ : L2.St} {H : Hp} (h : te σ H (ForS g tb D σ)) : tFor (iStr te) g tb D σ H := h
theorem for_S {z : Str} {g : TG} {tb : TS} {D : Ends} {σ : L2.St} {H : Hp} (Pv : Nat → L2.St → Hp → Prop) (h0 : Pv 0 σ H)
    (hs : ∀ i c σ H, z.cps[i]? = some c → Pv i σ H → g (.str ⟨#[c]⟩) σ H fun σ2 H2 => tb { D with nx := Pv (i + 1), ct := Pv (i + 1), bk := D.nx } σ2 H2) (hd : ∀ σ H, Pv z.cps.size σ H → D.nx σ H) : ForS g tb D σ (.str z) H := by
  refine ⟨z, rfl, fun i m σ H => m = z.cps.size - i ∧ i ≤ z.cps.size ∧ Pv i σ H, ⟨z.cps.size, by simp, Nat.zero_le _, h0⟩, ?_⟩
  rintro i m σ H ⟨rfl, hi, p⟩
  by_cases hlt : i < z.cps.size
  · refine .inr ⟨hlt, Pv (i + 1), fun σ' H' p' => ⟨z.cps.size - (i + 1), by omega, rfl, hlt, p'⟩, fun x H' y => ?_⟩
    obtain ⟨e, c, hc, y⟩ := y
    subst e y
    exact hs i c σ _ hc p
  · have e : i = z.cps.size := by omega
    subst e
    exact .inl ⟨Nat.le_refl _, hd σ H p⟩
def ForL (K : PySem.W.Frag) (g : TG) (tb : TS) (D : Ends) (σ : L2.St) (v : V) (H : Hp) : Prop := ∃ a, v = .ref a ∧ (∃ xs, SqL K H a xs) ∧ ∃ W : Nat → Nat → L2.St → Hp → Prop, (∃ m, W 0 m σ H) ∧ ∀ i m σ H, W i m σ H →
  ((Itl K a).stop i H ∧ D.nx σ H) ∨ ((Itl K a).go i H ∧ ∃ N : L2.St → Hp → Prop, (∀ σ' H', N σ' H' → ∃ m', m' < m ∧ W (i + 1) m' σ' H') ∧ ∀ x H', (Itl K a).yld i H x H' → g x σ H' fun σ2 H2 => tb { D with nx := N, ct := N, bk := D.nx } σ2 H2)
theorem s_forLe {K : PySem.W.Frag} {te : TE} {g : TG} {tb : TS} {D : Ends} {σ : L2.St} {H : Hp} (h : te σ H (ForL K g tb D σ)) : tFor (iList K te) g tb D σ H := h
theorem for_L {K : PySem.W.Frag} {a : Addr} {xs : List V} {g : TG} {tb : TS} {D : Ends} {σ : L2.St} {H : Hp} (hx : SqL K H a xs) (Pv : Nat → L2.St → Hp → Prop) (h0 : Pv 0 σ H) (hl : ∀ i σ H, Pv i σ H → SqL K H a xs)
    (hs : ∀ i x σ H, xs[i]? = some x → Pv i σ H → g x σ H fun σ2 H2 => tb { D with nx := Pv (i + 1), ct := Pv (i + 1), bk := D.nx } σ2 H2) (hd : ∀ σ H, Pv xs.length σ H → D.nx σ H) : ForL K g tb D σ (.ref a) H :=
  ⟨a, rfl, ⟨xs, hx⟩, for_list (K := K) (a := a) (xs := xs) Pv h0 (fun i σ' H' _ p => hl i σ' H' p) hs hd⟩
theorem atI_pairI {a b : Int} {c : Bool} : atI [V.int a, V.int b] (if c = true then 1 else 0) = some (V.int (if c = true then b else a)) := by cases c <;> rfl
theorem s_par3 {i j l : Nat} {tr : TA} {D : Ends} {σ : L2.St} {H : Hp} (k : tr σ H fun vs H1 => ∃ u v w, vs = [u, v, w] ∧ D.nx (((σ.set i (some u)).set j (some v)).set l (some w)) H1) : tPar3 i j l tr D σ H := k
/-! the promises -/
def spIs (C : Addr) : Sp := fun vs H Q _ => ∃ x w v w' v', vs = [.ref x, .int w', .int v'] ∧ IsW C H x w v ∧ Q (.bl (decide (w = w' ∧ v = v'))) H
def spLSum : Sp := fun vs H Q _ => ∃ w a b, vs = [.int w, .int a, .int b] ∧ InW w a ∧ InW w b ∧ Q (.int (osum w a b)) H
def spLMul : Sp := fun vs H Q _ => ∃ w v t, vs = [.int w, .int v, .int t] ∧ InW w v ∧ 0 ≤ t ∧ Q (.int (omul w v t)) H
def spTurn : Sp := fun vs H Q _ => ∃ w v b, vs = [.int w, .int v, .int b] ∧ InW w v ∧ Q (.int (omul w v (2 ^ (b % w).toNat))) H
def spTimes (K : PySem.W.Frag) : Sp := fun vs H Q _ => ∃ p w n, vs = [.ref p, .int w] ∧ PenAt K H p (n + 3) ∧ 1 ≤ w ∧ w ≤ 64 ∧ ∀ t H', Gr H H' → PenAt K H' p n → 0 ≤ t → t ≤ 10 ^ 30 → Q (.int t) H'
section
variable {K : PySem.W.Frag} {C : Addr} {H : Hp} {Q : VK} {E : XK} {w v a b t : Int}
theorem use_is {x : Addr} {w' v' : Int} (h : IsW C H x w v) (k : Q (.bl (decide (w = w' ∧ v = v'))) H) : spIs C [.ref x, .int w', .int v'] H Q E := ⟨x, w, v, w', v', rfl, h, k⟩
theorem use_lsum (ha : InW w a) (hb : InW w b) (k : Q (.int (osum w a b)) H) : spLSum [.int w, .int a, .int b] H Q E := ⟨w, a, b, rfl, ha, hb, k⟩
theorem use_lmul (h : InW w v) (ht : 0 ≤ t) (k : Q (.int (omul w v t)) H) : spLMul [.int w, .int v, .int t] H Q E := ⟨w, v, t, rfl, h, ht, k⟩
theorem use_turn (h : InW w v) (k : Q (.int (omul w v (2 ^ (b % w).toNat))) H) : spTurn [.int w, .int v, .int b] H Q E := ⟨w, v, b, rfl, h, k⟩
theorem use_times {p : Addr} {n : Nat} (h : PenAt K H p (n + 3)) (h1 : 1 ≤ w) (h2 : w ≤ 64) (k : ∀ t H', Gr H H' → PenAt K H' p n → 0 ≤ t → t ≤ 10 ^ 30 → Q (.int t) H') : spTimes K [.ref p, .int w] H Q E := ⟨p, w, n, rfl, h, h1, h2, k⟩
theorem r_strI {i : Int} (h : i.natAbs.log2 < 1920) (k : Q (.str (toString i)) H) : rStrI [.int i] H Q := ⟨i, rfl, h, k⟩
theorem r_intS {z : Str} {n : Int} (h : PySem.intText? z = some n) (h2 : z.length ≤ 640) (k : Q (.int n) H) : rIntS [.str z] H Q := ⟨z, n, rfl, h, h2, k⟩
theorem r_addS {y z : Str} (h : y.length + z.length ≤ sizeLine) (k : Q (.str (y ++ z)) H) : rAddS (.str y) (.str z) H Q := ⟨y, z, rfl, rfl, h, k⟩
theorem r_slS {z : Str} {lo hi : Option Int} (h : z.length ≤ sizeLine) (k : Q (.str (cutS z lo hi)) H) : rSlS (.str z) lo hi H Q := ⟨z, rfl, h, k⟩
end
theorem pow_wq (w q : Nat) : ∃ j : Int, 0 ≤ j ∧ (2 : Int) ^ (w * q) = (2 ^ w - 1) * j + 1 := by
  induction q with
  | zero => exact ⟨0, by decide, by simp⟩
  | succ q ih =>
    obtain ⟨j, h0, h⟩ := ih
    have hp : (0 : Int) < 2 ^ w := Int.pow_pos (by decide)
    refine ⟨2 ^ w * j + 1, by have := Int.mul_nonneg (Int.le_of_lt hp) h0; omega, ?_⟩
    rw [Nat.mul_succ, Int.pow_add, h]
    generalize (2 : Int) ^ w = p at *
    rw [Int.add_mul, Int.mul_add, Int.mul_assoc, Int.mul_comm j p]
    generalize p * j = y
    rw [Int.mul_one, Int.one_mul]
    omega
theorem omul_pow {w v t : Int} (h : InW w v) (ht : 0 ≤ t) : omul w v (2 ^ (t % w).toNat) = omul w v (1 * 2 ^ t.toNat) := by
  obtain ⟨h1, h2, h3, h4⟩ := id h
  have hM := topI_pos h1
  obtain ⟨j, j0, hj⟩ := pow_wq w.toNat (t / w).toNat
  have m1 := Int.emod_nonneg t (show w ≠ 0 by omega)
  have d0 : 0 ≤ t / w := Int.ediv_nonneg ht (by omega)
  have e1 := Int.mul_ediv_add_emod t w
  have e2 : t.toNat = w.toNat * (t / w).toNat + (t % w).toNat := by
    have : ((w.toNat * (t / w).toNat : Nat) : Int) = w * (t / w) := by
      rw [Int.natCast_mul, Int.toNat_of_nonneg (by omega), Int.toNat_of_nonneg d0]
    omega
  have hr : (0 : Int) < 2 ^ (t % w).toNat := Int.pow_pos (by decide)
  have hr0 : 0 ≤ (2 : Int) ^ (t % w).toNat * v := Int.mul_nonneg (Int.le_of_lt hr) h3
  have ek : 2 ^ t.toNat * v = 2 ^ (t % w).toNat * v + topI w * (j * (2 ^ (t % w).toNat * v)) := by
    rw [e2, Int.pow_add, hj]
    show ((topI w) * j + 1) * _ * v = _
    rw [Int.mul_assoc, Int.add_mul, Int.one_mul, Int.mul_assoc]
    omega
  have kk : 0 ≤ j * (2 ^ (t % w).toNat * v) := Int.mul_nonneg j0 hr0
  have hs : 0 ≤ (2 : Int) ^ t.toNat * v := Int.mul_nonneg (Int.le_of_lt (Int.pow_pos (by decide))) h3
  rw [omul_norm, omul_norm, Int.one_mul]
  refine (norm_eq (by omega) hs hr0 ⟨fun z => ?_, fun z => ?_⟩ _ ek).symm
  · have : 0 ≤ topI w * (j * (2 ^ (t % w).toNat * v)) := Int.mul_nonneg (by omega) kk
    omega
  · rw [ek, z]
    simp
/-- repr of a list of flat data -/
theorem r_reprD {K : PySem.W.Frag} {H : Hp} {Q : VK} {a : Addr} {d : PyData} (hd : Dp K H (.ref a) d) (h1 : d.showable = true) (h2 : d.hasDict = false) (h3 : d.depth ≤ 60) (h4 : d.shown.length ≤ sizeLine) (k : Q (.str d.shown) H) : rReprD K [.ref a] H Q := ⟨a, d, rfl, hd, h1, h2, h3, h4, k⟩
theorem ofar_in {w v : Int} (h : InW w v) : 0 ≤ ofar w v ∧ ofar w v ≤ topI w := by
  obtain ⟨h1, h2, h3, h4⟩ := id h
  have hM := topI_pos h1
  unfold ofar orest
  constructor <;> split <;> split <;> omega
def spRight4 (C : Addr) : Sp := fun vs H Q _ => ∃ w v b t, vs = [.int w, .int v, .int b, .int t] ∧ InW w v ∧ InW w b ∧ 0 ≤ t ∧ t ≤ 10 ^ 30 ∧ ∀ H', Ex H H' → Q (.bl true) H'
theorem bool_shown_len (c : Bool) : (PyData.bool c).shown.length ≤ 5 := by
  cases c <;> decide +kernel
theorem shown4 {f : Int} {c1 c2 c3 : Bool} (h0 : 0 ≤ f) (h1 : f < 2 ^ 64) :
    (PyData.list [.int f, .bool c1, .bool c2, .bool c3]).showable = true ∧ (PyData.list [.int f, .bool c1, .bool c2, .bool c3]).hasDict = false ∧ (PyData.list [.int f, .bool c1, .bool c2, .bool c3]).depth ≤ 60 ∧ (PyData.list [.int f, .bool c1, .bool c2, .bool c3]).shown.length ≤ sizeLine := by
  have hl : f.natAbs.log2 < 1920 := by
    have h2 : f.natAbs < 2 ^ 64 := by omega
    by_cases hz : f.natAbs = 0
    · rw [hz]; decide
    · exact Nat.lt_trans ((Nat.log2_lt hz).mpr h2) (by decide)
  refine ⟨?_, rfl, ?_, ?_⟩
  · simp [PyData.showable, PyData.showableAll, hl]
  · simp [PyData.depth, PyData.depthAll]
  · have hf : (PyData.int f).shown.length ≤ 20 := toString_length_le h0 (by decide) (by omega)
    have b1 := bool_shown_len c1
    have b2 := bool_shown_len c2
    have b3 := bool_shown_len c3
    have e := listText_len_le (PyData.shownAll [.int f, .bool c1, .bool c2, .bool c3])
    have big : 1000 ≤ sizeLine := by decide
    simp only [PyData.shownAll, List.map_cons, List.map_nil, List.sum_cons, List.sum_nil, List.length_cons, List.length_nil] at e
    simp only [PyData.shown] at e hf b1 b2 b3 ⊢
    simp only [PyData.shownAll, PyData.shown] at e ⊢
    omega
end Z

/-! Z: own errors whose __init__ says super().__init__(text) and stores its parameters -/
namespace Z
open PySem PySem.W PySem.Calls PyProof.Rows PySem.HandSPX L2
/-- what the written part says of an own error's __init__ -/
structure ErrI (P : Program) (K : Frag) (C fI : Addr) (x qual : Str) (params : Arguments) (body : List Stmt) (scope : Scope) : Prop where
  lk : ∃ (oc : Value) (od : Option Addr) (doc pm : Value) (an : Option Addr) (cda : Addr) (ct : Value) (cc : Addr) (osl : Array (Option Value)),
    K.lookup fI = some ⟨oc, od, .func (ksFn x qual params body scope .none .none doc pm an (.ref cda) ct cc), osl⟩ ∧ codeIn K (.ref cda) qual = true ∧
    (∃ ccl cdd vs ccs file tf, K.lookup cda = some ⟨ccl, cdd, .fields vs, ccs⟩ ∧ vs[2]? = some (.str file tf) ∧ ((P.main.file : Str) == file) = true) ∧
    (∃ cl cld csl, K.lookup cc = some ⟨cl, cld, .cell (some (.ref C)), csl⟩)
  sup : nsIn K mainGlobals "super" = some none
  top : (P.main.scope.names.lookup ("super" : Str)).isSome = false
  su : ks_superIn K C C "__init__" = some (some (.builtin "ValueError.__init__"))
  vE : subIn K (.ref C) (.type "ValueError") = some true
  me : mroIn K C (.ref C) = some true
  tp : nsIn K cStatics "thirdparty.any" = some none
  iC : findIn K (.ref C) "__init__" = some (some (.ref fI))
  tI : typeIn K (.ref fI) = some (.type "function")
  oex : OexC K C
section
variable {P : Program} {w : World} {K : Frag} {C fI a L cda cc : Addr} {x qual : Str} {params : Arguments} {body : List Stmt} {scope : Scope} {A : Around} {E : Value → Shared → Prop} {mg mb m : Str → Option Value}
variable {hp : Heap} {g : Array GenState} {d : Drawn} {t : Nat} {os : OsState} {p0 p1 p2 p3 p4 p5 p6 : Pos} {txt : Str} {oe : Obj}
/-- the built-in __init__, bound, is called -/
theorem mw_call {nm q : Str} {N : Addr} {bs bm : List Value} {hdct : Bool} {sn : List Str} {sub : List Value} {ab : Bool} {col : Option Bool} {dd : Option Addr} {k0 k1 k2 k3 k5 : Option Value} {u t0 : Addr} {rest : List Value} {Q : Value → Shared → Prop}
    (hC : hp.get? C = some (excClassObj nm q C N bs bm hdct sn sub ab col dd k0 k1 k2 k3 k5 "ValueError.__new__")) (he : hp.get? a = some (excO C t0)) (hu : hp.get? u = some (kxs_mw "ValueError.__init__" a)) (hz : rest.length ≤ sizeLine)
    (hq : ∀ h' t1, (∀ b o, b ≠ a → hp.get? b = some o → h'.get? b = some o) → h'.get? a = some (excO C t1) → Q .none ⟨h', g, d, t, os⟩) :
    wpAny (model P w) A (call (.ref u) rest) Q E ⟨hp, g, d, t, os⟩ := by
  refine wpAny_call (codeAny_of_tree ?_)
  show wpAny _ A.in1 (callAny (.ref u) ⟨rest, []⟩) _ _ _
  simp only [callAny]
  refine wpAny_bind (wpAny_load hu ?_)
  simp only [kxs_mw, show (Value.type "method-wrapper" == Value.type "method" || Value.type "method-wrapper" == Value.type "builtin_function_or_method" || Value.type "method-wrapper" == Value.type "method-wrapper") = true by decide, if_true]
  refine KFB.if_so (by decide) ?_
  refine wpAny_bind (check_bound_init F.excBase_ValueError.toExcCallFacts hC he rfl ?_)
  refine wpAny_bind (wpAny_pure (wpAny_pure ?_))
  refine ⟨plainId_quiet F.excBase_ValueError.init.plain _, codeAny_builtin F.excBase_ValueError.initEntry ?_⟩
  exact exc_init_tree (cls := .ref C) (t0 := t0) (dv := none) (c2 := .none) (c3 := .none) (b4 := .bool false) he hz fun h' k e' _ => hq h' _ k e'
theorem not_cls {X : K.In hp} {cd : ClassData} (he : hp.get? a = some (excO C L)) (hc : clsIn K C = some cd) : a ≠ C := by
  rintro rfl
  unfold clsIn at hc
  split at hc
  · rename_i c d cd' sl ho
    have e := X _ _ ho
    rw [he] at e
    cases e
  · cases hc
/-- super().__init__(text) -/
theorem super_init {t0 : Addr} {vs : Array Value} {file : Str} {tf : Tok} {ccl cl oc doc pm ct : Value} {cdd cld od an : Option Addr} {ccs csl osl : Array (Option Value)} {ar : Arg} {Q : Flow → Shared → Prop} {kk : Nat}
    (T : ErrI P K C fI x qual params body scope) (X : K.In hp)
    (hf : K.lookup fI = some ⟨oc, od, .func (ksFn x qual params body scope .none .none doc pm an (.ref cda) ct cc), osl⟩)
    (hcode : K.lookup cda = some ⟨ccl, cdd, .fields vs, ccs⟩) (hvs : vs[2]? = some (.str file tf)) (hfile : ((P.main.file : Str) == file) = true)
    (hcell : K.lookup cc = some ⟨cl, cld, .cell (some (.ref C)), csl⟩)
    (hp1 : (params.posonlyargs ++ params.args).head? = some ar) (hG : hp.Ns mainGlobals mg) (hB : hp.Ns builtinsNs mb) (hbb : mb "super" = bootBuiltins "super") (hL : hp.Ns L m) (hv : m ar.arg = some (.ref a)) (he : hp.get? a = some (excO C t0))
    (hks : scope.names.lookup ("super" : Str) = some .globalImplicit) (hkc : scope.names.lookup ("__class__" : Str) = some .free) (hka : scope.names.lookup ar.arg = some .local) (hk : scope.kind = .function)
    {pl : Sem Bool} (hi : interactive (ksEnv qual scope L fI (.ref cda) cc) = false) (hsw : swapsWith (.Call (.Attribute (.Call (.Name "super" p0) [] [] p1) "__init__" p2) [.Constant (.str txt) kk p3] [] p4) none p5.line (ksEnv qual scope L fI (.ref cda) cc) = pure false)
    (hev : eval (.Call (.Attribute (.Call (.Name "super" p0) [] [] p1) "__init__" p2) [.Constant (.str txt) kk p3] [] p4) (ksEnv qual scope L fI (.ref cda) cc) = (do
      let ov ← attributeBase (.Call (.Name "super" p0) [] [] p1) "__init__" (ksEnv qual scope L fI (.ref cda) cc) (eval (.Call (.Name "super" p0) [] [] p1) (ksEnv qual scope L fI (.ref cda) cc))
      standAt p2.atName
      let (f, first) ← holding [ov] (getMethod ov "__init__" pl)
      callWith p4 f first (backTo p4 (starEach [.Constant (.str txt) kk p3] (ksEnv qual scope L fI (.ref cda) cc))) []))
    (hq : ∀ h' t1 tk, (∀ b o, b ≠ a → hp.get? b = some o → h'.get? b = some o) → h'.get? a = some (excO C t1) → Q .next ⟨h', g, d, tk, os⟩) :
    _root_.PySem.wpAt (model P w) A (.func body (ksEnv qual scope L fI (.ref cda) cc)) (exec (.Expr (.Call (.Attribute (.Call (.Name "super" p0) [] [] p1) "__init__" p2) [.Constant (.str txt) kk p3] [] p4) p5) (ksEnv qual scope L fI (.ref cda) cc)) Q E ⟨hp, g, d, t, os⟩ := by
  obtain ⟨nm, q, N, bs, bm, sn, sub, ab, col, dd, k0, k1, k2, k3, k5, hC, hbm⟩ := T.oex.cls
  obtain ⟨cd, hcd⟩ : ∃ cd, clsIn K C = some cd := by
    cases z : clsIn K C with
    | none =>
      have := T.su
      unfold ks_superIn at this
      rw [z] at this
      cases this
    | some cd => exact ⟨cd, rfl⟩
  obtain ⟨oD, hD1, hD2⟩ : ∃ oD, hp.get? C = some oD ∧ oD.data = .cls cd := by
    have hcd' := hcd
    unfold clsIn at hcd'
    split at hcd'
    · rename_i c d cd' sl ho
      cases hcd'
      exact ⟨_, X _ _ ho, rfl⟩
    · cases hcd'
  have hne : a ≠ C := not_cls (X := X) he hcd
  have hsu := T.su
  unfold ks_superIn at hsu
  rw [hcd] at hsu
  refine ks_wpAt_Expr_any ?_ hi hsw
  refine ks_wpAt_MethodCall ?_ hev
  refine ks_wpAt_super_base (env := ksEnv qual scope L fI (.ref cda) cc) hks hkc (by decide +kernel) rfl (X _ _ hf) rfl hp1 rfl (X _ _ hcode) rfl hvs hfile T.top ?_
  refine ks_loadName_global hk hks (loadGlobal_builtin (env := ksEnv qual scope L fI (.ref cda) cc) hG (mg_none_of X hG T.sup) hB (hbb.trans (by decide +kernel)) ⟨rfl, ?_⟩)
  refine wpAny_loadName_free hk hkc rfl ⟨_, X _ _ hcell, rfl⟩ ?_
  refine wpAny_loadName_local hk hka hL hv ?_
  refine ks_wpAny_isType_cls hD1 hD2 ⟨rfl, ?_⟩
  refine ks_wpAny_call_super hD1 hD2 he rfl (fun c e => by cases e) (looks_mroIn X T.me) (fun h1 e1 k1 => ?_)
  have X1 : K.In h1 := fun b o z => k1 _ _ (X b o z)
  have he1 := k1 _ _ he
  have I1 : InstAt h1 a (excO C t0) C none := ⟨he1, rfl, rfl, trivial⟩
  refine kxs_getMethod kxs_ValueError e1 (looks_opaque X1 T.tp) (l₀ := cd.mro) (fun A Q E s k q => wpAny_bind ((looks_clsIn X1 hcd) A _ E s k (wpAny_pure q))) rfl X1 hsu (I1.type.andThen (looks_subIn X1 T.vE)) hne (by decide +kernel) ?_
  have up : ∀ b o, h1.get? b = some o → (h1.push (kxs_mw "ValueError.__init__" a)).get? b = some o := fun b o e => Heap.get?_push_of_some _ e
  have hmw : (h1.push (kxs_mw "ValueError.__init__" a)).get? h1.objs.size = some (kxs_mw "ValueError.__init__" a) := Heap.get?_push_at rfl rfl
  refine kxs_callWith (i := "ValueError.__init__") (x := a) rfl (evalArgs_plain ?_)
  show wpAny _ A (spliced ((false, eval (.Constant (.str txt) kk p3) (ksEnv qual scope L fI (.ref cda) cc)) :: [])) _ _ _
  refine spliced_cons (wpAny_Constant_str (spliced_nil ⟨hmw, ?_⟩))
  exact mw_call (up _ _ (X1 _ _ hC)) (up _ _ he1) hmw (by show 1 ≤ sizeLine; decide) fun h' t1 k e => hq h' t1 _ (fun b o hb hbo => k b o hb (up _ _ (k1 _ _ hbo))) e
/-- how far the fields are stored -/
def Sto (n : Nat) (C a : Addr) (t1 : Addr) (done : List (Str × Value)) (h : Heap) : Prop := match done with
  | [] => h.get? a = some (excO C t1)
  | p :: r => ∃ dx, n < dx ∧ dx ≠ a ∧ h.get? a = some { cls := .ref C, dict := some dx, data := .fields #[.ref t1, .none, .none, .none, .bool false, .none] } ∧ h.Ns1 dx (fun y => (p :: r).lookup y)
theorem lookup_cons' (f g : Str) (y : Value) (fs : List (Str × Value)) : ((f, y) :: fs).lookup g = if g = f then some y else fs.lookup g := by
  by_cases h : g = f
  · subst h
    simp [List.lookup]
  · have e : (g == f) = false := by simpa using h
    rw [if_neg h]
    simp [List.lookup, e]
theorem within_lookup : ∀ (fs : List (Str × Value)), Within (fun y => fs.lookup y) (fs.map (·.1)) := fun fs y hy => by
  induction fs with
  | nil => exact absurd rfl hy
  | cons p r ih =>
    obtain ⟨f, v⟩ := p
    by_cases e : y = f
    · rw [e]
      exact List.mem_cons_self ..
    · refine List.mem_cons_of_mem _ (ih ?_)
      intro z
      exact hy ((lookup_cons' f y v r).trans ((if_neg e).trans z))
/-- self.f = p -/
theorem set_one {sn f pn : Str} {q1 q2 q3 q4 : Pos} {t1 : Addr} {done : List (Str × Value)} {v : Value} {env : Env} {cd : Code} {Q : Flow → Shared → Prop} (T : OexC K C) (X : K.In hp) (S : Sto env.locals C a t1 done hp) (hdl : done.length ≤ 900) (hno : findIn K (.ref C) f = some none)
    (hk : env.scope.kind = .function) (hL : hp.Ns env.locals m) (k1 : env.kindOf sn = some .local) (k2 : env.kindOf pn = some .local) (v1 : m sn = some (.ref a)) (v2 : m pn = some v)
    (hsw : swapsWith (.Name pn q3) (some (.Attribute (.Name sn q1) f q2)) q4.line env = pure false) (d1 : (sn == ("__debug__" : Str)) = false) (d2 : (pn == ("__debug__" : Str)) = false)
    (hq : ∀ h' tk, (∀ b o, b ≠ a → b ≤ env.locals → hp.get? b = some o → h'.get? b = some o) → Sto env.locals C a t1 ((f, v) :: done) h' → Q .next ⟨h', g, d, tk, os⟩) :
    _root_.PySem.wpAt (model P w) A cd (exec (.Assign [.Attribute (.Name sn q1) f q2] (.Name pn q3) q4) env) Q E ⟨hp, g, d, t, os⟩ := by
  obtain ⟨nm, q, N, bs, bm, sn', sub, ab, col, dd, k0, k1', k2', k3, k5, hC, hbm⟩ := T.cls
  have hcl : clsIn K C = some { name := nm, bases := bs, mro := .ref C :: bm, ns := N, qualname := q, hasDict := true, slotNames := sn', subclasses := sub, abstract := ab, collection := col, hasDel := false } := by unfold clsIn; rw [hC] <;> rfl
  refine ks_wpAt_Assign_Attr (wpAt_of_wpAny (wpAny_Name (wpAny_loadName_local hk k2 hL v2 (wpAny_Name (wpAny_loadName_local hk k1 hL v1 ?_) d1)) d2)) hsw
  cases done with
  | nil =>
    refine set_plain X (ox := excO C t1) (od := none) ⟨S, rfl, rfl, trivial⟩ T.sa ?_
    refine exc_osa X S hcl (show refsVE (.ref C :: bm) = true from hbm) rfl hno (fun h' tk' dx k dn dne hx hn' => ?_)
    refine hq h' tk' (fun b o hb _ hbo => k b o hb hbo) ⟨dx, Nat.lt_of_lt_of_le hL.lt dn, dne, hx, ?_⟩
    have e : (fun y => ((f, v) :: ([] : List (Str × Value))).lookup y) = fun y => if y = f then some v else none := funext fun y => lookup_cons' f y v []
    rw [e]
    exact hn'
  | cons p r =>
    obtain ⟨dx, hlt, dne, hx, hns⟩ := S
    have hw := within_lookup (p :: r)
    obtain ⟨oD, _, _, hoD, _, _⟩ := hns.count hw
    refine set_plain X (ox := { cls := .ref C, dict := some dx, data := .fields #[.ref t1, .none, .none, .none, .bool false, .none] }) (od := some oD) ⟨hx, rfl, rfl, hoD⟩ T.sa ?_
    refine PySem.OEX.osa_old X hx hns hw (by rw [List.length_map]; omega) hcl (show refsVE (.ref C :: bm) = true from hbm) rfl hno (fun h' tk' k hn => ?_)
    refine hq h' tk' (fun b o hb hl hbo => k b o (Nat.ne_of_lt (Nat.lt_of_le_of_lt hl hlt)) hbo) ⟨dx, hlt, dne, k _ _ (Ne.symm dne) hx, ?_⟩
    have e : (fun y => ((f, v) :: p :: r).lookup y) = fun y => if y = f then some v else (p :: r).lookup y := funext fun y => lookup_cons' f y v (p :: r)
    rw [e]
    exact hn
/-- the statement self.f = p -/
def asg (sn : Str) (q : Str × Str × Pos × Pos × Pos × Pos) : Stmt := .Assign [.Attribute (.Name sn q.2.2.1) q.1 q.2.2.2.1] (.Name q.2.1 q.2.2.2.2.1) q.2.2.2.2.2
/-- all the stores -/
theorem set_all {sn : Str} {env : Env} {cd : Code} {t1 : Addr} {Q : Flow → Shared → Prop} (T : OexC K C) (hk : env.scope.kind = .function) (k1 : env.kindOf sn = some .local) (v1 : m sn = some (.ref a)) (d1 : (sn == ("__debug__" : Str)) = false) (haL : a ≠ env.locals) (hKL : ∀ b o, K.lookup b = some o → b ≤ env.locals ∧ b ≠ a)
    (fls : List (Str × Str × Pos × Pos × Pos × Pos)) : ∀ (vs : List Value) (done : List (Str × Value)) (hp : Heap) (t : Nat), K.In hp → hp.Ns env.locals m → Sto env.locals C a t1 done hp → done.length + fls.length ≤ 900 → vs.length = fls.length →
    (∀ q ∈ fls, findIn K (.ref C) q.1 = some none ∧ env.kindOf q.2.1 = some .local ∧ (q.2.1 == ("__debug__" : Str)) = false ∧ swapsWith (.Name q.2.1 q.2.2.2.2.1) (some (.Attribute (.Name sn q.2.2.1) q.1 q.2.2.2.1)) q.2.2.2.2.2.line env = pure false) →
    (∀ (i : Nat) (q : Str × Str × Pos × Pos × Pos × Pos) (v : Value), fls[i]? = some q → vs[i]? = some v → m q.2.1 = some v) →
    (∀ h' tk, (∀ b o, b ≠ a → b ≤ env.locals → hp.get? b = some o → h'.get? b = some o) → Sto env.locals C a t1 (((fls.map (·.1)).zip vs).reverse ++ done) h' → Q .next ⟨h', g, d, tk, os⟩) →
    _root_.PySem.wpAt (model P w) A cd (execs (fls.map (asg sn)) env) Q E ⟨hp, g, d, t, os⟩ := by
  induction fls with
  | nil =>
    intro vs done hp t _ _ S _ hlen _ _ hq
    have hv : vs = [] := List.eq_nil_of_length_eq_zero hlen
    subst hv
    exact wpAt_of_wpAny (wpAny_execs_nil (hq hp t (fun _ _ _ _ e => e) S))
  | cons q fls ih =>
    intro vs done hp t X hL S hdl hlen hf hm hq
    cases vs with
    | nil => exact absurd hlen (by simp)
    | cons v vs =>
      obtain ⟨f1, f2, f3, f4⟩ := hf q (List.mem_cons_self ..)
      rw [List.length_cons] at hdl
      have hlen' : vs.length = fls.length := Nat.succ.inj hlen
      show _root_.PySem.wpAt (model P w) A cd (execs (asg sn q :: fls.map (asg sn)) env) Q E ⟨hp, g, d, t, os⟩
      refine ks_wpAt_execs_cons (set_one T X S (by omega) f1 hk hL k1 f2 v1 (hm 0 q v rfl rfl) f4 d1 f3 fun h' tk k S' => ?_)
      have hL' : h'.Ns env.locals m := by
        obtain ⟨o, es, ep, e, r⟩ := hL
        exact ⟨o, es, ep, k _ _ (Ne.symm haL) (Nat.le_refl _) e, r⟩
      refine ih vs ((q.1, v) :: done) h' tk (fun b o e => k b o (hKL b o e).2 (hKL b o e).1 (X b o e)) hL' S' (by rw [List.length_cons]; omega) hlen' (fun p hp => hf p (List.mem_cons_of_mem _ hp)) (fun i p u e1 e2 => hm (i + 1) p u e1 e2) fun h2 tk2 k2 S2 => ?_
      refine hq h2 tk2 (fun b o hb hl e => k2 b o hb hl (k b o hb hl e)) ?_
      have e : ((((q :: fls).map (·.1)).zip (v :: vs)).reverse ++ done) = ((fls.map (·.1)).zip vs).reverse ++ (q.1, v) :: done := by
        rw [List.map_cons, List.zip_cons_cons, List.reverse_cons, List.append_assoc]
        rfl
      rw [e]
      exact S2
end
end Z

/-! Z: C(e, ..) of an own error, as what is raised -/
namespace Z
open PySem PySem.W PySem.Calls PyProof.Rows PySem.HandSPX L2
theorem lookup_nodup {k : Str} {v : Value} : ∀ {l : List (Str × Value)}, (l.map (·.1)).Nodup → (k, v) ∈ l → l.lookup k = some v
  | [], _, h => by cases h
  | (f, u) :: l, nd, h => by
    obtain ⟨n1, n2⟩ := List.nodup_cons.mp nd
    rw [lookup_cons']
    rcases List.mem_cons.mp h with e | h
    · cases e
      rw [if_pos rfl]
    · rw [if_neg]
      · exact lookup_nodup n2 h
      · intro z
        exact n1 (z ▸ List.mem_map_of_mem (f := (·.1)) h)
theorem lookup_rev {k : Str} {v : Value} {l : List (Str × Value)} (nd : (l.map (·.1)).Nodup) (h : (k, v) ∈ l) : l.reverse.lookup k = some v :=
  lookup_nodup (by rw [List.map_reverse]; exact List.pairwise_reverse.mpr (nd.imp fun h => Ne.symm h)) (List.mem_reverse.mpr h)
/-- what the written text says of an error's __init__ -/
structure ErrS (params : Arguments) (scope : Scope) (qual sn : Str) (fls : List (Str × Str × Pos × Pos × Pos × Pos)) (p0 p1 p2 p3 p4 p5 : Pos) (txt : Str) (kk : Nat) : Prop where
  hp : ∃ ar, (params.posonlyargs ++ params.args).head? = some ar ∧ ar.arg = sn
  ks : scope.names.lookup ("super" : Str) = some .globalImplicit
  kc : scope.names.lookup ("__class__" : Str) = some .free
  ka : scope.names.lookup sn = some .local
  kp : ∀ q ∈ fls, scope.names.lookup q.2.1 = some .local ∧ (q.2.1 == ("__debug__" : Str)) = false
  hk : scope.kind = .function
  hc : ∀ x ∈ scope.names, x.2 ≠ .cell
  co : scope.isCoroutine = false
  gn : scope.isGenerator = false
  dn : (sn == ("__debug__" : Str)) = false
  nd : (sn :: fls.map (·.2.1)).Nodup
  hi : ∀ (L f : Addr) (cd : Value) (cc : Addr), interactive (ksEnv qual scope L f cd cc) = false
  sw : ∀ (L f : Addr) (cd : Value) (cc : Addr), swapsWith (.Call (.Attribute (.Call (.Name "super" p0) [] [] p1) "__init__" p2) [.Constant (.str txt) kk p3] [] p4) none p5.line (ksEnv qual scope L f cd cc) = pure false
  ev : ∃ pl : Sem Bool, ∀ (L f : Addr) (cd : Value) (cc : Addr), eval (.Call (.Attribute (.Call (.Name "super" p0) [] [] p1) "__init__" p2) [.Constant (.str txt) kk p3] [] p4) (ksEnv qual scope L f cd cc) = (do
      let ov ← attributeBase (.Call (.Name "super" p0) [] [] p1) "__init__" (ksEnv qual scope L f cd cc) (eval (.Call (.Name "super" p0) [] [] p1) (ksEnv qual scope L f cd cc))
      standAt p2.atName
      let (f', first) ← holding [ov] (getMethod ov "__init__" pl)
      callWith p4 f' first (backTo p4 (starEach [.Constant (.str txt) kk p3] (ksEnv qual scope L f cd cc))) [])
  sws : ∀ q ∈ fls, ∀ (L f : Addr) (cd : Value) (cc : Addr), swapsWith (.Name q.2.1 q.2.2.2.2.1) (some (.Attribute (.Name sn q.2.2.1) q.1 q.2.2.2.1)) q.2.2.2.2.2.line (ksEnv qual scope L f cd cc) = pure false
  bd : ∀ (x : Str) (body : List Stmt) (doc pm : Value) (an : Option Addr) (cda ct : Value) (cc : Addr) (u : Value) (us : List Value), us.length = fls.length → bindArgs (ksFn x qual params body scope .none .none doc pm an cda ct cc) ⟨u :: us, []⟩ = pure ((sn, u) :: (fls.map (·.2.1)).zip us)
section
variable {P : Program} {w : World} {K : Frag} {C fI a : Addr} {x qual sn : Str} {params : Arguments} {scope : Scope} {A : Around} {mg mb : Str → Option Value} {fls : List (Str × Str × Pos × Pos × Pos × Pos)}
variable {hp : Heap} {g : Array GenState} {d : Drawn} {t : Nat} {os : OsState} {p0 p1 p2 p3 p4 p5 : Pos} {txt : Str} {kk : Nat}
theorem err_run {t0 : Addr} {us : List Value} {R : Result → Shared → Prop} (T : ErrI P K C fI x qual params (.Expr (.Call (.Attribute (.Call (.Name "super" p0) [] [] p1) "__init__" p2) [.Constant (.str txt) kk p3] [] p4) p5 :: fls.map (asg sn)) scope)
    (S : ErrS params scope qual sn fls p0 p1 p2 p3 p4 p5 txt kk) (hno : ∀ q ∈ fls, findIn K (.ref C) q.1 = some none) (hl9 : fls.length ≤ 900) (hlen : us.length = fls.length) (X : K.In hp) (lim : hp.NoLimit) (hG : hp.Ns mainGlobals mg) (hB : hp.Ns builtinsNs mb) (hbb : mb "super" = bootBuiltins "super")
    (hdp : A.depth < recursionLimit) (he : hp.get? a = some (excO C t0)) (hKa : ∀ b o, K.lookup b = some o → b ≠ a)
    (hGa : mainGlobals ≠ a) (hBa : builtinsNs ≠ a)
    (hq : ∀ h' t1 tk, (∀ b o, b ≠ a → hp.get? b = some o → h'.get? b = some o) → Sto hp.objs.size C a t1 ((fls.map (·.1)).zip us).reverse h' → R (.ok (.ret .none)) ⟨h', g, d, tk, os⟩) :
    codeAny (model P w) A (.call (.ref fI) ⟨.ref a :: us, []⟩) R ⟨hp, g, d, t, os⟩ := by
  obtain ⟨oc, od, doc, pm, an, cda, ct, cc, osl, hf, hcd, ⟨ccl, cdd, vs, ccs, file, tf, hcode, hvs, hfile⟩, cl, cld, csl, hcell⟩ := T.lk
  obtain ⟨ar, hp1, har⟩ := S.hp
  obtain ⟨pl, hev⟩ := S.ev
  have ndk : (((sn, Value.ref a) :: (fls.map (·.2.1)).zip us).map (·.1)).Nodup := by
    rw [List.map_cons, List.map_fst_zip (by rw [List.length_map]; omega)]
    exact S.nd
  refine ks_codeAny_call_defAt (fd := ksFn x qual params (.Expr (.Call (.Attribute (.Call (.Name "super" p0) [] [] p1) "__init__" p2) [.Constant (.str txt) kk p3] [] p4) p5 :: fls.map (asg sn)) scope .none .none doc pm an (.ref cda) ct cc) (binds := (sn, .ref a) :: (fls.map (·.2.1)).zip us) hdp (X _ _ hf) rfl lim (codeRec_of X hcd) rfl
    (BindsTo.of_eq (S.bd _ _ _ _ _ _ _ _ _ _ hlen)) S.hc (fun y hy => ?_) (fun h0 hns hk0 => ?_) S.co S.gn S.hk
  · rcases List.mem_cons.mp hy with rfl | hy
    · exact S.ka
    · obtain ⟨q, hq1, hq2⟩ := List.mem_map.mp (List.of_mem_zip hy).1
      rw [← hq2]
      exact (S.kp q hq1).1
  · have X0 : K.In h0 := fun b o e => hk0 b o (X b o e)
    have keepNs : ∀ {b : Addr} {mm : Str → Option Value}, hp.Ns b mm → h0.Ns b mm := fun {b mm} n => by
      obtain ⟨o, es, ep, e, r⟩ := n
      exact ⟨o, es, ep, hk0 _ _ e, r⟩
    have he0 := hk0 _ _ he
    have msn : (fun y => ((sn, Value.ref a) :: (fls.map (·.2.1)).zip us).reverse.lookup y) sn = some (.ref a) := lookup_rev ndk (List.mem_cons_self ..)
    have haL : a < hp.objs.size := Heap.lt_size he
    refine ks_wpAt_execs_cons ?_
    refine super_init (L := hp.objs.size) (ar := ar) T X0 hf hcode hvs hfile hcell hp1 (keepNs hG) (keepNs hB) hbb hns (by rw [har]; exact msn) he0 S.ks S.kc (by rw [har]; exact S.ka) S.hk (S.hi _ _ _ _) (S.sw _ _ _ _) (hev _ _ _ _) fun h1 t1 tk1 k1 e1 => ?_
    have hL1 : h1.Ns hp.objs.size (fun y => ((sn, Value.ref a) :: (fls.map (·.2.1)).zip us).reverse.lookup y) := by
      obtain ⟨o, es, ep, e, r⟩ := hns
      exact ⟨o, es, ep, k1 _ _ (Nat.ne_of_gt haL) e, r⟩
    refine set_all (env := ksEnv qual scope hp.objs.size fI (.ref cda) cc) (done := []) T.oex S.hk S.ka msn S.dn (Nat.ne_of_lt haL) (fun b o e => ⟨Nat.le_of_lt (Heap.lt_size (X b o e)), hKa b o e⟩) fls us (t1 := t1) h1 tk1 (fun b o e => k1 _ _ (hKa b o e) (X0 b o e)) hL1 e1 (by simpa using hl9) hlen
      (fun q hq' => ⟨hno q hq', (S.kp q hq').1, (S.kp q hq').2, S.sws q hq' _ _ _ _⟩) (fun i q v e2 e3 => ?_) fun h2 tk2 k2 S2 => ?_
    · refine lookup_rev ndk (List.mem_cons_of_mem _ ?_)
      refine List.mem_of_getElem? (i := i) ?_
      rw [List.getElem?_zip_eq_some]
      exact ⟨by rw [List.getElem?_map, e2]; rfl, e3⟩
    · rw [List.append_nil] at S2
      exact hq h2 t1 tk2 (fun b o hb e => k2 b o hb (Nat.le_of_lt (Heap.lt_size e)) (k1 b o hb (hk0 b o e))) S2
end
/-- C(e, ..): an error with its fields, newest first -/
def tErr (C : Addr) (fns : List Str) (ta : TA) : L2.St → Hp → XK → Prop := fun σ H Q => ta σ H fun vs H1 => vs.length = fns.length ∧ ∀ d, H1 d = none → Q (.ref C) (some d) (upd H1 d (.xd (fns.zip vs).reverse))
theorem lookup_zip_rel {f : Str} : ∀ {fs : List (Str × V)} {us : List (Str × Value)}, Paired (fun p q => p.1 = q.1 ∧ RelV p.2 q.2) fs us → RelO (fs.lookup f) (us.lookup f)
  | _, _, .nil => True.intro
  | (g, v) :: fs, (g', u) :: us, .cons h r => by
    obtain ⟨h1, h2⟩ := h
    have h1 : g = g' := h1
    subst h1
    rw [lookup_put, lookup_cons']
    by_cases e : f = g
    · rw [if_pos e, if_pos e]
      exact h2
    · rw [if_neg e, if_neg e]
      exact lookup_zip_rel r
section
variable {X : Cx} {C fI : Addr} {x qual sn nm : Str} {params : Arguments} {scope : Scope} {fls : List (Str × Str × Pos × Pos × Pos × Pos)} {p0 p1 p2 p3 p4 p5 p pos : Pos} {txt : Str} {kk : Nat} {e : Expr} {es : List Expr} {ta : TA}
theorem paired_fields : ∀ {fns : List Str} {vs : List V} {us : List Value}, Vals vs us → Paired (fun p q => p.1 = q.1 ∧ RelV p.2 q.2) (fns.zip vs) (fns.zip us)
  | [], _, _, _ => by simp only [List.zip_nil_left]; exact .nil
  | _ :: _, _, _, .nil => by simp only [List.zip_nil_right]; exact .nil
  | f :: fns, v :: vs, u :: us, .cons h r => .cons ⟨rfl, h⟩ (paired_fields r)
theorem paired_rev {α β : Type} {F : α → β → Prop} : ∀ {l₁ : List α} {l₂ : List β}, Paired F l₁ l₂ → Paired F l₁.reverse l₂.reverse
  | _, _, .nil => .nil
  | a :: l₁, b :: l₂, .cons h r => by
    rw [List.reverse_cons, List.reverse_cons]
    exact (paired_rev r).snoc h
theorem pmk_err (T : ErrI X.prog X.K C fI x qual params (.Expr (.Call (.Attribute (.Call (.Name "super" p0) [] [] p1) "__init__" p2) [.Constant (.str txt) kk p3] [] p4) p5 :: fls.map (asg sn)) scope)
    (S : ErrS params scope qual sn fls p0 p1 p2 p3 p4 p5 txt kk) (hno : ∀ q ∈ fls, findIn X.K (.ref C) q.1 = some none) (hl9 : fls.length ≤ 900) (hl0 : fls ≠ []) (hr : Room 2 X.A) (hg : Gl X nm) (hm : X.mg nm = some (.ref C)) (ha : PA X (e :: es) ta)
    (hdb : (nm == ("__debug__" : Str)) = false := by decide) (he : starEach (e :: es) X.env = (false, eval e X.env) :: starEach es X.env := by rfl) (hpl : (backTo pos (starEach es X.env)).any (·.1) = false := by rfl) :
    PMk X (.Call (.Name nm p) (e :: es) [] pos) (tErr C (fls.map (·.1)) ta) := by
  intro pins s σ H Q I h
  obtain ⟨nm', q, N, bs, bm, sn', sub, ab, col, dd, k0, k1, k2, k3, k5, hC, hbm⟩ := T.oex.cls
  refine wpAny_Call_Name_kw (ld_glob I hg hm ?_ hdb)
  refine PySem.W.callWith_K (h₀ := X.base) I.ok.mod.kin T.oex.kC (thn (ha.run pos pins s σ H _ I h) fun us s1 ⟨vs, H1, I1, r1, hz, q1⟩ => ⟨I1.kIn, ?_⟩) he hpl
  show wpAny _ _ (call (.ref C) us) _ _ _
  obtain ⟨hp, g, dr, tk, os⟩ := s1
  generalize hA : hp.objs.size + 1 = a
  have hul : us.length = fls.length := by rw [← r1.length, hz, List.length_map]
  have hus : us.length ≤ sizeLine := by rw [sizeLine_eq]; omega
  have lt1 : hp.objs.size < a := by rw [← hA]; exact Nat.lt_succ_self _
  have na1 : H1 a = none := I1.hok.fresh (Nat.le_of_lt lt1)
  obtain ⟨hp2, hp2e⟩ : ∃ z, z = (hp.push (PySem.W.kdv_tup us)).push (PySem.HandSPX.excO C hp.objs.size) := ⟨_, rfl⟩
  have up2 : ∀ b o, hp.get? b = some o → hp2.get? b = some o := fun b o z => by rw [hp2e]; exact Heap.get?_push_of_some _ (Heap.get?_push_of_some _ z)
  have at2 : hp2.get? a = some (PySem.HandSPX.excO C hp.objs.size) := by rw [hp2e, ← hA]; heap_get
  have sz2 : hp.objs.size ≤ hp2.objs.size := Nat.le_trans (Nat.le_of_lt lt1) (Nat.le_of_lt (Heap.lt_size at2))
  obtain ⟨mb, hB, hbb⟩ := I1.ok.mod.blt
  have old : ∀ {b : Addr} {o : Obj}, hp.get? b = some o → b ≠ a := fun {b o} z => Nat.ne_of_lt (Nat.lt_trans (Heap.lt_size z) lt1)
  have nsk : ∀ {b : Addr} {mm : Str → Option Value}, X.base.Ns b mm → hp2.Ns b mm ∧ b ≠ a := fun {b mm} n => by
    obtain ⟨o, es, ep, z, r⟩ := n
    exact ⟨⟨o, es, ep, up2 _ _ (I1.bk _ _ z), r⟩, old (I1.bk _ _ z)⟩
  have kin2 : X.K.In hp2 := fun b o z => up2 _ _ (I1.kIn b o z)
  have lim2 : hp2.NoLimit := I1.nolimit.keeps up2
  refine wpAny_call (PySem.HandSPX.call_own F.excBase_ValueError (fun Y => PySem.HandSPX.refsVE_contains Y bm hbm) (I1.kIn _ _ hC) (looks_findIn I1.kIn T.iC) (fun me => bind_fn I1.kIn me T.tI) hus ?_)
  rw [hA, ← hp2e]
  refine err_run T S hno hl9 hul kin2 lim2 (nsk I1.ok.mod.glob).1 (nsk hB).1 (hbb _ (by decide +kernel)) (hr.make C us []).depth at2 (fun b o z => old (I1.kIn _ _ z)) (nsk I1.ok.mod.glob).2 (nsk hB).2 fun h' t1 tk' k S2 => ⟨rfl, ?_⟩
  cases hfl : ((fls.map (·.1)).zip us).reverse with
  | nil =>
    have z := congrArg List.length hfl
    simp [hul] at z
    exact absurd z hl0
  | cons p r =>
    rw [hfl] at S2
    obtain ⟨dd', hd1, hd2, hx, hns⟩ := S2
    have dsz : hp.objs.size ≤ dd' := Nat.le_trans sz2 (Nat.le_of_lt hd1)
    have nd1 : H1 dd' = none := I1.hok.fresh dsz
    have rel : ∀ f, RelO ((((fls.map (·.1)).zip vs).reverse).lookup f) ((p :: r).lookup f) := fun f => by
      rw [← hfl]
      exact lookup_zip_rel (paired_rev (paired_fields r1))
    obtain ⟨G, in1, out1⟩ := restrict h' fun b => decide (b ≠ a)
    have inG : ∀ b, b ≠ a → G.get? b = h'.get? b := fun b z => in1 b (by simpa using z)
    have outG : G.get? a = none := out1 a (by simp)
    have toG : ∀ b o, hp.get? b = some o → G.get? b = some o := fun b o z => (inG b (old z)).trans (k b o (old z) (up2 b o z))
    have J : Inv X pins σ (upd H1 dd' (.xd (((fls.map (·.1)).zip vs).reverse))) ⟨G, g, dr, tk', os⟩ :=
      I1.laid (t' := tk') toG dsz ⟨_, hns.at fun o z => (inG dd' hd2).trans z, rel⟩
    have subG : ∀ b o, G.get? b = some o → h'.get? b = some o := fun b o z => by
      by_cases q : b = a
      · rw [q, outG] at z
        cases z
      · exact (inG b q).symm.trans z
    have na3 : upd H1 dd' (.xd (((fls.map (·.1)).zip vs).reverse)) a = none := by
      rw [upd_ne (Ne.symm hd2)]
      exact na1
    exact ⟨a, _, _, ⟨G, g, dr, tk', os⟩, _, .ref C, some dd', rfl, J, subG, outG, hx, ⟨rfl, rfl⟩, rfl, rfl, na3, rfl, I1.bare, raises_own T.oex.exC T.oex.tyC, q1 dd' nd1⟩
end
end Z

/-! Z: facts of own errors; try .. except x as n, the error kept -/
namespace Z
open PySem PySem.W PySem.Calls PyProof.Rows PySem.HandSPX L2 He
/-- the class of an own error over ValueError -/
def oexB (K : Frag) (C : Addr) : Bool := match K.lookup C with
  | some o => (match o.cls, o.data, o.slots.toList with
    | .type t, .cls cd, [_, _, _, _, some (.builtin n), _] => decide (t = "type") && (decide (n = "ValueError.__new__") && ((!cd.hasDel) && (cd.hasDict && (match cd.mro with
      | .ref D :: bm => decide (D = C) && refsVE bm
      | _ => false))))
    | _, _, _ => false)
  | none => false
theorem oexB_ok {K : Frag} {C : Addr} (h : oexB K C = true) (sa : findIn K (.ref C) "__setattr__" = some (some (.builtin "object.__setattr__"))) (ex : subIn K (.ref C) (.type "BaseException") = some true) (ty : typeIn K (.ref C) = some (.type "type")) (kp : keepIn K (.ref C) = true) : OexC K C := by
  refine ⟨?_, sa, ex, ty, kp⟩
  unfold oexB at h
  split at h
  · rename_i o ho
    split at h
    · rename_i t cd k0 k1 k2 k3 n k5 e1 e2 e3
      simp only [Bool.and_eq_true, decide_eq_true_eq, Bool.not_eq_true'] at h
      obtain ⟨rfl, rfl, hd, hh, hm⟩ := h
      obtain ⟨oc, od, odt, osl⟩ := o
      dsimp only at e1 e2 e3
      subst e1 e2
      obtain ⟨nm, bs, mro, ns, qn, hd', sn, sub, ab, col, del⟩ := cd
      dsimp only at hd hh hm
      subst hd hh
      split at hm
      · rename_i D bm
        simp only [Bool.and_eq_true, decide_eq_true_eq] at hm
        obtain ⟨rfl, hv⟩ := hm
        have hs : osl = #[k0, k1, k2, k3, some (.builtin "ValueError.__new__"), k5] := by
          cases osl
          exact congrArg Array.mk e3
        subst hs
        exact ⟨nm, qn, ns, bs, bm, sn, sub, ab, col, od, k0, k1, k2, k3, k5, ho, hv⟩
      · cases hm
    · cases h
  · cases h
/-- an error's __init__: its closure, its code -/
def initB (P : Program) (K : Frag) (C fI : Addr) (qual : Str) : Bool := match (K.lookup fI).map (fun o : Obj => o.data) with
  | some (Data.func d) => (match d.closure, d.code, d.defaults, d.kwdefaults with
    | [(nm, cc)], .ref cda, .none, .none => decide (nm = "__class__") && (codeIn K (.ref cda) qual && ((match (K.lookup cda).map (fun o : Obj => o.data) with
      | some (Data.fields vs) => (match (vs[2]? : Option Value) with
        | some (Value.str file _) => (P.main.file : Str) == file
        | _ => false)
      | _ => false) && (match (K.lookup cc).map (fun o : Obj => o.data) with
      | some (Data.cell (some (.ref D))) => decide (D = C)
      | _ => false)))
    | _, _, _, _ => false)
  | _ => false
theorem init_lk {P : Program} {K : Frag} {C fI : Addr} {x qual : Str} {params : Arguments} {body : List Stmt} {scope : Scope} (e : fnAtE K fI = some (x, qual, params, .stmts body, scope, mainGlobals, [], builtinsNs)) (h : initB P K C fI qual = true) :
    ∃ (oc : Value) (od : Option Addr) (doc pm : Value) (an : Option Addr) (cda : Addr) (ct : Value) (cc : Addr) (osl : Array (Option Value)),
    K.lookup fI = some ⟨oc, od, .func (ksFn x qual params body scope .none .none doc pm an (.ref cda) ct cc), osl⟩ ∧ codeIn K (.ref cda) qual = true ∧
    (∃ ccl cdd vs ccs file tf, K.lookup cda = some ⟨ccl, cdd, .fields vs, ccs⟩ ∧ vs[2]? = some (.str file tf) ∧ ((P.main.file : Str) == file) = true) ∧
    (∃ cl cld csl, K.lookup cc = some ⟨cl, cld, .cell (some (.ref C)), csl⟩) := by
  unfold fnAtE at e
  unfold initB at h
  cases q : K.lookup fI with
  | none =>
    rw [q] at e
    cases e
  | some o =>
    obtain ⟨oc, od, dt, osl⟩ := o
    rw [q] at e h
    cases dt with
    | func d =>
      obtain ⟨n1, n2, n3, n4, n5, n6, n7, n8, n9, n10, n11, n12, n13, n14, n15⟩ := d
      have e2 : some (n1, n2, n3, n4, n5, n6, ([] : List (Str × Addr)), n15) = some (x, qual, params, FuncBody.stmts body, scope, mainGlobals, [], builtinsNs) := e
      simp only [Option.some.injEq, Prod.mk.injEq, true_and] at e2
      obtain ⟨h1, h2, h3, h4, h5, h6, h8⟩ := e2
      subst h1 h2 h3 h4 h5 h6 h8
      dsimp only [Option.map] at h
      split at h
      · rename_i nm cc cda
        simp only [Bool.and_eq_true, decide_eq_true_eq] at h
        obtain ⟨rfl, hcode, hfile, hcell⟩ := h
        refine ⟨_, _, _, _, _, cda, _, cc, _, rfl, hcode, ?_, ?_⟩
        · cases q2 : K.lookup cda with
          | none =>
            rw [q2] at hfile
            cases hfile
          | some o2 =>
            obtain ⟨c1, c2, c3, c4⟩ := o2
            rw [q2] at hfile
            cases c3 with
            | fields vs =>
              dsimp only [Option.map] at hfile
              split at hfile
              · rename_i file tk hv
                exact ⟨_, _, _, _, file, tk, rfl, hv, hfile⟩
              · cases hfile
            | _ => cases hfile
        · cases q2 : K.lookup cc with
          | none =>
            rw [q2] at hcell
            cases hcell
          | some o2 =>
            obtain ⟨c1, c2, c3, c4⟩ := o2
            rw [q2] at hcell
            dsimp only [Option.map] at hcell
            split at hcell
            · rename_i D hD
              cases hD
              have := of_decide_eq_true hcell
              subst this
              exact ⟨_, _, _, rfl⟩
            · cases hcell
      · cases h
    | _ => cases h
end Z

/-! Z: try .. except x as n, where the error is kept behind the suite -/
namespace Z
open PySem PySem.W PySem.Calls PyProof.Rows PySem.HandSPX L2
/-- an error that is kept: its class, its dict -/
def exv (a : Addr) (cls : Value) (d : Option Addr) : HO := .ext fun h => ∃ (oe : Obj) (vs : Array Value), h.get? a = some oe ∧ Zc cls d oe ∧ oe.data = .fields vs
theorem exv_ok {P : Program} {w : World} {H : Hp} {h : Heap} {a : Addr} {cls : Value} {d : Option Addr} {oe : Obj} {vs : Array Value} (e : h.get? a = some oe) (z : Zc cls d oe) (hd : oe.data = .fields vs) : ObjOk P w H h a (exv a cls d) :=
  ⟨⟨oe, vs, e, z, hd⟩, ⟨oe, e⟩, fun _ _ q k => by
    obtain ⟨o, us, q1, q2, q3⟩ := q
    exact ⟨o, us, k _ q1, q2, q3⟩⟩
theorem exv_at {P : Program} {w : World} {H : Hp} {h : Heap} {a : Addr} {cls : Value} {d : Option Addr} (hok : HOk P w H h) (e : H a = some (exv a cls d)) : ∃ (oe : Obj) (vs : Array Value), h.get? a = some oe ∧ Zc cls d oe ∧ oe.data = .fields vs := by
  have z : ObjOk P w H h a (.ext fun h => ∃ (oe : Obj) (vs : Array Value), h.get? a = some oe ∧ Zc cls d oe ∧ oe.data = .fields vs) := hok a _ e
  exact z.1
section
variable {X : Cx} {pins : List (Addr × Obj)} {σ : L2.St} {H : Hp} {s : Shared} {a : Addr} {cls : Value} {d : Option Addr} {oe : Obj} {vs : Array Value}
/-- an error's object is told from now on -/
theorem track (I : Inv X pins σ H s) (e : s.heap.get? a = some oe) (z : Zc cls d oe) (hd : oe.data = .fields vs) (na : H a = none) (old : X.s_0.heap.get? a = none) (nL : a ≠ X.env.locals) (np : ∀ p ∈ X.pn ++ pins, p.1 ≠ a) : Inv X pins σ (upd H a (exv a cls d)) s := by
  have ne : ∀ {b : Addr} {u : HO}, H b = some u → b ≠ a := fun {b u} q w => by
    rw [w, na] at q
    cases q
  refine ⟨I.ok, I.os, I.bare, ⟨I.base.keep, I.base.slot, fun b o q1 q2 q3 => ?_, I.base.there, fun b xs q => ?_, fun b o u q => ?_, fun b ps q => ?_⟩, I.loc, I.cell, ?_, fun y c q => ?_, fun p hp => ?_, fun b o q => ?_, I.len⟩
  · rw [upd_ne (fun w => by rw [w, old] at q1; cases q1)]
    exact I.base.free b o q1 q2 q3
  · have q' := I.base.tups b xs q
    rw [upd_ne (ne q')]
    exact q'
  · have q' := I.base.frzs b o u q
    rw [upd_ne (ne q')]
    exact q'
  · obtain ⟨more, q'⟩ := I.base.tbls b ps q
    exact ⟨more, by rw [upd_ne (ne q')]; exact q'⟩
  · rw [upd_ne (Ne.symm nL)]
    exact I.free
  · have nc : c ≠ a := fun w => by
      obtain ⟨v, o, c1, c2⟩ := I.cell y c q
      rw [w, e] at c1
      cases c1
      rw [hd] at c2
      cases c2
    rw [upd_ne nc]
    exact I.freeC y c q
  · obtain ⟨p1, p2, p3⟩ := I.pin p hp
    exact ⟨p1, by rw [upd_ne (np p hp)]; exact p2, p3⟩
  · by_cases w : b = a
    · subst w
      rw [upd_same] at q
      cases q
      exact exv_ok e z hd
    · rw [upd_ne w] at q
      exact (I.hok b o q).stay (fun _ _ _ y => y) (fun c hc => by rw [upd_ne (ne hc)]; exact hc) fun c xs hc => by rw [upd_ne (ne hc)]; exact hc
end
/-- what the clause wishes; behind the suite the error is told -/
def wKp (K : Frag) (c : Value) (i : Nat) (ts : Addr → Value → Option Addr → TS) (Wout : WX) (D : Ends) : WX := fun cls d σ H =>
  ∃ b, exmOne K cls c = some b ∧ (b = true → ∀ a, H a = none → ts a cls d { nx := fun σ' H' => D.nx (σ'.set i none) (upd H' a (exv a cls d)), rt := fun _ _ => False, bk := fun _ _ => False, ct := fun _ _ => False } (σ.set i (some (.ref a))) H) ∧ (b = false → Wout cls d σ H)
section
variable {X : Cx} {x n : Str} {c : Value} {i : Nat} {body suite : List Stmt} {b₀ : Stmt} {np pos pos' : Pos} {tb : WX → TS} {ts : Addr → Value → Option Addr → TS} {Wout : WX}
theorem ps_try_kp (hs : X.stack = X.env :: X.outer) (hf : X.env.frame = some X.env.locals) (hex : X.ex = []) (hN : X.N.Nodup) (hi : X.N[i]? = some n) (hln : X.env.kindOf n = some .local) (hc : Names X x c) (tk : Takes X Wout)
    (hb : ∀ (W : WX) (pn : List (Addr × Obj)) (xe : Value → Shared → Prop), Takes (X.tr pn xe) W → PassesOwn (model X.prog X.w) X.A X.env xe → PSs (X.tr pn xe) body (tb W))
    (hsu : ∀ (a : Addr) (oe : Obj) (cls : Value) (d : Option Addr) (pn : List (Addr × Obj)), Zc cls d oe → (∃ vs, oe.data = .fields vs) → PSs (X.suite a ((a, oe) :: pn)) (b₀ :: suite) (ts a cls d)) :
    PS X (.Try body [.ExceptHandler (some (.Name x np)) (some n) (b₀ :: suite) pos'] [] [] pos) (fun D σ H => tb (wKp X.K c i ts Wout D) D σ H) := by
  constructor
  intro pins s σ H D I h
  have ok := I.ok
  have fr2 : X.A.frames = some (X.env :: X.outer) := by rw [ok.frames, hs]
  refine wpAny_Try_except (wpAny_mono ((hb (wKp X.K c i ts Wout D) (X.pn ++ pins) _ (fun u s' xx => ?_) PassesOwn.looking).run [] s σ H D (I.toTry _) h) (fun f s1 sp => ?_) fun e s1 he => he)
  case refine_2 =>
    cases f with
    | ret u =>
      obtain ⟨v, σ', H', J', r, q⟩ := sp
      exact ⟨v, σ', H', J'.ofTry ok, r, q⟩
    | next =>
      obtain ⟨σ', H', J', q⟩ := sp
      exact wpAny_execs_nil ⟨σ', H', J'.ofTry ok, q⟩
    | brk =>
      obtain ⟨σ', H', J', q⟩ := sp
      exact ⟨σ', H', J'.ofTry ok, q⟩
    | cont =>
      obtain ⟨σ', H', J', q⟩ := sp
      exact ⟨σ', H', J'.ofTry ok, q⟩
  obtain ⟨a, B, sI, pins', σ', H', cls, d, rfl, J', nb, up, sky, na, os, ag, b, hb1, yes, no⟩ := xx
  have J : Inv X pins σ' H' sI := J'.ofTry ok
  rw [hs] at sky
  refine Sky.land Zc.steady fr2 hf sky fun h3 fl3 up3 => ?_
  obtain ⟨oe3, vs3, at3, zc3, fd3⟩ := fl3.there
  have offFr : a ∉ frs (X.env :: X.outer) := fun hm => by
    obtain ⟨_, o', q1, q2⟩ := fl3.2.2.1.mem hm
    rw [at3] at q1
    cases q1
    exact q2 _ fd3
  have nL : a ≠ X.env.locals := fun z => offFr (List.mem_filterMap.mpr ⟨X.env, List.mem_cons_self, by rw [hf, z]⟩)
  have nF : a ∉ X.fs := fun hm => by
    obtain ⟨e, q1, q2⟩ := List.mem_filterMap.mp hm
    exact offFr (List.mem_filterMap.mpr ⟨e, List.mem_cons_of_mem _ q1, q2⟩)
  have newI : ∀ b o, sI.heap.get? b = some o → b ∉ frs X.stack → b ≠ a := fun b o q1 q2 z => by
    have q3 := nb b o q1 q2
    rw [z, fl3.2.1] at q3
    cases q3
  have old : X.s_0.heap.get? a = none := by
    cases q : X.s_0.heap.get? a with
    | none => rfl
    | some o =>
      obtain ⟨o', q'⟩ := J.base.there a o q (by rw [hex]; simp)
      exact absurd rfl (newI a o' q' (by rw [hs]; exact offFr))
  have npn : ∀ p ∈ X.pn ++ pins, p.1 ≠ a := fun p hp => by
    obtain ⟨p1, _, p3, p4, _⟩ := J.pin p hp
    refine newI _ _ p1 ?_
    rw [hs]
    intro hm
    obtain ⟨e, q1, q2⟩ := List.mem_filterMap.mp hm
    rcases List.mem_cons.mp q1 with rfl | q1
    · rw [hf] at q2
      exact p3 (Option.some.inj q2).symm
    · exact p4 (List.mem_filterMap.mpr ⟨e, q1, q2⟩)
  have J3 : Inv X pins σ' H' { s' with heap := h3 } := J.landed nb fl3.1 (up.trans up3) os ag
  have S3 := J3.suite at3 fd3 na nL nF
  refine wpAny_handleBy_cons (codeAny_handlers_test ?_) (by intro q; cases q)
  have LM := exm_one (M := model X.prog X.w) J3.kIn (fun A Q E s k q => wpAny_typeOf_ref (k _ _ at3) (by rw [zc3.1]; exact q)) hb1
  have name : ∀ {Q : Value → Shared → Prop} {E : Value → Shared → Prop}, Q c { s' with heap := h3 } → wpAny (model X.prog X.w) (X.A.mark (some (.ref a))) (eval (.Name x np) X.env) Q E { s' with heap := h3 } := fun {Q E} q => by
    obtain ⟨hg, hdb, hm | ⟨hm, hv, hnn⟩⟩ := hc
    · exact ld_glob (X := X.suite a _) S3 hg hm q hdb
    · exact ld_blt (X := X.suite a _) S3 hg hm hv q hnn hdb
  refine name (LM.here ?_)
  cases b with
  | false =>
    show wpAny _ X.A (handleBy (.ref a) X.env []) _ _ _
    refine wpAny_handleBy_nil ?_
    obtain ⟨_, _, _, oe, vs, T, oT, ts', q1, q2, q3, q4, q5⟩ := id fl3
    unfold PySem.passOn
    refine wpAny_bind (wpAny_field q1 q3 q4 ?_)
    rw [if_neg (show ¬ ((Value.ref T == Value.none) = true) from by simp)]
    have out : wpAny (model X.prog X.w) X.A (setFlight (.ref a) X.env.frame) (fun _ s4 => wpAny (model X.prog X.w) X.A (throw (.ref a) : Sem Flow) (SP X pins D) X.xe s4) X.xe { s' with heap := h3 } := by
      rw [hf]
      exact setFlight_upZ fl3 fun h4 hh4 up4 => wpAny_throw (tk _ _ ⟨a, B, sI, pins, σ', H', cls, d, rfl, J, nb, (up.trans up3).trans up4, .inr (.inr (by rw [hs]; exact hh4)), na, os, ag, no rfl⟩)
    first
      | exact wpAny_bind (wpAny_pure (wpAny_bind out))
      | exact wpAny_bind out
  | true =>
    refine codeAny_handlers_suite_as (lands_againZ fl3 fun h4 fl4 up4 => ?_)
    have J4 : Inv X pins σ' H' { s' with heap := h4 } := J.landed nb fl4.1 ((up.trans up3).trans up4) os ag
    obtain ⟨oe4, vs4, at4, zc4, fd4⟩ := fl4.there
    refine store_ok (X := X.suite a ((a, oe4) :: (X.pn ++ pins))) (v := .ref a) (J4.suite at4 fd4 na nL nF) hN hi (.inl hln) rfl (fun s5 S5 => ?_) (.inr hln)
    refine wpAny_mono ((hsu a oe4 cls d (X.pn ++ pins) zc4 ⟨_, fd4⟩).run [] s5 _ H' _ S5 (yes rfl a na)) (fun f s6 sp => ?_) fun _ _ z => False.elim z
    cases f with
    | next =>
      obtain ⟨σ6, H6, S6, q6⟩ := sp
      have U6 : Inv { X with pn := (a, oe4) :: (X.pn ++ pins) } [] σ6 H6 s6 := ⟨⟨ok.mod, ok.kind, ok.glob, ok.blt, ok.above, ok.inj, ok.has, ok.cab, ok.hd, ok.frames, ok.stk, ok.exf, ok.bs, ok.bsz, ok.noex, ok.exfs, ok.funs, ok.frf⟩, S6.os, S6.bare, S6.base, S6.loc, S6.cell, S6.free, S6.freeC, S6.pin, S6.hok, S6.len⟩
      refine gone_ok (X := { X with pn := (a, oe4) :: (X.pn ++ pins) }) U6 hN hi hln fun s7 J7 => ?_
      obtain ⟨p1, p2, _⟩ := J7.pin (a, oe4) (List.mem_append_left _ List.mem_cons_self)
      have K7 : Inv X pins (σ6.set i none) H6 s7 := ⟨ok, J7.os, J7.bare, J7.base, J7.loc, J7.cell, J7.free, J7.freeC, fun p hp => J7.pin p (List.mem_append_left _ (List.mem_cons_of_mem _ hp)), J7.hok, J7.len⟩
      exact ⟨_, _, track K7 p1 zc4 fd4 p2 old nL npn, q6⟩
    | ret u =>
      obtain ⟨_, _, _, _, _, q6⟩ := sp
      exact q6.elim
    | brk =>
      obtain ⟨_, _, _, q6⟩ := sp
      exact q6.elim
    | cont =>
      obtain ⟨_, _, _, q6⟩ := sp
      exact q6.elim
end
end Z

/-! Z: an error that is kept: its fields, isinstance -/
namespace Z
open PySem PySem.W PySem.Calls PyProof.Rows PySem.HandSPX L2
/-- what isinstance and a field ask of an own error's class -/
structure ErrQ (K : Frag) (D : Addr) : Prop where
  xf : XfC K D
  hc : (clsIn K D).isSome = true
  ha : findIn K (.ref D) "__class__" = some (some (.builtin "object.__class__"))
  hn : specialIn K (.builtin "object.__class__") "__get__" = some (some (.builtin "getset_descriptor.__get__"))
  ht : takesIn K (.builtin "object.__class__") = some true
  hm : mroIn K D (.type "object") = some true
/-- the error at a, of the class C, with these fields -/
def IsE (H : Hp) (a C : Addr) (fs : List (Str × V)) : Prop := ∃ d, H a = some (exv a (.ref C) (some d)) ∧ H d = some (.xd fs)
section
variable {X : Cx} {pins : List (Addr × Obj)} {σ : L2.St} {H : Hp} {s : Shared} {a C : Addr} {fs : List (Str × V)} {e : Expr} {te : TE} {pos : Pos} {n : Str}
theorem isE_inst (I : Inv X pins σ H s) (h : IsE H a C fs) : ∃ (oe od : Obj) (mA : Str → Option Value), InstAt s.heap a oe C (some od) ∧ (∀ f, RelO (fs.lookup f) (mA f)) ∧ ∀ f, lookIn f od = some (mA f) := by
  obtain ⟨d, h1, h2⟩ := h
  obtain ⟨oe, vs, q1, q2, q3⟩ := exv_at I.hok h1
  have hx : ObjOk X.prog X.w H s.heap d (.xd fs) := I.hok d _ h2
  obtain ⟨mA, hns, hr⟩ := hx
  obtain ⟨od, ho, hl⟩ := lookIn_ns hns
  exact ⟨oe, od, mA, ⟨q1, q2.1, by unfold notCls; rw [q3] <;> rfl, by rw [q2.2]; exact ho⟩, hr, hl⟩
/-- e.f of a kept error -/
def tXv (K : Frag) (n : Str) (te : TE) : TE := fun σ H Q => te σ H fun x H1 => ∃ a C fs v, x = .ref a ∧ ErrQ K C ∧ findIn K (.ref C) n = some none ∧ IsE H1 a C fs ∧ fs.lookup n = some v ∧ Q v H1
theorem pe_xv (he : PE X e te) (hb : attributeBase e n X.env (eval e X.env) = eval e X.env := by rfl) : PE X (.Attribute e n pos) (tXv X.K n te) := by
  refine ⟨fun pins s σ H Q I h => attr_of hb (thn (he.run pins s σ H _ I h) fun u s1 hh => ?_)⟩
  obtain ⟨x, H1, I1, rx, a, C, fs, v, ex, T, hno, hE, l, q⟩ := hh
  subst ex
  obtain rfl : u = Value.ref a := rx
  obtain ⟨oe, od, mA, J, hr, hl⟩ := isE_inst I1 hE
  obtain ⟨u, hu, ru⟩ := RelO.some_of (v := v) (o := mA n) (by rw [← l]; exact hr n)
  exact exc_get I1.kIn J T.xf.ga T.xf.gg T.xf.exC (findObj_own T.xf.hdC hno rfl (by rw [hl, hu])) (handed_of ru) ⟨v, H1, I1.tok _, ru, q⟩
/-- isinstance(e, c) of a kept error -/
def rIsV (K : Frag) : List V → Hp → VK → Prop := fun xs H Q => ∃ (a C : Addr) (fs : List (Str × V)) (c : V) (cv : Value) (b : Bool), xs = [.ref a, c] ∧ ErrQ K C ∧ IsE H a C fs ∧ (∀ u, RelV c u → u = cv) ∧ kitOne K (.ref C) cv = some b ∧ Q (.bl b) H
theorem call_isV : CallR X (.builtin "isinstance") (rIsV X.K) := by
  intro pins s σ H xs us Q I r h
  obtain ⟨a, C, fs, c, cv, b, rfl, T, hE, hcv, ek, q⟩ := h
  cases r with
  | cons rx rr =>
    cases rr with
    | cons rt rr =>
      cases rr
      cases rx
      have ec := hcv _ rt
      subst ec
      obtain ⟨oe, od, mA, J, _, _⟩ := isE_inst I hE
      exact kia_one (kitx_exc T.hc T.xf.ga T.xf.gg T.xf.exC T.ha T.hn T.ht T.hm) I.kIn J ek (fun z => nomatch z) fun tk => ⟨.bl b, H, I.kept (t' := tk) fun _ _ z => z, rfl, q⟩
end
end Z

/-! Z: defs called with keywords alone; readings of errors; repr of ints; picks -/
namespace Z
open PySem PySem.Spec PyProof.Rows L2
section
variable {X : Cx} {CX : CXT} {k : Nat} {f : Addr} {fd : FuncData} {ps ks : List Str} {sp : Sp} {E : XK} {x : Str} {p pos : Pos} {kws : List Keyword} {tk : TA} {g : List Value → List Value → List Value} {gV : List V → List V → List V}
/-- f(k = v, ..) -/
def tCallN (n : Nat) (sp : Sp) (gV : List V → List V → List V) (E : XK) (tk : TA) : TE := fun σ H Q => tk σ H fun zs H2 => zs.length = n ∧ sp (gV [] zs) H2 Q E
theorem pe_callN (F : FnOk X.prog X.w X.K X.mg X.base CX k f fd ps sp) (hr : Room k X.A) (hg : Gl X x) (hm : X.mg x = some (.ref f)) (hk : PySem.W.keepIn X.K (.ref f) = true) (hb : KBn X.K fd ps 0 ks g gV) (hx : Passes CX X E) (hkw : PK X kws tk)
    (hall : (backToKw pos (keywordEach kws X.env)).all (·.1.isSome) = true := by rfl) (hks : (backToKw pos (keywordEach kws X.env)).filterMap (·.1) = ks := by rfl)
    (hpl : ((backTo pos (starEach [] X.env)).any (·.1) || (backToKw pos (keywordEach kws X.env)).any (·.1.isNone)) = false := by rfl) (hdb : (x == ("__debug__" : Str)) = false := by decide) :
    PE X (.Call (.Name x p) [] kws pos) (tCallN ks.length sp gV E tk) := by
  refine ⟨fun pins s σ H Q I h => wpAny_Call_Name_kw (ld_glob I hg hm ?_ hdb)⟩
  refine PySem.W.callWith_KW0 (first := []) (h₀ := X.base) I.ok.mod.kin hk hall (thn (hkw.run pos pins s σ H _ I h) fun ws s2 ⟨zs, H2, I2, rz, l2, q2⟩ => ⟨I2.kIn, ?_⟩) hpl
  rw [hks]
  exact run_fnN (us := []) (vs := []) F hr hb hx I2 .nil rz rfl l2 q2
theorem s_callN {σ : L2.St} {H : Hp} {Q : VK} {n : Nat} (h : tk σ H fun zs H2 => zs.length = n ∧ sp (gV [] zs) H2 Q E) : tCallN n sp gV E tk σ H Q := h
end
/-- repr of an int -/
def rReprI : RC := fun xs H Q => ∃ i, xs = [.int i] ∧ i.natAbs.log2 < 1920 ∧ Q (.str (toString i)) H
theorem zc_reprI {X : Cx} : CallR X (.builtin "repr") rReprI := SkE.call_repr_int
section
variable {K : PySem.W.Frag} {σ : L2.St} {H : Hp} {Q : VK} {E : XK} {C : Addr} {ta : TA} {te : TE} {D : Ends}
theorem r_reprI {i : Int} (h : i.natAbs.log2 < 1920) (k : Q (.str (toString i)) H) : rReprI [.int i] H Q := ⟨i, rfl, h, k⟩
theorem log_lt {i : Int} {a : Nat} (h0 : 0 ≤ i) (h : i < 2 ^ a) (ha : 0 < a) (hb : a ≤ 1920) : i.natAbs.log2 < 1920 := by
  have h1 : i.natAbs < 2 ^ a := pow_bound h0 h
  exact Nat.lt_of_lt_of_le (PySem.Flt.log2_lt_of ha h1) hb
theorem s_err {fns : List Str} {W : XK} (k : ta σ H fun vs H1 => vs.length = fns.length ∧ ∀ d, H1 d = none → W (.ref C) (some d) (upd H1 d (.xd (fns.zip vs).reverse))) : tErr C fns ta σ H W := k
theorem s_xv {n : Str} (k : te σ H fun x H1 => ∃ a C fs v, x = .ref a ∧ ErrQ K C ∧ PySem.W.findIn K (.ref C) n = some none ∧ IsE H1 a C fs ∧ fs.lookup n = some v ∧ Q v H1) : tXv K n te σ H Q := k
theorem s_callS {sp : Sp} {E' : L2.St → XK} (k : ta σ H fun vs H1 => sp vs H1 Q (E' σ)) : tCallS sp E' ta σ H Q := k
theorem r_isV {a D : Addr} {fs : List (Str × V)} {b : Bool} (T : ErrQ K C) (h : IsE H a C fs) (e : PySem.W.kitOne K (.ref C) (.ref D) = some b) (k : Q (.bl b) H) : rIsV K [.ref a, .ref D] H Q :=
  ⟨a, C, fs, .ref D, .ref D, b, rfl, T, h, fun u (r : u = Value.ref D) => r, e, k⟩
theorem s_aug {i : Nat} {x : V} {ti : TIp} (h : σ[i]? = some (some x)) (k : te σ H fun y H1 => ti x y H1 fun z H2 => D.nx (σ.set i (some z)) H2) : tAug i te ti D σ H := ⟨x, h, k⟩
theorem r_ip {f : Int → Int → Int} {i j : Int} (k : Q (.int (f i j)) H) : ipI f (.int i) (.int j) H Q := ⟨i, j, rfl, rfl, k⟩
theorem IsE.ex {H' : Hp} {a : Addr} {fs : List (Str × V)} (e : Ex H H') (h : IsE H a C fs) : IsE H' a C fs := by
  obtain ⟨d, h1, h2⟩ := h
  exact ⟨d, e _ _ h1, e _ _ h2⟩
theorem isE_new {a d : Addr} {fs : List (Str × V)} (h : upd H d (.xd fs) a = none) : IsE (upd (upd H d (.xd fs)) a (exv a (.ref C) (some d))) a C fs := by
  have ne : d ≠ a := fun z => by
    rw [← z, upd_same] at h
    cases h
  exact ⟨d, upd_same, by rw [upd_ne ne, upd_same]⟩
theorem ex_new2 {a d : Addr} {o u : HO} (hd : H d = none) (ha : upd H d o a = none) : Ex H (upd (upd H d o) a u) := (Ex.new hd).trans (Ex.new ha)
/-- the error's clause takes it -/
theorem w_kp {c : Value} {i : Nat} {ts : Addr → Value → Option Addr → TS} {Wout : WX} {cls : Value} {d : Option Addr} (e : PySem.W.exmOne K cls c = some true) (k : ∀ a, H a = none → ts a cls d { nx := fun σ' H' => D.nx (σ'.set i none) (upd H' a (exv a cls d)), rt := fun _ _ => False, bk := fun _ _ => False, ct := fun _ _ => False } (σ.set i (some (.ref a))) H) :
    WE (wKp K c i ts Wout D) σ cls d H := ⟨true, e, fun _ => k, fun z => nomatch z⟩
/-- e.f of a kept error -/
theorem v_xv {n : Str} {a : Addr} {fs : List (Str × V)} {v : V} (T : ErrQ K C) (hn : PySem.W.findIn K (.ref C) n = some none) (h : IsE H a C fs) (l : fs.lookup n = some v) (k : Q v H) : ∃ a' C' fs' v', V.ref a = .ref a' ∧ ErrQ K C' ∧ PySem.W.findIn K (.ref C') n = some none ∧ IsE H a' C' fs' ∧ fs'.lookup n = some v' ∧ Q v' H := ⟨a, C, fs, v, rfl, T, hn, h, l, k⟩
/-- a, b = t -/
theorem g_tup {n : Nat} {t : TGs} {a : Addr} {xs : List V} {N : L2.St → Hp → Prop} (h : SqT K H a xs) (hn : xs.length = n) (k : t xs σ H N) : gTup K n t (.ref a) σ H N := ⟨a, xs, rfl, h, hn, k⟩
theorem g_cons {t : TG} {u : TGs} {v : V} {r : List V} {N : L2.St → Hp → Prop} (k : t v σ H fun σ' H' => u r σ' H' N) : gCons t u (v :: r) σ H N := ⟨v, r, rfl, k⟩
theorem g_nil {N : L2.St → Hp → Prop} (k : N σ H) : gNil [] σ H N := ⟨rfl, k⟩
/-- a pick out of a list of ints -/
def spPick (K : PySem.W.Frag) : Sp := fun vs H Q _ => ∃ (p l : Addr) (xs : List Int) (n : Nat), vs = [.ref p, .ref l] ∧ H l = some (.lst (xs.map V.int)) ∧ 0 < xs.length ∧ xs.length ≤ 1000 ∧ PenAt K H p (n + 1) ∧ ∀ v H', Gr H H' → PenAt K H' p n → v ∈ xs → Q (.int v) H'
theorem use_pick {p l : Addr} {xs : List Int} {n : Nat} (hp : PenAt K H p (n + 1)) (hl : H l = some (.lst (xs.map V.int))) (h0 : 0 < xs.length) (h1 : xs.length ≤ 1000) (k : ∀ v H', Gr H H' → PenAt K H' p n → v ∈ xs → Q (.int v) H') : spPick K [.ref p, .ref l] H Q E := ⟨p, l, xs, n, rfl, hl, h0, h1, hp, k⟩
end
end Z

/-! Z: repr of lists, tuples and own instances, in one another -/
namespace Z
open PySem PySem.Spec PyProof.Rows L2
open PySem.Builtin PySem.Builtin.List
theorem env0_at {P : Program} {w : World} {K : PySem.W.Frag} {mg : Str → Option Value} {base : Heap} {A B : Around} {outer : List Env} {s : Shared} {H : Hp} (e : Env0 P w K mg base A outer s H) (h : B.frames = A.frames) :
    Env0 P w K mg base B outer s H := ⟨h.trans e.frames, e.mod, e.bs, e.bsz, e.funs, e.frf, e.hok, e.bare⟩
/-- where something is shown: X's frame, the codes of what is being shown around it -/
structure Rin (X : Cx) (k : Nat) (A : Around) (g : List Code) : Prop where
  fr : A.frames = X.A.frames
  gd : A.guards = some g
  rm : Room k A
/-- a code that guards, and no more -/
structure GuardC (c : Code) : Prop where
  gd : c.isGuard = true
  fr : ∀ A : Around, (A.under c).frames = A.frames
  dp : ∀ A : Around, (A.under c).depth ≤ A.depth + 1
  un : ∀ A : Around, (A.under c).units = A.units + 1
  hd : ∀ A : Around, (A.under c).handled = A.handled
theorem Rin.under {X : Cx} {k : Nat} {A : Around} {g : List Code} {c : Code} (r : Rin X (k + 1) A g) (h : GuardC c) : Rin X k (A.under c) (c :: g) :=
  ⟨(h.fr A).trans r.fr, guards_under_guard h.gd r.gd, ⟨(h.hd A).trans r.rm.hd, by have := r.rm.dp; have := h.dp A; omega, by have := r.rm.un; have := h.un A; omega⟩⟩
theorem guardC_list (args : Args) : GuardC (.builtin "list.__repr__.loop" args) :=
  ⟨isGuard_list_loop args, fun A => by first | rfl | simp [Around.under, Code.envs, pushEnvs], fun A => by first | exact Nat.le_refl _ | simp [Around.under, Code.weight, Code.isCreation, Code.isGuard, Code.isCaller, Code.frames, Code.isFrame, guardIds], fun A => units_under_list_loop A args, fun A => by first | rfl | simp [Around.under]⟩
theorem guardC_tup (args : Args) : GuardC (.builtin "tuple.__repr__" args) :=
  ⟨isGuard_tuple_repr args, fun A => by first | rfl | simp [Around.under, Code.envs, pushEnvs], fun A => by first | exact Nat.le_refl _ | simp [Around.under, Code.weight, Code.isCreation, Code.isGuard, Code.isCaller, Code.frames, Code.isFrame, guardIds], fun A => units_under_tuple_repr A args, fun A => by first | rfl | simp [Around.under]⟩
theorem guardC_tupU (args : Args) : GuardC (.builtin "tuple.__repr__.under" args) :=
  ⟨isGuard_tuple_repr_under args, fun A => by first | rfl | simp [Around.under, Code.envs, pushEnvs], fun A => by first | exact Nat.le_refl _ | simp [Around.under, Code.weight, Code.isCreation, Code.isGuard, Code.isCaller, Code.frames, Code.isFrame, guardIds], fun A => units_under_tuple_repr_under A args, fun A => by first | rfl | simp [Around.under]⟩
/-- over H, x is shown as t; the lists and tuples at as stand in it -/
def Shw (X : Cx) (k : Nat) (as : List Addr) (H : Hp) (x : V) (t : Str) : Prop :=
  ∀ (b : Nat) (A : Around) (g : List Code) (u : Value) (pins : List (Addr × Obj)) (σ : L2.St) (s : Shared) (H1 : Hp) (Q : Str → Shared → Prop), b + t.length ≤ sizeLine → Rin X k A g → (∀ a ∈ as, Clear g a) → Ex H H1 → Inv X pins σ H1 s → RelV x u →
    (∀ s' H2, Ex H1 H2 → Inv X pins σ H2 s' → Q t s') → wpAny (model X.prog X.w) A (pyReprUnder b u) Q X.xe s
theorem Shw.ex {X : Cx} {k : Nat} {as : List Addr} {H H' : Hp} {x : V} {t : Str} (h : Shw X k as H x t) (e : Ex H H') : Shw X k as H' x t :=
  fun b A g u pins σ s H1 Q hz r c e1 I rv hQ => h b A g u pins σ s H1 Q hz r c (e.trans e1) I rv hQ
theorem Shw.mono {X : Cx} {k k' : Nat} {as as' : List Addr} {H : Hp} {x : V} {t : Str} (h : Shw X k as H x t) (hk : k ≤ k') (ha : ∀ a ∈ as, a ∈ as') : Shw X k' as' H x t :=
  fun b A g u pins σ s H1 Q hz r c e1 I rv hQ => h b A g u pins σ s H1 Q hz ⟨r.fr, r.gd, r.rm.mono hk⟩ (fun a m => c a (ha a m)) e1 I rv hQ
inductive ShwAll (X : Cx) (k : Nat) (as : List Addr) (H : Hp) : List V → List Str → Prop
  | nil : ShwAll X k as H [] []
  | cons {x : V} {t : Str} {xs : List V} {ts : List Str} : Shw X k as H x t → ShwAll X k as H xs ts → ShwAll X k as H (x :: xs) (t :: ts)
section
variable {X : Cx} {k : Nat} {as : List Addr} {H : Hp} {x : V} {t : Str}
theorem ShwAll.len : ∀ {xs : List V} {ts : List Str}, ShwAll X k as H xs ts → ts.length = xs.length
  | _, _, .nil => rfl
  | _, _, .cons _ h => congrArg Nat.succ h.len
theorem ShwAll.at_ : ∀ {xs : List V} {ts : List Str}, ShwAll X k as H xs ts → ∀ (i : Nat) (x : V), xs[i]? = some x → ∃ t, ts[i]? = some t ∧ Shw X k as H x t
  | _, _, .nil, _, _, e => by simp at e
  | _, _, .cons h _, 0, x, e => by
    cases e
    exact ⟨_, rfl, h⟩
  | _, _, .cons _ h, i + 1, x, e => h.at_ i x e
theorem ShwAll.ex {H' : Hp} (e : Ex H H') : ∀ {xs : List V} {ts : List Str}, ShwAll X k as H xs ts → ShwAll X k as H' xs ts
  | _, _, .nil => .nil
  | _, _, .cons h r => .cons (h.ex e) (r.ex e)
theorem Shw.leaf (h : ∀ u, RelV x u → ReprIs X.prog X.w u t) : Shw X k [] H x t :=
  fun b A g u pins σ s H1 Q hz r c e1 I rv hQ => h u rv b hz A X.xe s Q fun tk => hQ _ H1 (Ex.refl _) (I.tok tk)
theorem Shw.int {i : Int} (h : i.natAbs.log2 < 1920) : Shw X k [] H (.int i) (toString i) := .leaf fun u ⟨tk, e⟩ => e ▸ ReprIs.int tk h
theorem Shw.bl {b : Bool} : Shw X k [] H (.bl b) (if b then "True" else "False" : String) := .leaf fun u (e : u = Value.bool b) => by
  subst e
  cases b
  · exact ReprIs.bool false
  · exact ReprIs.bool true
theorem Shw.non : Shw X k [] H .non ("None" : String) := .leaf fun u (e : u = Value.none) => e ▸ ReprIs.none
theorem Shw.str {z : Str} (h : (reprText z).length ≤ sizeLine) : Shw X k [] H (.str z) (reprText z) := .leaf fun u ⟨tk, e⟩ => e ▸ ReprIs.str z tk h
theorem strs_of : ∀ {ts : List Str} {us : List Value}, Vals (ts.map V.str) us → ∃ done : List (Str × Tok), us = strValues done ∧ done.map (·.1) = ts
  | [], _, h => by
    cases h
    exact ⟨[], rfl, rfl⟩
  | t :: ts, _, h => by
    cases h with
    | cons r h =>
      obtain ⟨u, rfl⟩ := r
      obtain ⟨done, rfl, hd⟩ := strs_of h
      exact ⟨(t, u) :: done, rfl, by rw [List.map_cons, hd]⟩
/-- the loop of a list's repr -/
theorem shw_loop {A : Around} {g : List Code} {a L : Addr} {xs : List V} {ts : List Str} {base : Nat} {pins : List (Addr × Obj)} {σ : L2.St} {R : Result → Shared → Prop} {H1 : Hp}
    (ri : Rin X (k + 1) A g) (cl : ∀ b ∈ as, Clear g b) (na : a ∉ as) (hS : SqL X.K H1 a xs) (hL : H1 L = none) (hA : ShwAll X k as H1 xs ts) (hz : base + (listText ts).length ≤ sizeLine)
    (hX : ∀ e s', X.xe e s' → R (.error e) s') (hR : ∀ s' H' u, Ex H1 H' → Inv X pins σ H' s' → R (.ok (.ret (.str (listText ts) u))) s') :
    ∀ (n i : Nat) (s : Shared) (H2 : Hp), xs.length - i = n → i ≤ xs.length → Inv X pins σ H2 s → Ex H1 H2 → H2 L = some (.lst ((ts.take i).map V.str)) →
      codeAny (model X.prog X.w) A (.builtin "list.__repr__.loop" ⟨[.ref a, rawInt i, .ref L, rawInt ((base + piled (ts.take i) : Nat) : Int)], []⟩) R s := by
  have hl := hA.len
  have pl := piled_le_listText ts
  have mem : ∀ t ∈ ts, t.length ≤ sizeLine := fun t m => Nat.le_trans (listText_mem_le m) (by omega)
  intro n
  induction n with
  | zero =>
    intro i s H2 hn hi I ex2 h2
    have ei : i = xs.length := by omega
    refine codeAny_builtin F.entry_list_repr_loop ?_
    show wpAny _ _ (Builtin.«list.__repr__.loop» ⟨[.ref a, .int (i : Int) 0, .ref L, .int ((base + piled (ts.take i) : Nat) : Int) 0], []⟩) _ _ s
    rw [repr_loop_tree]
    obtain ⟨its, hv, ⟨o, no, e1, _, _, e2⟩, _⟩ := I.list (ex2.sql hS)
    refine wpAny_bind (wpAny_listItems e1 e2 ?_)
    have hno : its.toArray[(i : Int).toNat]? = none := by
      have := hv.length
      simp
      omega
    simp only [hno]
    unfold reprEnd
    obtain ⟨_, pts, n2, hv2, hl2, e3⟩ := I.lstM h2
    refine wpAny_bind (wpAny_listItems e3 rfl ?_)
    obtain ⟨done, rfl, hd⟩ := strs_of hv2
    rw [show (strValues done).toArray.toList = strValues done from rfl, repr_fold]
    refine wpAny_bind (wpAny_pure ?_)
    rw [hd, ei, ← hl, List.take_length]
    refine wpAny_bind (wpAny_mkStr (wpAny_pure ?_) (show (listText ts).length ≤ sizeLine by omega))
    exact hR _ H2 _ ex2 (I.tok _)
  | succ n ih =>
    intro i s H2 hn hi I ex2 h2
    have lt : i < xs.length := by omega
    obtain ⟨t, ht, hsh⟩ := hA.at_ i xs[i] (by simp [lt])
    have p1 := piled_take_succ ht
    have p2 := piled_take_le ts (i + 1)
    refine codeAny_builtin F.entry_list_repr_loop ?_
    show wpAny _ _ (Builtin.«list.__repr__.loop» ⟨[.ref a, .int (i : Int) 0, .ref L, .int ((base + piled (ts.take i) : Nat) : Int) 0], []⟩) _ _ s
    rw [repr_loop_tree]
    obtain ⟨its, hv, ⟨o, no, e1, _, _, e2⟩, _⟩ := I.list (ex2.sql hS)
    refine wpAny_bind (wpAny_listItems e1 e2 ?_)
    obtain ⟨u, hu, ru⟩ := hv.get (i := i) (x := xs[i]) (by simp [lt])
    have hso : its.toArray[(i : Int).toNat]? = some u := by simpa using hu
    simp only [hso]
    rw [Int.toNat_natCast]
    refine wpAny_bind (wpAny_holding (wpAny_mono (hsh (base + piled (ts.take i) + 1) _ _ u pins σ s H2 _ (by omega) (ri.under (guardC_list _)) (fun b m => (cl b m).cons (a := a) fun e => na (e ▸ m)) ex2 I ru fun s3 H3 ex3 I3 => ?_) (fun _ _ z => z) hX))
    refine wpAny_bind (wpAny_mkStr ?_ (mem t (List.mem_of_getElem? ht)))
    refine wpAny_bind ?_
    show wpAny _ _ (updateSeq L _) _ _ _
    have h3 := ex3.get h2
    obtain ⟨_, pts, n2, hv2, hl2, e3⟩ := I3.lstM h3
    have lz : pts.length ≤ i := by
      rw [← hl2, List.length_map, List.length_take]
      omega
    have len := (textFrom_len ts 0 "[").1
    have lx : (listText ts).length = (textFrom 0 "[" ts).length + 1 := by
      unfold listText
      rw [strLen_append]
      rfl
    have xz : xs.length ≤ sizeLine := by
      rw [if_neg (Nat.lt_irrefl 0), hl] at len
      omega
    refine wpAny_updateSeq e3 rfl (wpAny_pure ⟨F.quiet_list_repr_loop _, ?_⟩) (by simp; omega) (by simp; omega)
    have q1 : ((i : Int) + 1) = ((i + 1 : Nat) : Int) := rfl
    have q2 : base + piled (ts.take i) + (t.length + 2) = base + piled (ts.take (i + 1)) := by omega
    rw [q1, q2]
    have tk : (ts.take (i + 1)).map V.str = (ts.take i).map V.str ++ [V.str t] := by
      rw [List.take_add_one, ht]
      simp
    have ne : ∀ b o, H1 b = some o → b ≠ L := fun b o q => ne_of_none q hL
    refine ih (i + 1) _ (upd H3 L (.lst ((ts.take (i + 1)).map V.str))) (by omega) lt (I3.lset (its' := pts ++ [.str t s3.toks]) h3 e3 (by simp) ?_ ?_) (fun b o q => ?_) upd_same
    · rw [tk]
      exact hv2.snoc ⟨_, rfl⟩
    · rw [List.length_map, List.length_take]
      omega
    · rw [upd_ne (ne b o q)]
      exact ex3 _ _ (ex2 _ _ q)
/-- a list's repr, from its head on -/
theorem shw_list {A : Around} {g : List Code} {a : Addr} {x : V} {xs : List V} {ts : List Str} {base : Nat} {pins : List (Addr × Obj)} {σ : L2.St} {R : Result → Shared → Prop} {s : Shared}
    (ri : Rin X (k + 1) A g) (cl : ∀ b ∈ a :: as, Clear g b) (na : a ∉ as) (hS : SqL X.K H a (x :: xs)) (hA : ShwAll X k as H (x :: xs) ts) (hz : base + (listText ts).length ≤ sizeLine) (I : Inv X pins σ H s)
    (hX : ∀ e s', X.xe e s' → R (.error e) s') (hR : ∀ s' H' u, Ex H H' → Inv X pins σ H' s' → R (.ok (.ret (.str (listText ts) u))) s') :
    wpAny (model X.prog X.w) A.in1 (Builtin.listReprAt base ⟨[.ref a], []⟩) (fun fin s' => match fin with
      | .done f => R (.ok f) s'
      | .again c' => c'.quiet = true ∧ codeAny (model X.prog X.w) A c' R s') (fun e s' => R (.error e) s') s := by
  obtain ⟨its, hv, ⟨o, no, e1, _, _, e2⟩, _⟩ := I.list hS
  cases hv with
  | cons r0 rs =>
    refine wpAny_list_repr_head (A := A.in1) ri.gd (fun v rest kw m => listSameRef_of_ne (cl a (List.mem_cons_self ..) _ _ _ _ m)) e1 e2 ?_
    refine wpAny_bind (m := newList []) (wpAny_newObj_type (wpAny_pure ⟨F.quiet_list_repr_loop _, ?_⟩))
    have J := I.lnew (ys := []) (its := []) (t' := s.toks) .nil (by decide)
    exact shw_loop (L := s.heap.objs.size) ri (fun b m => cl b (List.mem_cons_of_mem _ m)) na hS I.fresh hA hz hX hR _ 0 _ _ rfl (Nat.zero_le _) J (Ex.new I.fresh) (by rw [upd_same]; rfl)
theorem listText_0 : listText [] = ("[]" : Str) := by decide +kernel
/-- a list within something that is shown -/
theorem Shw.list {a : Addr} {xs : List V} {ts : List Str} (hS : SqL X.K H a xs) (hA : ShwAll X k as H xs ts) (na : a ∉ as) : Shw X (k + 1) (a :: as) H (.ref a) (listText ts) := by
  intro b A g u pins σ s H1 Q hz ri cl e1 I rv hQ
  obtain rfl : u = Value.ref a := rv
  have hS1 := e1.sql hS
  obtain ⟨its, hv, ⟨o, no, g1, g2, _, g3⟩, _⟩ := I.list hS1
  have hu := ri.rm.un
  refine wpAny_pyReprUnder_ref (by omega) ?_
  cases hA with
  | nil =>
    cases hv
    rw [listText_0] at hQ
    exact wpAny_pyReprObjUnder_list_empty ⟨o, g1, g2⟩ (by omega) g1 g3 ⟨_, _, rfl, hQ _ H1 (Ex.refl _) (I.tok _)⟩
  | cons h r =>
    refine wpAny_pyReprObjUnder_twin (twin := "list.__repr__.under") ⟨o, g1, g2⟩ F.slot_list_repr.toG rfl (by omega) ?_
    refine call_twin_plain F.plain_list_repr_under F.entry_list_repr_under F.check_list_repr_under ⟨o, g1, g2⟩ F.slot_list_repr.toG (F.args_list_repr_1 _) ?_
    exact shw_list ri cl na hS1 (ShwAll.ex e1 (.cons h r)) hz I (fun _ _ z => z) fun s' H' tk ex J => ⟨⟨_, _, rfl⟩, _, _, rfl, hQ s' H' ex J⟩
/-- the fold of a tuple's repr -/
theorem shw_fold {A : Around} {g : List Code} {pins : List (Addr × Obj)} {σ : L2.St} {H1 : Hp} (ri : Rin X k A g) (cl : ∀ b ∈ as, Clear g b) :
    ∀ (xs : List V) (ts : List Str) (us : List Value) (acc : Array Str) (n : Nat) (s : Shared) (H2 : Hp) (Q : (Array Str × Nat) → Shared → Prop), ShwAll X k as H1 xs ts → Vals xs us → n + piled ts ≤ sizeLine → Ex H1 H2 → Inv X pins σ H2 s →
      (∀ s' H3, Ex H2 H3 → Inv X pins σ H3 s' → Q ⟨acc ++ ts.toArray, n + piled ts⟩ s') → wpAny (model X.prog X.w) A (forIn us (⟨acc, n⟩ : (Array Str × Nat)) tupBody) Q X.xe s := by
  intro xs
  induction xs with
  | nil =>
    intro ts us acc n s H2 Q hA hv hn ex I hQ
    cases hA
    cases hv
    rw [List.forIn_nil]
    have z := hQ s H2 (Ex.refl _) I
    exact wpAny_pure (by simpa [piled] using z)
  | cons x xs ih =>
    intro ts us acc n s H2 Q hA hv hn ex I hQ
    cases hA with
    | cons h r =>
      rename_i t ts
      cases hv with
      | cons ru rv =>
        rw [piled_cons] at hn
        rw [List.forIn_cons]
        refine wpAny_bind (wpAny_bind (h (n + 1) A g _ pins σ s H2 _ (by omega) ri cl ex I ru fun s3 H3 ex3 I3 => wpAny_pure ?_))
        refine ih ts _ (acc.push t) (n + (t.length + 2)) s3 H3 Q r rv (by omega) (ex.trans ex3) I3 fun s4 H4 ex4 I4 => ?_
        have z := hQ s4 H4 (ex3.trans ex4) I4
        rw [piled_cons] at z
        simpa [Nat.add_assoc] using z
/-- a tuple's repr -/
theorem shw_tuple {A : Around} {g : List Code} {a : Addr} {xs : List V} {ts : List Str} {base : Nat} {pins : List (Addr × Obj)} {σ : L2.St} {R : Result → Shared → Prop} {s : Shared} {id : String} {rest : List Value}
    (gc : GuardC (.builtin id ⟨.ref a :: rest, []⟩)) (ri : Rin X (k + 1) A g) (cl : ∀ b ∈ a :: as, Clear g b) (na : a ∉ as) (hS : SqT X.K H a xs) (hA : ShwAll X k as H xs ts) (hz : base + (tupleText ts).length ≤ sizeLine) (I : Inv X pins σ H s)
    (hX : ∀ e s', X.xe e s' → R (.error e) s') (hR : ∀ s' H' u, Ex H H' → Inv X pins σ H' s' → R (.ok (.ret (.str (tupleText ts) u))) s') :
    wpOwn (model X.prog X.w) A (.builtin id ⟨.ref a :: rest, []⟩) (Builtin.tupleReprAt base ⟨[.ref a], []⟩) (fun fin s' => match fin with
      | .done f => R (.ok f) s'
      | .again c' => c'.quiet = true ∧ codeAny (model X.prog X.w) A c' R s') (fun e s' => R (.error e) s') s := by
  obtain ⟨its, hv, ⟨o, e1, _, no, e2⟩, _⟩ := I.tuple hS
  have hl := hA.len
  have lv := hv.length
  have pl := piled_le_tupleText ts
  rw [tuple_repr_tree, tupleReprUnderWay_eq]
  refine wpOwn_bind (wpOwn_stackTailAny ri.gd (tupGuardF_off _) (tupGuardF_pos _) ?_)
  have off : (g.any fun c => tupGuardF (.ref a) (c, default)) = false := List.any_eq_false.mpr fun c m => by
    rw [tupGuardF_of_clear (cl a (List.mem_cons_self ..)) c m]
    exact Bool.false_ne_true
  rw [off]
  refine wpOwn_of_wpAny ?_
  show wpAny _ _ (tupleReprRest base (.ref a)) _ _ s
  unfold tupleReprRest Builtin.Tuple.tupleItemsOf
  refine wpAny_bind (wpAny_bind (wpAny_seqItems e1 e2 (wpAny_pure ?_)))
  rw [← Array.forIn_toList]
  refine wpAny_bind (wpAny_mono (shw_fold (ri.under gc) (fun b m => (cl b (List.mem_cons_of_mem _ m)).cons (a := a) fun e => na (e ▸ m)) xs ts its #[] base s H _ hA hv (by omega) (Ex.refl _) I fun s3 H3 ex3 I3 => ?_) (fun _ _ z => z) hX)
  have hlen : its.toArray.size = ts.length := by simp; omega
  have te : (("(" : Str) ++ Str.join ", " ts ++ (if its.toArray.size == 1 then ",)" else ")" : String)) = tupleText ts := by
    rw [hlen]
    rfl
  simp only [List.nil_append, Array.empty_append, List.toList_toArray, Array.toList_append] at *
  rw [te]
  refine wpAny_bind (wpAny_mkStr (wpAny_pure ?_) (by omega))
  exact hR _ H3 _ ex3 (I3.tok _)
theorem Shw.tup {a : Addr} {xs : List V} {ts : List Str} (hS : SqT X.K H a xs) (hA : ShwAll X k as H xs ts) (na : a ∉ as) : Shw X (k + 1) (a :: as) H (.ref a) (tupleText ts) := by
  intro b A g u pins σ s H1 Q hz ri cl e1 I rv hQ
  obtain rfl : u = Value.ref a := rv
  have hS1 := e1.sqt hS
  obtain ⟨its, hv, ⟨o, g1, g2, no, g3⟩, _⟩ := I.tuple hS1
  have hu := ri.rm.un
  refine wpAny_pyReprUnder_ref (by omega) ?_
  refine wpAny_pyReprObjUnder_twin (twin := "tuple.__repr__.under") ⟨o, g1, g2⟩ F.slot_tuple_repr rfl (by omega) ?_
  refine call_twin_own (F.quiet_tuple_repr_under _) F.entry_tuple_repr_under F.check_tuple_repr_under ⟨o, g1, g2⟩ F.slot_tuple_repr (F.args_tuple_repr_1 _) ?_
  exact shw_tuple (guardC_tupU _) ri cl na hS1 (hA.ex e1) hz I (fun _ _ z => z) fun s' H' tk ex J => ⟨⟨_, _, rfl⟩, _, _, rfl, hQ s' H' ex J⟩
end
section
variable {X : Cx} {CX : CXT} {k : Nat} {C f : Addr} {fd : FuncData} {ps : List Str} {sp : Sp} {E : XK} {H : Hp} {t : Str}
theorem ifBoundBy_o {M : Model} {A : Around} {Ex : Value → Shared → Prop} {K : PySem.W.Frag} {s : Shared} {x : Addr} {ox : Obj} {od : Option Obj} {name : Str} {last : Value → List Value → Sem Value} {Q : Option Value → Shared → Prop} (KX : K.In s.heap) (I : PySem.W.InstAt s.heap x ox C od)
    (hs : PySem.W.findIn K (.ref C) name = some (some (.ref f))) (hf : PySem.W.isFn K (.ref f) = true) (h : wpAny M A (last (.ref f) [.ref x]) (fun v => Q (some v)) Ex s) : wpAny M A (callSpecialIfBoundBy? last (.ref x) name) Q Ex s := by
  simp only [callSpecialIfBoundBy?, bindSpecialIfBound?]
  refine wpAny_holding (wpAny_bind (wpAny_bind (wpAny_bind (I.type.here ((PySem.W.looks_findIn KX hs).here ?_)))))
  refine wpAny_bind (wpAny_askSetting (wpAny_ite ?_))
  have fin : wpAny M A (last (.ref f) [.ref x] >>= fun v => pure (some v)) Q Ex s := wpAny_bind (wpAny_mono h (fun v s' h' => wpAny_pure h') fun _ _ h' => h')
  split
  · exact wpAny_bind ((PySem.W.bind_fn KX _ (beq_iff_eq.mp hf)).here (wpAny_pure (by exact fin)))
  · exact wpAny_tryCatch (wpAny_bind ((PySem.W.bind_fn KX _ (beq_iff_eq.mp hf)).here (wpAny_pure (by exact fin))))
/-- an own instance, by its own __repr__ -/
structure Own (X : Cx) (CX : CXT) (k : Nat) (C f : Addr) (fd : FuncData) (ps : List Str) (sp : Sp) (E : XK) : Prop where
  hs : PySem.W.findIn X.K (.ref C) "__repr__" = some (some (.ref f))
  hf : PySem.W.isFn X.K (.ref f) = true
  F : FnOk X.prog X.w X.K X.mg X.base CX k f fd ps sp
  hb : Binds X.K fd ps []
  hx : Passes CX X E
theorem Shw.own {a dx : Addr} {fs : List (Str × V)} (O : Own X CX k C f fd ps sp E) (ha : H a = some (.ins C dx fs)) (h : ∀ H1, Ex H H1 → sp [.ref a] H1 (fun v H2 => v = .str t ∧ Ex H1 H2) E) : Shw X k [] H (.ref a) t := by
  intro b A g u pins σ s H1 Q hz ri cl e1 I rv hQ
  obtain rfl : u = Value.ref a := rv
  obtain ⟨ox, od, i1⟩ := ins_look I (e1.get ha)
  have hu := ri.rm.un
  refine wpAny_pyReprUnder_ref (by omega) ?_
  unfold pyReprObjUnder pyReprObjBy
  refine wpAny_bind (wpAny_cRoomFor (by omega) ?_)
  refine wpAny_bind (wpAny_bind (i1.type.here ((PySem.W.looks_findIn I.kIn O.hs).here ?_)))
  refine wpAny_bind (ifBoundBy_o (name := Str.ofString "__repr__") I.kIn i1 O.hs O.hf ?_)
  refine wpAny_mono (run_in (vs := [.ref a]) O.F ri.rm (env0_at I.env0 ri.fr) O.hb O.hx I (.cons rfl .nil) (h H1 e1)) (fun v s' hv => ?_) fun _ _ z => z
  obtain ⟨y, H', I', ry, rfl, ex⟩ := hv
  obtain ⟨tk, rfl⟩ := ry
  exact wpAny_bind (wpAny_isInstance (T := "str") (b := true) rfl isSubtype_str_str (wpAny_pure ⟨t, tk, rfl, hQ s' H' ex I'⟩))
end
/-- repr(x), asked in X -/
def ShwT (X : Cx) (H : Hp) (x : V) (t : Str) : Prop := ∀ (u : Value) (pins : List (Addr × Obj)) (σ : L2.St) (s : Shared) (Q : Value → Shared → Prop), Inv X pins σ H s → RelV x u → (∀ s' H' tk, Ex H H' → Inv X pins σ H' s' → Q (.str t tk) s') →
  wpAny (model X.prog X.w) X.A (call (.builtin "repr") [u]) Q X.xe s
def rReprS (X : Cx) : RC := fun xs H Q => ∃ x t, xs = [x] ∧ ShwT X H x t ∧ ∀ H', Ex H H' → Q (.str t) H'
theorem call_reprS {X : Cx} : CallR X (.builtin "repr") (rReprS X) := by
  intro pins s σ H xs us Q I r h
  obtain ⟨x, t, rfl, hs, q⟩ := h
  obtain ⟨u, rfl, ru⟩ := vals1 r
  exact hs u pins σ s _ I ru fun s' H' tk ex J => ⟨.str t, H', J, ⟨tk, rfl⟩, q H' ex⟩
theorem r_reprS {X : Cx} {H : Hp} {Q : VK} {x : V} {t : Str} (h : ShwT X H x t) (k : ∀ H', Ex H H' → Q (.str t) H') : rReprS X [x] H Q := ⟨x, t, rfl, h, k⟩
section
variable {X : Cx} {k : Nat} {as : List Addr} {H : Hp} {a : Addr} {xs : List V} {ts : List Str}
theorem ShwT.list (hG : X.A.guards = some []) (hr : Room (k + 2) X.A) (hS : SqL X.K H a xs) (hA : ShwAll X k as H xs ts) (na : a ∉ as) (hz : (listText ts).length ≤ sizeLine) : ShwT X H (.ref a) (listText ts) := by
  intro u pins σ s Q I rv hQ
  obtain rfl : u = Value.ref a := rv
  obtain ⟨its, hv, ⟨o, no, g1, g2, _, g3⟩, _⟩ := I.list hS
  have hu := hr.un
  refine call_repr_slot (by omega) ⟨o, g1, g2⟩ F.slot_list_repr.toG ?_
  cases hA with
  | nil =>
    cases hv
    rw [listText_0] at hQ
    exact call_list_repr_empty ⟨o, g1, g2⟩ g1 g3 ⟨_, _, rfl, hQ _ H _ (Ex.refl _) (I.tok _)⟩
  | cons h r =>
    refine wpAny_call (codeAny_call_builtin F.slot_list_repr.plain F.entry_list_repr (F.slot_list_repr.check _ _ _ _ _ _ _ _ ⟨o, g1, g2⟩ (F.args_list_repr_1 _) ?_))
    exact shw_list (base := 0) (A := X.A.in1) (g := []) (R := callEnd (fun r s1 => ∃ x t, r = .str x t ∧ Q r s1) X.xe) ⟨rfl, hG, Room.in1 hr⟩ (fun b _ => Clear.nil b) na hS (.cons h r) (by omega) I (fun _ _ z => z) fun s' H' tk ex J => ⟨_, _, rfl, hQ s' H' tk ex J⟩
theorem ShwT.tup (hG : X.A.guards = some []) (hr : Room (k + 2) X.A) (hS : SqT X.K H a xs) (hA : ShwAll X k as H xs ts) (na : a ∉ as) (hz : (tupleText ts).length ≤ sizeLine) : ShwT X H (.ref a) (tupleText ts) := by
  intro u pins σ s Q I rv hQ
  obtain rfl : u = Value.ref a := rv
  obtain ⟨its, hv, ⟨o, g1, g2, no, g3⟩, _⟩ := I.tuple hS
  have hu := hr.un
  refine call_repr_slot (by omega) ⟨o, g1, g2⟩ F.slot_tuple_repr ?_
  refine wpAny_call (codeAny_call_builtin_own (Code.quiet_builtin _ (by decide +kernel)) F.entry_tuple_repr (F.slot_tuple_repr.check _ _ _ _ _ _ _ _ ⟨o, g1, g2⟩ (F.args_tuple_repr_1 _) ?_))
  exact shw_tuple (base := 0) (A := X.A.in1) (g := []) (R := callEnd (fun r s1 => ∃ x t, r = .str x t ∧ Q r s1) X.xe) (guardC_tup _) ⟨rfl, hG, Room.in1 hr⟩ (fun b _ => Clear.nil b) na hS hA (by omega) I (fun _ _ z => z) fun s' H' tk ex J => ⟨_, _, rfl, hQ s' H' tk ex J⟩
theorem ShwT.own {CX : CXT} {C f dx : Addr} {fd : FuncData} {ps : List Str} {sp : Sp} {E : XK} {fs : List (Str × V)} {t : Str} (hr : Room (k + 1) X.A) (O : Own X CX k C f fd ps sp E) (ha : H a = some (.ins C dx fs)) (h : sp [.ref a] H (fun v H2 => v = .str t ∧ Ex H H2) E) : ShwT X H (.ref a) t := by
  intro u pins σ s Q I rv hQ
  obtain rfl : u = Value.ref a := rv
  obtain ⟨ox, od, i1⟩ := ins_look I ha
  have hu := hr.un
  refine Calls.call_function_entry F.kind_repr F.plain_repr F.entry_repr (F.args_repr1 _) ?_
  unfold Builtin.«repr»
  refine wpAny_bind (m := oneArg "repr" _) (wpAny_pure ?_)
  refine wpAny_bind (m := cRoomFor _ _) (wpAny_cRoomFor (show X.A.units + 1 < cLine by omega) ?_)
  refine wpAny_bind (wpAny_bind (i1.type.here ((PySem.W.looks_findIn I.kIn O.hs).here ?_)))
  refine wpAny_bind (m := callSpecialIfBoundBy? (fun g first => call g (first ++ [])) (.ref a) (Str.ofString "__repr__")) (ifBoundBy_o (name := Str.ofString "__repr__") I.kIn i1 O.hs O.hf ?_)
  refine wpAny_mono (run_in (vs := [.ref a]) O.F (Room.in1 hr) I.env0.in1 O.hb O.hx I (.cons rfl .nil) h) (fun v s' hv => ?_) fun _ _ z => z
  obtain ⟨y, H', I', ry, rfl, ex⟩ := hv
  obtain ⟨tk, rfl⟩ := ry
  exact wpAny_bind (wpAny_isInstance (T := "str") (b := true) rfl isSubtype_str_str (wpAny_pure ⟨_, rfl, hQ s' H' tk ex I'⟩))
end
end Z
namespace Z
open PySem PySem.Spec PyProof.Rows L2
/-! f-strings -/
def tJoin (ts : List TE) : TE := fun σ H Q => tJs ts Str.empty σ H fun out H1 => Q (.str out) H1
theorem pe_joinS {X : Cx} {v1 v2 : Expr} {rest : List Expr} {ts : List TE} {pos : Pos} (h : PJ X (v1 :: v2 :: rest) ts) : PE X (.JoinedStr (v1 :: v2 :: rest) pos) (tJoin ts) := pe_joined h
def JsP (ts : List TE) (acc : Str) (σ : L2.St) (QS : Str → Hp → Prop) : VK := fun x H1 => ∃ y : Str, x = .str y ∧ (acc ++ y).length ≤ sizeLine ∧ tJs ts (acc ++ y) σ H1 QS
def FmtP (Q : VK) : VK := fun x H1 => (∃ y : Str, x = .str y ∧ y.length ≤ sizeLine ∧ Q (.str y) H1) ∨ ∃ i : Int, x = .int i ∧ i.natAbs.log2 < 1920 ∧ Q (.str (toString i)) H1
section
variable {K : PySem.W.Frag} {σ : L2.St} {H : Hp} {Q : VK} {QS : Str → Hp → Prop} {acc z : Str} {te t : TE} {ts : List TE}
theorem s_join (k : tJs ts Str.empty σ H fun out H1 => Q (.str out) H1) : tJoin ts σ H Q := k
theorem js_nil (k : QS acc H) : tJs [] acc σ H QS := k
theorem js_cons (k : t σ H (JsP ts acc σ QS)) : tJs (t :: ts) acc σ H QS := k
theorem v_js (h : (acc ++ z).length ≤ sizeLine) (k : tJs ts (acc ++ z) σ H QS) : JsP ts acc σ QS (.str z) H := ⟨z, rfl, h, k⟩
theorem s_fmt (k : te σ H (FmtP Q)) : tFmt te σ H Q := k
theorem v_fmtI {i : Int} (h : i.natAbs.log2 < 1920) (k : Q (.str (toString i)) H) : FmtP Q (.int i) H := .inr ⟨i, rfl, h, k⟩
theorem v_fmtS (h : z.length ≤ sizeLine) (k : Q (.str z) H) : FmtP Q (.str z) H := .inl ⟨z, rfl, h, k⟩
theorem r_eqSS {s : Str} (k : Q (.bl true) H) : rEq (.str s) (.str s) H Q := ⟨rfl, by simpa using k⟩
theorem r_neSS {s : Str} (k : Q (.bl false) H) : rNe (.str s) (.str s) H Q := ⟨rfl, by simpa using k⟩
theorem r_eqS {s t : Str} (k : Q (.bl (decide (s = t))) H) : rEq (.str s) (.str t) H Q := ⟨rfl, by
  have e : decide (V.str s = V.str t) = decide (s = t) := by
    by_cases h : s = t
    · subst h
      simp
    · rw [decide_eq_false h, decide_eq_false fun q => h (V.str.inj q)]
  rw [e]
  exact k⟩
theorem r_neS {s t : Str} (k : Q (.bl (!decide (s = t))) H) : rNe (.str s) (.str t) H Q := ⟨rfl, by
  have e : decide (V.str s = V.str t) = decide (s = t) := by
    by_cases h : s = t
    · subst h
      simp
    · rw [decide_eq_false h, decide_eq_false fun q => h (V.str.inj q)]
  rw [e]
  exact k⟩
end
/-! two rules for one operator -/
def rOr (r r' : R2) : R2 := fun x y H Q => r x y H Q ∨ r' x y H Q
theorem op_or2 {X : Cx} {f : Value → Value → Sem Value} {r r' : R2} (h : OpR X f r) (h' : OpR X f r') : OpR X f (rOr r r') := fun pins s σ H x y v u Q I rx ry q => q.elim (h pins s σ H x y v u Q I rx ry) (h' pins s σ H x y v u Q I rx ry)
theorem ip_or2 {X : Cx} {op : Operator} {r r' : R2} (h : PIp X op r) (h' : PIp X op r') : PIp X op (rOr r r') := fun pins s σ H x y v u Q I rx ry q => q.elim (h pins s σ H x y v u Q I rx ry) (h' pins s σ H x y v u Q I rx ry)
/-- a word and an operand of either kind -/
theorem r_woW {C : Addr} {sp : Sp} {E : XK} {H : Hp} {Q : VK} {a : Addr} {y : V} {w v n : Int} (ha : IsW C H a w v) (ho : Opd C H w y n) (k : sp [.ref a, y] H Q E) : rOr (rOO C sp E) (rOI C sp E) (.ref a) y H Q := by
  rcases ho with ⟨b, rfl, hb⟩ | ⟨rfl, hn⟩
  · exact .inl (r_ooW ha hb k)
  · exact .inr (r_oiW ha k)
theorem opd_int {C : Addr} {H : Hp} {w n : Int} (h : InW w n) : Opd C H w (.int n) n := .inr ⟨rfl, h⟩
/-! the text of a word -/
def wT (w v : Int) : Str := ((((Str.empty ++ ("Word(" : Str)) ++ (toString w : Str)) ++ (", " : Str)) ++ (toString v : Str)) ++ (")" : Str)
theorem tok_len {i : Int} (h0 : 0 ≤ i) (h : i < 2 ^ 64) : ((toString i : String) : Str).length ≤ 20 := toString_length_le h0 (by decide) (by omega)
theorem log_64 {i : Int} (h0 : 0 ≤ i) (h : i < 2 ^ 64) : i.natAbs.log2 < 1920 := by
  have h2 : i.natAbs < 2 ^ 64 := by omega
  by_cases hz : i.natAbs = 0
  · rw [hz]
    decide
  · exact Nat.lt_trans ((Nat.log2_lt hz).mpr h2) (by decide)
theorem wT_len {w v : Int} (h : InW w v) : (wT w v).length ≤ 60 := by
  obtain ⟨h1, h2, h3, h4⟩ := h
  have t := topI_lt h2
  have a := tok_len (i := w) (by omega) (by omega)
  have b := tok_len (i := v) h3 (by omega)
  have e1 : (("Word(" : String) : Str).length = 5 := rfl
  have e2 : ((", " : String) : Str).length = 2 := rfl
  have e3 : ((")" : String) : Str).length = 1 := rfl
  have e0 : Str.empty.length = 0 := rfl
  unfold wT
  rw [strLen_append, strLen_append, strLen_append, strLen_append, strLen_append]
  omega
theorem listText_le (ts : List Str) (m : Nat) (h : ∀ t ∈ ts, t.length ≤ m) : (listText ts).length ≤ ts.length * (m + 2) + 3 := by
  have e := listText_len_le ts
  have q : (ts.map fun t => t.length).sum ≤ ts.length * m := by
    clear e
    induction ts with
    | nil => simp
    | cons t ts ih =>
      have h1 := h t (by simp)
      have h2 := ih fun u hu => h u (by simp [hu])
      simp only [List.map_cons, List.sum_cons, List.length_cons, Nat.succ_mul]
      omega
  rw [Nat.mul_add]
  omega
/-- words one behind the other, shown -/
theorem shw_words {X : Cx} {CX : CXT} {k : Nat} {C f : Addr} {fd : FuncData} {ps : List Str} {E : XK} {H : Hp} {w v : Int} {a : Addr} (O : Own X CX k C f fd ps (spWP C fun w v => .str (wT w v)) E) (h : IsW C H a w v) : Shw X k [] H (.ref a) (wT w v) :=
  .own O h.2.choose_spec fun H1 e => ⟨a, w, v, rfl, h.ex e, rfl, Ex.refl _⟩
def spInPl (C : Addr) : Sp := fun vs H Q _ => ∃ a y w v n, vs = [.ref a, y] ∧ IsW C H a w v ∧ Opd C H w y n ∧ ∀ l x1 x2 H', Ex H H' → H' l = some (.lst [.ref x1, .ref x2]) → IsW C H' x1 w (osum w v n) → IsW C H' x2 w (osum w v (topI w - n)) → Q (.ref l) H'
def spApart (C : Addr) : Sp := fun vs H Q _ => ∃ a y w v n, vs = [.ref a, y] ∧ IsW C H a w v ∧ Opd C H w y n ∧ ∀ H', Ex H H' → Q (.bl true) H'
end Z

/-! Z: a += b of own instances whose class has no __iadd__ or its like -/
namespace Z
open PySem PySem.Spec PyProof.Rows L2
section
variable {prog : Program} {w : World} {M : Model} {A : Around} {E : Value → Shared → Prop} {s : Shared} {K : PySem.W.Frag} {x C f : Addr} {ox : Obj} {od : Option Obj} {nm : String}
theorem no_inplace {h : Heap} {cd : ClassData} {add : Bool} (X : K.In h) (hc : PySem.W.clsIn K C = some cd) (hm : cd.mro = [.ref C, .type "object"]) (h1 : PySem.W.findIn K (.ref C) (dunderI nm) = some none) (h2 : PySem.W.findIn K (.type "object") (dunderI nm) = some none) :
    PySem.W.Looks M h (fillsInplaceSlot (.ref C) nm add) false := by
  intro A Q E s k q
  unfold fillsInplaceSlot
  refine wpAny_bind ((PySem.W.looks_clsIn X hc).andThen (f := fun cd => pure cd.mro) .now A _ E s k ?_)
  rw [hm, List.anyM_cons]
  refine wpAny_bind (wpAny_bind (PySem.W.looks_findIn X h1 A _ E s k (wpAny_pure ?_)))
  rw [List.anyM_cons]
  refine wpAny_bind (wpAny_bind (PySem.W.looks_findIn X h2 A _ E s k (wpAny_pure ?_)))
  rw [List.anyM_nil]
  exact wpAny_pure q
theorem bin1_oo {cd : ClassData} {rest : List Value} {b : Value} {Q : Value → Shared → Prop} (X : K.In s.heap) (I : PySem.W.InstAt s.heap x ox C od) (hb : PySem.W.Looks M s.heap (typeOf b) (.ref C)) (hcd : PySem.W.clsIn K C = some cd) (hm : cd.mro = .ref C :: rest)
    (hs : PySem.W.findIn K (.ref C) (PySem.dunder nm) = some (some (.ref f))) (hf : PySem.W.isFn K (.ref f) = true) (h : wpAny M A (call (.ref f) [.ref x, b]) (PySem.W.CmpBack Q) E s) :
    wpAny M A (binaryOp1 nm (.ref x) b) (fun r s' => ∃ v, r = some v ∧ Q v s') E s := by
  unfold binaryOp1
  refine wpAny_bind (I.type.here (wpAny_bind (hb.here (wpAny_bind ((PySem.W.fills_K X hcd hm hs).here ?_)))))
  simp only [beq_self_eq_true, if_true]
  refine wpAny_bind (wpAny_pure ?_)
  simp only [Bool.and_false, Bool.false_eq_true, if_false, Bool.false_and]
  refine wpAny_bind (wpAny_pure ?_)
  simp only [Bool.false_eq_true, if_false]
  refine wpAny_bind (m := tryMethod (.ref x) _ b) (wpAny_mono (PySem.W.ksp_try X I hs hf h) (fun r s' hr => ?_) fun _ _ e => e)
  obtain ⟨v, rfl, hq⟩ := hr
  exact wpAny_pure ⟨v, rfl, hq⟩
theorem bin1_oi {b : Value} {T : String} {fo ro rc : Option Value} {Q : Value → Shared → Prop} (X : K.In s.heap) (I : PySem.W.InstAt s.heap x ox C od) (hb : typeOf b = pure (.type T)) (hc : PySem.W.selfFirst K C = true)
    (hs : PySem.W.findIn K (.ref C) (PySem.dunder nm) = some (some (.ref f))) (hf : PySem.W.isFn K (.ref f) = true) (hr : PySem.W.findIn K (.ref C) (dunderR nm) = some rc) (hp : rc = none ∨ ∃ g : Addr, rc = some (.ref g))
    (h1 : PySem.W.findIn K (.type T) (PySem.dunder nm) = some fo) (h2 : PySem.W.findIn K (.type T) (dunderR nm) = some ro) (hsub : PySem.W.subIn K (.type T) (.ref C) = some false)
    (h : wpAny M A (call (.ref f) [.ref x, b]) (PySem.W.CmpBack Q) E s) : wpAny M A (binaryOp1 nm (.ref x) b) (fun r s' => ∃ v, r = some v ∧ Q v s') E s := by
  obtain ⟨cd, rest, hcd, hm⟩ := PySem.W.ksp_first hc
  have one := PySem.W.ksp_try X I hs hf h
  obtain ⟨hh, g, d, tt, os⟩ := s
  have L1 : PySem.W.Looks M hh (typeOf (.ref x)) (.ref C) := I.type
  have L2 : PySem.W.Looks M hh (typeOf b) (.type T) := PySem.W.Looks.of_pure hb
  have L3 : PySem.W.Looks M hh (fillsNumberSlot (.ref C) nm) true := PySem.W.fills_K X hcd hm hs
  have L4 : PySem.W.Looks M hh (fillsNumberSlot (.type T) nm) ((fo.isSome && !isSeqSlot fo) || (ro.isSome && !isSeqSlot ro)) := PySem.W.ksp_fillsT X h1 h2
  have L5 : PySem.W.Looks M hh (isSubtype (.type T) (.ref C)) false := PySem.W.looks_subIn X hsub
  have L6 : PySem.W.Looks M hh (numberSlotInPython (.ref C) nm) true := PySem.W.ksp_inPy X hs hr hp
  have L7 : PySem.W.Looks M hh (numberSlotInPython (.type T) nm) false := PySem.W.Looks.of_pure rfl
  have L8 : PySem.W.Looks M hh (typeLookup (.type T) (dunderR nm)) ro := PySem.W.looks_findIn X h2
  generalize ((fo.isSome && !isSeqSlot fo) || (ro.isSome && !isSeqSlot ro)) = right at L4
  have ne : (Value.ref C == Value.type T) = false := Bool.eq_false_iff.mpr fun q => nomatch beq_iff_eq.mp q
  unfold binaryOp1
  refine wpAny_bind (L1.at (wpAny_bind (L2.at (wpAny_bind (L3.at ?_)))))
  simp only [ne, Bool.false_eq_true, if_false]
  cases right with
  | false =>
    ksp_lk
    refine wpAny_mono one (fun r s' hr' => ?_) fun _ _ e => e
    obtain ⟨v, rfl, hq⟩ := hr'
    exact wpAny_pure ⟨v, rfl, hq⟩
  | true =>
    ksp_lk
    refine wpAny_mono one (fun r s' hr' => ?_) fun _ _ e => e
    obtain ⟨v, rfl, hq⟩ := hr'
    exact wpAny_pure ⟨v, rfl, hq⟩
theorem in_of {op : Operator} {a b : Value} {ta : Value} {Q : Value → Shared → Prop} (ht : PySem.W.Looks M s.heap (typeOf a) ta) (hf : PySem.W.Looks M s.heap (fillsInplaceSlot ta op.info.2 (op == .Add)) false)
    (h : wpAny M A (binaryOp1 op.info.2 a b) (fun r s' => ∃ v, r = some v ∧ Q v s') E s) : wpAny M A (inplaceOp op a b) Q E s := by
  unfold inplaceOp
  refine wpAny_holding (wpAny_bind (ht.here (wpAny_bind (hf.here ?_))))
  simp only [Bool.false_eq_true, if_false]
  refine wpAny_bind (wpAny_mono h (fun r s' hr => ?_) fun _ _ e => e)
  obtain ⟨v, rfl, hq⟩ := hr
  exact wpAny_pure hq
end
/-- the class has no operator in place of this name -/
structure NoIn (K : PySem.W.Frag) (C : Addr) (nm : String) : Prop where
  mr : (PySem.W.clsIn K C).map (·.mro) = some [.ref C, .type "object"]
  h1 : PySem.W.findIn K (.ref C) (dunderI nm) = some none
  h2 : PySem.W.findIn K (.type "object") (dunderI nm) = some none
theorem NoIn.cd {K : PySem.W.Frag} {C : Addr} {nm : String} (n : NoIn K C nm) : ∃ cd, PySem.W.clsIn K C = some cd ∧ cd.mro = [.ref C, .type "object"] := by
  have h := n.mr
  cases q : PySem.W.clsIn K C with
  | none =>
    rw [q] at h
    cases h
  | some cd =>
    rw [q] at h
    exact ⟨cd, rfl, Option.some.inj h⟩
section
variable {X : Cx} {CX : CXT} {k : Nat} {C f : Addr} {fd : FuncData} {ps : List Str} {sp : Sp} {E : XK}
theorem ip_oo {op : Operator} (n : NoIn X.K C op.info.2) (hs : PySem.W.findIn X.K (.ref C) (PySem.dunder op.info.2) = some (some (.ref f))) (hf : PySem.W.isFn X.K (.ref f) = true)
    (F : FnOk X.prog X.w X.K X.mg X.base CX k f fd ps sp) (hr : Room k X.A) (hb : Binds X.K fd ps []) (hx : Passes CX X E) : PIp X op (rOO C sp E) := by
  intro pins s σ H x y v u Q I rx ry h
  obtain ⟨a, b, dx, dy, fs, gs, rfl, rfl, ha, hb2, hsp⟩ := h
  obtain rfl : v = Value.ref a := rx
  obtain rfl : u = Value.ref b := ry
  obtain ⟨ox, od, i1⟩ := ins_look I ha
  obtain ⟨oy, oe, i2⟩ := ins_look I hb2
  obtain ⟨cd, hcd, hm⟩ := n.cd
  exact in_of i1.type (no_inplace I.kIn hcd hm n.h1 n.h2) (bin1_oo I.kIn i1 i2.type hcd hm hs hf (wpAny_mono (run_fn (vs := [.ref a, .ref b]) F hr hb .nil hx I (.cons rfl (.cons rfl .nil)) (by simpa using hsp)) (fun _ _ q => back_of q) fun _ _ q => q))
theorem ip_oi {op : Operator} {rc : Option Value} (n : NoIn X.K C op.info.2) (hc : PySem.W.selfFirst X.K C = true) (hs : PySem.W.findIn X.K (.ref C) (PySem.dunder op.info.2) = some (some (.ref f))) (hf : PySem.W.isFn X.K (.ref f) = true)
    (hr2 : PySem.W.findIn X.K (.ref C) (dunderR op.info.2) = some rc) (hp : rc = none ∨ ∃ g : Addr, rc = some (.ref g)) (h1 : (PySem.W.findIn X.K (.type "int") (PySem.dunder op.info.2)).isSome = true) (h2 : (PySem.W.findIn X.K (.type "int") (dunderR op.info.2)).isSome = true)
    (hsub : PySem.W.subIn X.K (.type "int") (.ref C) = some false)
    (F : FnOk X.prog X.w X.K X.mg X.base CX k f fd ps sp) (hr : Room k X.A) (hb : Binds X.K fd ps []) (hx : Passes CX X E) : PIp X op (rOI C sp E) := by
  intro pins s σ H x y v u Q I rx ry h
  obtain ⟨a, m, dx, fs, rfl, rfl, ha, hsp⟩ := h
  obtain rfl : v = Value.ref a := rx
  obtain ⟨t, rfl⟩ : ∃ t, u = Value.int m t := ry
  obtain ⟨ox, od, i1⟩ := ins_look I ha
  obtain ⟨cd, hcd, hm⟩ := n.cd
  exact in_of i1.type (no_inplace I.kIn hcd hm n.h1 n.h2) (bin1_oi I.kIn i1 rfl hc hs hf hr2 hp (Option.isSome_iff_exists.mp h1).choose_spec (Option.isSome_iff_exists.mp h2).choose_spec hsub (wpAny_mono (run_fn (vs := [.ref a, .int m]) F hr hb .nil hx I (.cons rfl (.cons ⟨t, rfl⟩ .nil)) (by simpa using hsp)) (fun _ _ q => back_of q) fun _ _ q => q))
end
end Z

/-! Z: lambdas without parameters handed to a def: heaps with tables of code, facts, the end of a law -/
namespace Z
open PySem PySem.Spec PyProof.Rows L2 LamX
def isTbl : HO → Bool
  | .tbl _ => true
  | _ => false
/-- all but tables of code stays -/
def Tx (H H' : Hp) : Prop := ∀ a o, H a = some o → isTbl o = false → H' a = some o
section
variable {H H' H1 H2 : Hp} {a l : Addr} {o : HO} {K : PySem.W.Frag} {xs : List V} {T : List (Addr × Str)}
theorem Tx.refl (H : Hp) : Tx H H := fun _ _ h _ => h
theorem Tx.trans (x : Tx H H1) (y : Tx H1 H2) : Tx H H2 := fun a o h n => y a o (x a o h n) n
theorem Ex.tx (e : Ex H H') : Tx H H' := fun a o h _ => e a o h
theorem Tx.of (e : ExtN H H') : Tx H H' := fun a o h n => e a o h fun ps z => by
  subst z
  cases n
theorem Tx.get (e : Tx H H') (h : H a = some o) (n : isTbl o = false) : H' a = some o := e a o h n
theorem Tx.sql (e : Tx H H') (h : SqL K H a xs) : SqL K H' a xs := by
  rcases h with (h | ⟨u, h⟩) | h
  · exact .inl (.inl (e.get h rfl))
  · exact .inl (.inr ⟨u, e.get h rfl⟩)
  · exact .inr h
theorem Tx.sqt (e : Tx H H') (h : SqT K H a xs) : SqT K H' a xs := by
  rcases h with (h | ⟨u, h⟩) | h
  · exact .inl (.inl (e.get h rfl))
  · exact .inl (.inr ⟨u, e.get h rfl⟩)
  · exact .inr h
theorem IsW.tx {C : Addr} {w v : Int} (e : Tx H H') (h : IsW C H a w v) : IsW C H' a w v := ⟨h.1, h.2.choose, e.get h.2.choose_spec rfl⟩
theorem Ws.tx {C : Addr} {w : Int} (e : Tx H H') : ∀ {as : List Addr} {vs : List Int}, Ws C H w as vs → Ws C H' w as vs
  | [], [], _ => True.intro
  | _ :: _, _ :: _, h => ⟨h.1.tx e, Ws.tx e h.2⟩
theorem PenAt.tx {p : Addr} {n : Nat} (e : Tx H H') (h : PenAt K H p n) : PenAt K H' p n := by
  obtain ⟨l, cs, i, j, h1, h2, h3, h4, h5⟩ := h
  exact ⟨l, cs, i, j, e.get h1 rfl, e.get h2 rfl, h3, h4, h5⟩
theorem tabs_ex (t : Tabs T H) (e : Ex H H') : Tabs T H' := t.ext e
theorem tabs_gr (t : Tabs T H) (g : Gr H H') : Tabs T H' := fun p hp => by
  obtain ⟨ps, h1, h2, h3⟩ := t p hp
  refine ⟨ps, g.get h1 rfl, h2, fun pos cv hc => ?_⟩
  obtain ⟨c, e1, e2⟩ := h3 pos cv hc
  exact ⟨c, e1, g.get e2 rfl⟩
theorem tabs_but (t : Tabs T H) (e : But l H H') (hl : H l = some (.lst xs)) : Tabs T H' := fun p hp => by
  obtain ⟨ps, h1, h2, h3⟩ := t p hp
  refine ⟨ps, e.get h1 (ne_of h1 hl (by intro z; cases z)), h2, fun pos cv hc => ?_⟩
  obtain ⟨c, e1, e2⟩ := h3 pos cv hc
  exact ⟨c, e1, e.get e2 (ne_of e2 hl (by intro z; unfold CodeO at z; cases z))⟩
end
/-- a def's code object and its table -/
def codeAd (K : PySem.W.Frag) (f : Addr) : Addr := match (K.lookup f).map (fun o : Obj => o.data) with
  | some (.func d) => (match d.code with
    | .ref c => c
    | _ => 0)
  | _ => 0
def tabAd (K : PySem.W.Frag) (f : Addr) : Addr := match (K.lookup (codeAd K f)).map (fun o : Obj => o.data) with
  | some (.fields vs) => (match (vs[11]? : Option Value) with
    | some (.ref p) => p
    | _ => 0)
  | _ => 0
def codeB (K : PySem.W.Frag) (f : Addr) : Bool := match (K.lookup f).map (fun o : Obj => o.data) with
  | some (.func d) => decide (d.code = .ref (codeAd K f))
  | _ => false
theorem code_of {K : PySem.W.Frag} {x ql : Str} {pr : Arguments} {bd : List Stmt} {sc : Scope} {dvs : List V} {kws : List (Str × V)} {f : Addr} {fd : FuncData} (F : FunD K x ql pr bd sc dvs kws f fd) (h : codeB K f = true) : fd.code = .ref (codeAd K f) := by
  obtain ⟨oc, od, dV, kV, doc, pm, an, cdv, ct, osl, e, lk, _⟩ := F.ex
  unfold codeB at h
  rw [lk] at h
  exact of_decide_eq_true h
/-- a def by its body, its code object known -/
theorem okGL {P : Program} {w : World} {K : PySem.W.Frag} {mg : Str → Option Value} {base : Heap} {x ql : Str} {pr : Arguments} {bd : List Stmt} {sc : Scope} {dvs : List V} {kws : List (Str × V)} {f : Addr} {fd : FuncData}
    {N ps : List Str} {k : Nat} {sp : Sp} (F : FunD K x ql pr bd sc dvs kws f fd) (S : FnScope N ps sc) (hc : codeB K f = true) (len : ∀ vs H Q E, sp vs H Q E → vs.length = ps.length)
    (hb : ∀ (A : Around) (outer : List Env) (s : Shared) (H : Hp) (vs : List V) (Q : VK) (E : XK), Room k (A.deeper (envOfC ql sc s.heap.objs.size f (.ref (codeAd K f)))) → (A.deeper (envOfC ql sc s.heap.objs.size f (.ref (codeAd K f)))).guards = some [] → sp vs H Q E →
      ∃ t, PSs (cxOf (L2.CX P w) P w K mg base N ql sc f (.ref (codeAd K f)) A outer s H E) bd t ∧ t { nx := fun _ H' => Q .non H', rt := Q } (L2.start N vs) H) : FnG P w K mg base (k + 1) f fd ps sp := by
  have hcd := code_of F hc
  obtain ⟨oc, od, dV, kV, doc, pm, an, cdv, ct, osl, rfl, lk, hcI, _, _⟩ := F.ex
  have ec : cdv = .ref (codeAd K f) := hcd
  subst ec
  refine ⟨len, fun A outer s H args us vs Q E hr hg e0 bi rv hsp => ?_⟩
  have lv := len _ _ _ _ hsp
  have old : ∀ b o, base.get? b = some o → s.heap.get? b = some o := fun b o e => (e0.bs b o e).1
  have KX : K.In s.heap := e0.mod.kin.keeps old
  have kinds : ∀ y ∈ ps.zip us, sc.names.lookup y.1 = some .local ∨ (sc.names.lookup y.1 = some .cell ∧ ((cellsFrom (s.heap.objs.size + 1) sc.names []).lookup y.1).isSome = true) := by
    rintro ⟨n, v⟩ hy
    exact (S.par n (List.of_mem_zip hy).1).imp id fun q => ⟨q, PySem.W.cellsFrom_some _ _ _ (.inl q)⟩
  refine codeAny_call_function hr.depth (KX _ _ lk) rfl S.co S.gen rfl (PySem.W.codeRec_of KX hcI) (bi _ _ _ _ ?_)
  refine wpAny_newFunctionEnv_cells S.kind kinds fun env he s1 ic => ?_
  subst he
  refine ⟨(e0.mod.nolimit.keeps old).keeps ic.toInCall.keep, codeAny_func ?_⟩
  obtain ⟨t, ht, hq⟩ := hb A outer s H vs Q E (hr.deeper _) hg hsp
  have I := inv_start (CX := L2.CX P w) (E := E) S hr.hd e0 lv rv ic
  refine wpAny_mono (ht.run [] s1 (L2.start N vs) H _ I hq) (fun fl s' hs => ?_) fun _ _ z => z
  cases fl with
  | ret u =>
    obtain ⟨v, σ', H', J, r', q⟩ := hs
    exact ⟨v, H', J.os, J.bare, J.base, J.hok, r', q⟩
  | next =>
    obtain ⟨σ', H', J, q⟩ := hs
    exact ⟨V.non, H', J.os, J.bare, J.base, J.hok, rfl, q⟩
  | brk => exact (hs.choose_spec.choose_spec.2 : False).elim
  | cont => exact (hs.choose_spec.choose_spec.2 : False).elim
/-! the head's facts, tables left out of the written part -/
abbrev tabO : Obj := { cls := .none, data := .fields #[] }
def noTab (g : Addr → Option Obj) (a : Addr) : Bool := match g a with
  | some ⟨.none, _, .fields vs, _⟩ => !vs.isEmpty
  | _ => true
def frL (g : Addr → Option Obj) (n : Nat) : PySem.W.Frag := He.frG g ((PySem.cStatics :: He.asD g n).filter (noTab g))
def csOf (ls : List (PySem.W.Frag → Addr)) (K : PySem.W.Frag) : List (Addr × Addr) := ls.map fun f => (codeAd K (f K), tabAd K (f K))
abbrev AlL : Type := Al × List (Option Obj)
def obsL (n : Nat) (fs : List Fn) (ex : PySem.W.Frag → List Bool) (ls : List (PySem.W.Frag → Addr)) (g : Addr → Option Obj) : AlL :=
  ((fs.map (fun f => f.at_ (frL g n)), (fs.all fun f => f.good (frL g n)), (ex (frL g n)).all fun b => b), (csOf ls (frL g n)).map fun p => g p.2)
def valL (fs : List Fn) (ls : List (PySem.W.Frag → Addr)) : AlL := (val fs, ls.map fun _ => some tabO)
theorem map_all {α β γ : Type} {f : α → γ} {c : γ} : ∀ {l : List α} {m : List β}, l.map f = m.map (fun _ => c) → ∀ x ∈ l, f x = c
  | [], _, _, x, hx => by cases hx
  | a :: l, [], h, x, hx => by cases h
  | a :: l, b :: m, h, x, hx => by
    rw [List.map_cons, List.map_cons] at h
    injection h with h1 h2
    rcases List.mem_cons.mp hx with rfl | hx
    · exact h1
    · exact map_all h2 x hx
def hookL (n : Nat) (fs : List Fn) (ex : PySem.W.Frag → List Bool) (ls : List (PySem.W.Frag → Addr)) : PySem.W.Hook where
  α := AlL
  obs := fun s => obsL n fs ex ls s.heap.get?
  val := fun _ => valL fs ls
  says := fun _ h => ∃ K : PySem.W.Frag, K.In h ∧ Says fs ex K ∧ ∀ p ∈ csOf ls K, h.get? p.2 = some tabO
  of := fun _ _ e => ⟨_, He.frG_in, ⟨congrArg (·.1.1) e, congrArg (·.1.2.1) e, congrArg (·.1.2.2) e⟩, map_all (congrArg (·.2) e)⟩
  keeps := fun _ _ _ ⟨K, hK, c, t⟩ k => ⟨K, PySem.W.Frag.In.keeps hK k, c, fun p hp => k _ _ (t p hp)⟩
theorem obsL_eq {n : Nat} {fs : List Fn} {ex : PySem.W.Frag → List Bool} {ls : List (PySem.W.Frag → Addr)} {g : Addr → Option Obj} {s : Shared} (h : ∀ a, g a = s.heap.get? a) : obsL n fs ex ls g = (hookL n fs ex ls).obs s := by
  have e : g = s.heap.get? := funext h
  rw [e]
  rfl
end Z

/-! Z: the end of a law whose defs hand lambdas on -/
namespace Z
open PySem PySem.Spec PyProof.Rows L2 LamX
theorem law_callGT {P : Program} {w : World} {K : PySem.W.Frag} {mg mb : Str → Option Value} {k : Nat} {fa a : Addr} {cs : List (Addr × Addr)} {fd : FuncData} {x : Str} {sp : Sp} {s1 : Shared} {vs : List Value} {ns : List Int}
    (KX : K.In s1.heap) (hns : s1.heap.Ns mainGlobals mg) (hb : s1.heap.Ns builtinsNs mb) (hbb : ∀ x : Str, x ≠ "__name__" → mb x = bootBuiltins x) (lim : s1.heap.NoLimit) (hg : s1.gens = #[])
    (hT : ∀ p ∈ cs, s1.heap.get? p.2 = some tabO) (nT : ∀ p ∈ cs, K.lookup p.2 = none) (cd : ∀ p ∈ cs, PySem.W.CodeHd s1.heap p.1 p.2)
    (hbm : ∃ (bm : Addr) (ob : Obj), mg "__builtins__" = some (.ref bm) ∧ bm ≠ builtinsNs ∧ s1.heap.get? bm = some ob ∧ ob.cls = .type "module" ∧ ob.dict = some builtinsNs ∧ ob.data = .plain)
    (ha : s1.heap.get? a = some { cls := .type "list", data := .seq vs.toArray }) (hi : IntsAre vs ns) (hl : ns.length ≤ sizeLine) (hr : Room k callerA)
    (F : ∀ base : Heap, K.In base → base.Ns mainGlobals mg → (∀ p ∈ cs, TabB base mg p.1 p.2) → FnG P w K mg base k fa fd [x] sp) (bi : ∀ (s : Shared) (u : Value), BindsTo s fd ⟨[u], []⟩ [(x, u)])
    (hsp : ∀ H : Hp, (∀ p ∈ cs, H p.2 = some (.tbl #[])) → SqL K H a (ns.map V.int) → sp [.ref a] H (fun v _ => v = .bl true) fun _ _ _ => False) :
    codeAny (model P w) callerA (.call (.ref fa) ⟨[.ref a], []⟩) (fun r s' => r = .ok (.ret (.bool true)) ∧ OldK s1.heap s'.heap ∧ s'.os = s1.os ∧ AllBare s'.gens) s1 := by
  have rv := vals_ints hi
  have lv := hi.length
  have mem : ∀ p ∈ cs, p.2 ∈ cs.map (·.2) := fun p hp => List.mem_map_of_mem (f := (·.2)) hp
  have tab : ∀ b ∈ cs.map (·.2), s1.heap.get? b = some tabO := fun b m => by
    obtain ⟨p, hp, rfl⟩ := List.mem_map.mp m
    exact hT p hp
  have noA : a ∉ cs.map (·.2) := fun z => by
    have q := (tab a z).symm.trans ha
    have q2 := congrArg Obj.data (Option.some.inj q)
    cases q2
  have go : ∀ H : Hp, (∀ p ∈ cs, H p.2 = some (.tbl #[])) → (∀ b, H b = none ∨ b ∈ cs.map (·.2) ∨ ∃ o xs, H b = some (.frz o (.lst xs))) → SqL K H a (ns.map V.int) → HOk P w H s1.heap → (∀ b, H b ≠ none → b = a ∨ b ∈ cs.map (·.2)) → (H a ≠ none → K.lookup a = none) →
      codeAny (model P w) callerA (.call (.ref fa) ⟨[.ref a], []⟩) (fun r s' => r = .ok (.ret (.bool true)) ∧ OldK s1.heap s'.heap ∧ s'.os = s1.os ∧ AllBare s'.gens) s1 := by
    intro H hH kinds hS ok only noK
    have free : ∀ {b : Addr} {o : Obj}, s1.heap.get? b = some o → (∀ us n, o.data ≠ .seq us n) → o.data ≠ .fields #[] → H b = none := fun {b o} e q1 q2 => by
      cases q : H b with
      | none => rfl
      | some u =>
        rcases only b (by rw [q]; simp) with z | z
        · subst z
          rw [ha] at e
          cases e
          exact absurd rfl (q1 _ _)
        · rw [tab b z] at e
          cases e
          exact absurd rfl q2
    have hid : ∀ {b : Addr} {o : Obj}, s1.heap.get? b = some o → (∀ us n, o.data ≠ .seq us n) → o.data ≠ .fields #[] → (hidT s1.heap H).get? b = some o := fun e q1 q2 => hidT_get e (free e q1 q2)
    have ns' : ∀ {b : Addr} {m : Str → Option Value}, s1.heap.Ns b m → (hidT s1.heap H).Ns b m := fun {b m} n => by
      obtain ⟨o, es, ep, e, d, r⟩ := n
      exact ⟨o, es, ep, hid e (fun us n z => by rw [d] at z; cases z) (fun z => by rw [d] at z; cases z), d, r⟩
    have K' : K.In (hidT s1.heap H) := fun b o e => hidT_get (KX b o e) (by
      cases q : H b with
      | none => rfl
      | some u =>
        rcases only b (by rw [q]; simp) with z | z
        · subst z
          rw [noK (by rw [q]; simp)] at e
          cases e
        · obtain ⟨p, hp, rfl⟩ := List.mem_map.mp z
          rw [nT p hp] at e
          cases e)
    have lim' : (hidT s1.heap H).NoLimit := by
      obtain ⟨mc, h1, h2⟩ := lim
      exact ⟨mc, ns' h1, h2⟩
    have tb : ∀ p ∈ cs, TabB (hidT s1.heap H) mg p.1 p.2 := fun p hp => by
      have tp := hT p hp
      refine ⟨?_, ?_, fun z => ?_⟩
      · obtain ⟨o, us, file, tf, flags, tg, inF, text, tt, e1, r1, r2, r3, rest⟩ := cd p hp
        refine ⟨o, us, file, tf, flags, tg, inF, text, tt, hid e1 (fun us n z => by rw [r2] at z; cases z) (fun z => ?_), r1, r2, r3, rest⟩
        rw [r2] at z
        cases z
        simp at r3
      · obtain ⟨bm, ob, b1, b2, b3, b4, b5, b6⟩ := hbm
        refine ⟨bm, ob, b1, b2, fun q => ?_, fun q => ?_, hid b3 (fun us n z => by rw [b6] at z; cases z) (fun z => by rw [b6] at z; cases z), b4, b5, b6⟩
        · obtain ⟨o, es, ep, e, d, _⟩ := hns
          rw [q, e] at b3
          cases b3
          rw [d] at b6
          cases b6
        · rw [q, tp] at b3
          cases b3
          cases b6
      · obtain ⟨o, es, ep, e, d, _⟩ := hns
        rw [z, tp] at e
        cases e
        cases d
    have e0 : Env0 P w K mg (hidT s1.heap H) callerA [] s1 H := ⟨rfl, ⟨K', ns' hns, ⟨mb, ns' hb, hbb⟩, lim'⟩, fun _ _ e => of_hidT e, Nat.le_of_eq (hidT_size _ _), trivial, fun b z => absurd (show b ∈ ([] : List Addr) from z) (by simp), ok, .of_eq hg⟩
    refine codeAny_mono ((F _ K' (ns' hns) tb).run callerA [] s1 H ⟨[.ref a], []⟩ [.ref a] [.ref a] _ _ hr rfl e0 (bi s1 (.ref a)) (.cons rfl .nil) (hsp H hH hS)) ?_
    intro r s' h
    cases r with
    | error e =>
      obtain ⟨_, _, _, _, _, _, _, _, _, _, _, _, z⟩ := h
      exact z.elim
    | ok fl =>
      cases fl with
      | ret u =>
        obtain ⟨v, H', os, bare, un, ok', rr, q⟩ := h
        obtain rfl : v = .bl true := q
        obtain rfl : u = Value.bool true := rr
        have stay : ∀ b o, b ∉ cs.map (·.2) → s1.heap.get? b = some o → s'.heap.get? b = some o := fun b o nb e => by
          rcases kinds b with z | z | ⟨ob, xs, z⟩
          · exact un.keep b o e z (fun y => absurd (show b ∈ ([] : List Addr) from y) (by simp)) (by simp)
          · exact absurd z nb
          · have e1 := (ok b _ z).1
            have e2 := (ok' b _ (un.frzs b ob _ z)).1
            rw [e] at e1
            cases e1
            exact e2
        have grew : ∀ p ∈ cs, ∃ more : Array Value, s'.heap.get? p.2 = some { cls := .none, data := .fields more } := fun p hp => by
          obtain ⟨more, z⟩ := un.tbls p.2 #[] (hH p hp)
          exact ⟨_, ok' p.2 _ z⟩
        refine ⟨rfl, ⟨fun b o e => ?_, fun b o e => ?_⟩, os, bare⟩
        · by_cases m : b ∈ cs.map (·.2)
          · obtain ⟨p, hp, rfl⟩ := List.mem_map.mp m
            obtain ⟨more, hm⟩ := grew p hp
            rw [hT p hp] at e
            cases e
            exact .inr (.inl ⟨((cd p hp).tab (hT p hp)).isCodeTable, rfl, #[], more, rfl, by rw [Array.empty_append]; exact hm⟩)
          · exact .inl (stay b o m e)
        · by_cases m : b ∈ cs.map (·.2)
          · obtain ⟨p, hp, rfl⟩ := List.mem_map.mp m
            obtain ⟨more, hm⟩ := grew p hp
            exact ⟨_, hm⟩
          · exact ⟨o, stay b o m e⟩
      | next => exact h.elim
      | brk => exact h.elim
      | cont => exact h.elim
  cases hk : K.lookup a with
  | some o =>
    have e := KX a o hk
    rw [ha] at e
    cases e
    have at_ : ∀ b, b ∉ cs.map (·.2) → (if b ∈ cs.map (·.2) then some (HO.tbl #[]) else none) = none := fun b m => if_neg m
    refine go (fun b => if b ∈ cs.map (·.2) then some (.tbl #[]) else none) (fun p hp => if_pos (mem p hp)) (fun b => ?_) (.inr ⟨_, vs.toArray, _, hk, rfl, rfl, rfl, by rw [List.size_toArray, lv]; exact hl, by simpa using rv⟩) (fun b u z => ?_) (fun b z => ?_) fun z => absurd (at_ a noA) z
    · by_cases m : b ∈ cs.map (·.2)
      · exact .inr (.inl m)
      · exact .inl (if_neg m)
    · by_cases m : b ∈ cs.map (·.2)
      · cases (if_pos m).symm.trans z
        exact tab b m
      · cases (if_neg m).symm.trans z
    · exact .inr (Classical.byContradiction fun m => z (if_neg m))
  | none =>
    refine go (fun b => if b = a then some (.frz { cls := .type "list", data := .seq vs.toArray } (.lst (ns.map V.int))) else if b ∈ cs.map (·.2) then some (.tbl #[]) else none) (fun p hp => (if_neg (show ¬ p.2 = a from fun z => noA (z ▸ mem p hp))).trans (if_pos (mem p hp))) (fun b => ?_) (.inl (.inr ⟨_, if_pos rfl⟩)) (fun b u z => ?_) (fun b z => ?_) fun _ => hk
    · by_cases q : b = a
      · exact .inr (.inr ⟨_, _, if_pos q⟩)
      · by_cases m : b ∈ cs.map (·.2)
        · exact .inr (.inl m)
        · exact .inl ((if_neg q).trans (if_neg m))
    · by_cases q : b = a
      · cases (if_pos q).symm.trans z
        subst q
        exact ⟨ha, by rw [List.length_map]; exact hl, vs, _, rv, ha⟩
      · have z1 := (if_neg q).symm.trans z
        by_cases m : b ∈ cs.map (·.2)
        · cases (if_pos m).symm.trans z1
          exact tab b m
        · cases (if_neg m).symm.trans z1
    · by_cases q : b = a
      · exact .inl q
      · exact .inr (Classical.byContradiction fun m => z ((if_neg q).trans (if_neg m)))
theorem walk_endGT {l : PySem.W.OpenLaw} {n k : Nat} {q : Program} {loose : List Str} {XP : (Str → Option Value) → Heap → Prop} {YP : World → Heap → Prop} {d : DefRec} {x : Str} (hn : l.most = some n) (hn2 : n ≤ sizeLine) (hdf : d.params.defaults = []) (hr : Room k callerA)
    (F : ∀ (w : World) (mg : Str → Option Value) (fa : Addr) (h : Heap), YP w h → h.Ns mainGlobals mg → mg d.name = some (.ref fa) →
      ∃ (K : PySem.W.Frag) (fd : FuncData) (cs : List (Addr × Addr)) (sp : Sp), K.In h ∧ (∀ p ∈ cs, h.get? p.2 = some tabO) ∧ (∀ p ∈ cs, K.lookup p.2 = none) ∧ (∀ p ∈ cs, PySem.W.CodeHd h p.1 p.2) ∧ (∀ (s : Shared) (u : Value), BindsTo s fd ⟨[u], []⟩ [(x, u)]) ∧
        (∀ (H : Hp) (a : Addr) (ns : List Int), ns.length ≤ n → (∀ p ∈ cs, H p.2 = some (.tbl #[])) → SqL K H a (ns.map V.int) → sp [.ref a] H (fun v _ => v = .bl true) fun _ _ _ => False) ∧
        ∀ base : Heap, K.In base → base.Ns mainGlobals mg → (∀ p ∈ cs, TabB base mg p.1 p.2) → FnG l.prog w K mg base k fa fd [x] sp) :
    PySem.W.WalkO q loose XP YP l.row.toRowW d [] (fun f vs => PySem.call f vs) := by
  refine Att.attach_call hn hdf fun w s₀ s₁ mg mb fa o pm cd doc a vs ns G Y ho hd hcd hmg hobj hints hlen hg => ?_
  obtain ⟨K, fd, cs, sp, KX, hT, nT, C, hb, hsp, hF⟩ := F w mg fa _ Y G.T.g hmg
  exact law_callGT KX G.T.g G.T.b G.T.builtins G.T.nolimit hg hT nT C G.T.bmain hobj hints (Nat.le_trans hlen hn2) hr hF hb (fun H hH hS => hsp H a ns hlen hH hS)
end Z

/-! Z: several clauses except x as n; a lambda handed to a def; what is heard of it -/
namespace Z
open PySem PySem.W PySem.Calls PyProof.Rows PySem.HandSPX L2 LamX
/-- what the clauses wish of an exception, one after the other -/
def wMa (K : Frag) (Wout : WX) (D : Ends) : List (Value × Nat × (Addr → Value → Option Addr → TS)) → WX
  | [] => Wout
  | (c, i, ts) :: r => fun cls d σ H => ∃ b, exmOne K cls c = some b ∧ (b = true → ∀ a, H a = none → ts a cls d { nx := fun σ' H' => D.nx (σ'.set i none) H', rt := D.rt, bk := fun σ' H' => D.bk (σ'.set i none) H', ct := fun σ' H' => D.ct (σ'.set i none) H' } (σ.set i (some (.ref a))) H) ∧ (b = false → wMa K Wout D r cls d σ H)
inductive HdsA (X : Cx) : List ExceptHandler → List (Value × Nat × (Addr → Value → Option Addr → TS)) → Prop
  | nil : HdsA X [] []
  | cons {x n : Str} {c : Value} {i : Nat} {ts : Addr → Value → Option Addr → TS} {b₀ : Stmt} {suite : List Stmt} {np pos' : Pos} {hds : List ExceptHandler} {l : List (Value × Nat × (Addr → Value → Option Addr → TS))} (hc : Names X x c) (hi : X.N[i]? = some n) (hln : X.env.kindOf n = some .local)
      (hsu : ∀ (a : Addr) (oe : Obj) (cls : Value) (d : Option Addr) (pn : List (Addr × Obj)), Zc cls d oe → (∃ vs, oe.data = .fields vs) → PSs (X.suite a ((a, oe) :: pn)) (b₀ :: suite) (ts a cls d)) (r : HdsA X hds l) :
      HdsA X (.ExceptHandler (some (.Name x np)) (some n) (b₀ :: suite) pos' :: hds) ((c, i, ts) :: l)
section
variable {X : Cx} {body : List Stmt} {h₀ : ExceptHandler} {hds : List ExceptHandler} {l : List (Value × Nat × (Addr → Value → Option Addr → TS))} {pos : Pos} {tb : WX → TS} {Wout : WX}
theorem ps_try_ma (hs : X.stack = X.env :: X.outer) (hf : X.env.frame = some X.env.locals) (hN : X.N.Nodup) (tk : Takes X Wout)
    (hb : ∀ (W : WX) (pn : List (Addr × Obj)) (xe : Value → Shared → Prop), Takes (X.tr pn xe) W → PassesOwn (model X.prog X.w) X.A X.env xe → PSs (X.tr pn xe) body (tb W))
    (hh : HdsA X (h₀ :: hds) l) : PS X (.Try body (h₀ :: hds) [] [] pos) (fun D σ H => tb (fun cls d σ' H' => σ'.length = X.N.length → wMa X.K Wout D l cls d σ' H') D σ H) := by
  constructor
  intro pins s σ H D I h
  have ok := I.ok
  have fr2 : X.A.frames = some (X.env :: X.outer) := by rw [ok.frames, hs]
  refine wpAny_Try_except (wpAny_mono ((hb (fun cls d σ' H' => σ'.length = X.N.length → wMa X.K Wout D l cls d σ' H') (X.pn ++ pins) _ (fun u s' xx => ?_) PassesOwn.looking).run [] s σ H D (I.toTry _) h) (fun f s1 sp => ?_) fun e s1 he => he)
  case refine_2 =>
    cases f with
    | ret u =>
      obtain ⟨v, σ', H', J', r, q⟩ := sp
      exact ⟨v, σ', H', J'.ofTry ok, r, q⟩
    | next =>
      obtain ⟨σ', H', J', q⟩ := sp
      exact wpAny_execs_nil ⟨σ', H', J'.ofTry ok, q⟩
    | brk =>
      obtain ⟨σ', H', J', q⟩ := sp
      exact ⟨σ', H', J'.ofTry ok, q⟩
    | cont =>
      obtain ⟨σ', H', J', q⟩ := sp
      exact ⟨σ', H', J'.ofTry ok, q⟩
  obtain ⟨a, B, sI, pins', σ', H', cls, d, rfl, J', nb, up, sky, na, os, ag, wish⟩ := xx
  have J : Inv X pins σ' H' sI := J'.ofTry ok
  rw [hs] at sky
  refine Sky.land Zc.steady fr2 hf sky fun h3 fl3 up3 => ?_
  obtain ⟨oe3, vs3, at3, zc3, fd3⟩ := fl3.there
  have offFr : a ∉ frs (X.env :: X.outer) := fun hm => by
    obtain ⟨_, o', q1, q2⟩ := fl3.2.2.1.mem hm
    rw [at3] at q1
    cases q1
    exact q2 _ fd3
  have nL : a ≠ X.env.locals := fun z => offFr (List.mem_filterMap.mpr ⟨X.env, List.mem_cons_self, by rw [hf, z]⟩)
  have nF : a ∉ X.fs := fun hm => by
    obtain ⟨e, q1, q2⟩ := List.mem_filterMap.mp hm
    exact offFr (List.mem_filterMap.mpr ⟨e, List.mem_cons_of_mem _ q1, q2⟩)
  have J3 : Inv X pins σ' H' { s' with heap := h3 } := J.landed nb fl3.1 (up.trans up3) os ag
  have S3 := J3.suite at3 fd3 na nL nF
  have run : ∀ {hds' : List ExceptHandler} {l' : List (Value × Nat × (Addr → Value → Option Addr → TS))}, HdsA X hds' l' → wMa X.K Wout D l' cls d σ' H' → wpAny (model X.prog X.w) X.A (handleBy (.ref a) X.env hds') (SP X pins D) X.xe { s' with heap := h3 } := by
    intro hds' l' hk
    induction hk with
    | nil =>
      intro wo
      refine wpAny_handleBy_nil ?_
      obtain ⟨_, _, _, oe, vs, T, oT, ts', q1, q2, q3, q4, q5⟩ := id fl3
      unfold PySem.passOn
      refine wpAny_bind (wpAny_field q1 q3 q4 ?_)
      rw [if_neg (show ¬ ((Value.ref T == Value.none) = true) from by simp)]
      have out : wpAny (model X.prog X.w) X.A (setFlight (.ref a) X.env.frame) (fun _ s4 => wpAny (model X.prog X.w) X.A (throw (.ref a) : Sem Flow) (SP X pins D) X.xe s4) X.xe { s' with heap := h3 } := by
        rw [hf]
        exact setFlight_upZ fl3 fun h4 hh4 up4 => wpAny_throw (tk _ _ ⟨a, B, sI, pins, σ', H', cls, d, rfl, J, nb, (up.trans up3).trans up4, .inr (.inr (by rw [hs]; exact hh4)), na, os, ag, wo⟩)
      first
        | exact wpAny_bind (wpAny_pure (wpAny_bind out))
        | exact wpAny_bind out
    | @cons x n c i ts b₀ suite np pos' hds2 l2 hc hi hln hsu r ih =>
      intro wo
      obtain ⟨b, hb1, yes, no⟩ := wo
      refine wpAny_handleBy_cons (codeAny_handlers_test ?_) (by intro q; cases q)
      have LM := exm_one (M := model X.prog X.w) J3.kIn (fun A Q E s k q => wpAny_typeOf_ref (k _ _ at3) (by rw [zc3.1]; exact q)) hb1
      have name : ∀ {Q : Value → Shared → Prop} {E : Value → Shared → Prop}, Q c { s' with heap := h3 } → wpAny (model X.prog X.w) (X.A.mark (some (.ref a))) (eval (.Name x np) X.env) Q E { s' with heap := h3 } := fun {Q E} q => by
        obtain ⟨hg, hdb, hm | ⟨hm, hv, hnn⟩⟩ := hc
        · exact ld_glob (X := X.suite a _) S3 hg hm q hdb
        · exact ld_blt (X := X.suite a _) S3 hg hm hv q hnn hdb
      refine name (LM.here ?_)
      cases b with
      | false =>
        show wpAny _ X.A (handleBy (.ref a) X.env hds2) _ _ _
        exact ih (no rfl)
      | true =>
        refine codeAny_handlers_suite_as (lands_againZ fl3 fun h4 fl4 up4 => ?_)
        have J4 : Inv X pins σ' H' { s' with heap := h4 } := J.landed nb fl4.1 ((up.trans up3).trans up4) os ag
        obtain ⟨oe4, vs4, at4, zc4, fd4⟩ := fl4.there
        refine store_ok (X := X.suite a ((a, oe4) :: (X.pn ++ pins))) (v := .ref a) (J4.suite at4 fd4 na nL nF) hN hi (.inl hln) rfl (fun s5 S5 => ?_) (.inr hln)
        refine wpAny_mono ((hsu a oe4 cls d (X.pn ++ pins) zc4 ⟨_, fd4⟩).run [] s5 _ H' _ S5 (yes rfl a na)) (fun f s6 sp => ?_) fun _ _ z => False.elim z
        cases f with
        | next =>
          obtain ⟨σ6, H6, S6, q6⟩ := sp
          exact gone_ok (S6.unsuite ok) hN hi hln fun s7 J7 => ⟨_, _, J7, q6⟩
        | ret u =>
          obtain ⟨v6, σ6, H6, S6, r6, q6⟩ := sp
          exact gone_ok (S6.unsuite ok) hN hi hln fun s7 J7 => ⟨_, _, _, J7, r6, q6⟩
        | brk =>
          obtain ⟨σ6, H6, S6, q6⟩ := sp
          exact gone_ok (S6.unsuite ok) hN hi hln fun s7 J7 => ⟨_, _, J7, q6⟩
        | cont =>
          obtain ⟨σ6, H6, S6, q6⟩ := sp
          exact gone_ok (S6.unsuite ok) hN hi hln fun s7 J7 => ⟨_, _, J7, q6⟩
  exact run hh (wish J.len)
/-- x(lambda: body), x by its facts -/
theorem pe_lamF {T : List (Addr × Str)} {TT : (XK → Hp → VK → Prop) → Hp → VK → Prop} {x a : Str} {g c P : Addr} {k : Nat} {pg : Arguments} {bg : List Stmt} {sg : Scope} {fd : FuncData} {Ng : List Str} {params : Arguments} {body : Expr} {scope : Scope} {t : XK → TE} {p lpos pos : Pos}
    (F : FunD X.K x x pg bg sg [] [] g fd) (hb : L2.Binds X.K fd [a] []) (hg : Gl X x) (hm : X.mg x = some (.ref g)) (Sg : FnScope Ng [a] sg) (hNg : Ng[0]? = some a) (hva : Vis sg a) (hG : ∀ cdv, GivesTo X Ng x sg g cdv bg a (X.env.qual ++ "<lambda>") TT)
    (TB : TabB X.base X.mg c P) (hcode : X.env.code = .ref c) (hmT : (P, X.env.qual ++ "<lambda>") ∈ T) (hu : ∀ p ∈ T, p.1 = P → p.2 = X.env.qual ++ "<lambda>") (hr : Room (k + 2) X.A) (L : LamS X.env.scope scope) (hdef : defaultsOf params X.env = ([], []))
    (hbind : ∀ (q : Str) (cl : List (Str × Addr)) (pm cv ctv : Value), bindArgs (PySem.W.kla_fn "<lambda>" q params body scope cl pm cv ctv) ⟨[], []⟩ = pure [])
    (hbody : ∀ (A : Around) (outer : List Env) (s : Shared) (H : Hp) (E : XK) (f c' : Addr), Room k (A.deeper (lamEnv X scope s.heap.objs.size f c')) → PE (lamCx X A outer s H E scope f c') body (t E))
    (hdb : (x == ("__debug__" : Str)) = false := by decide) (hd : (a == ("__debug__" : Str)) = false := by decide) (hcd : (a == ("__classdict__" : Str)) = false := by decide) :
    PE X (.Call (.Name x p) [.Lambda params body scope lpos] [] pos) (tLam T TT t) := by
  obtain ⟨oc, od, dV, kV, doc, pm, an, cdv, ct, osl, rfl, lk, hc, _, _⟩ := F.ex
  exact pe_lamcall hg hm F.kp lk hc hb Sg hNg hva (hG cdv) TB hcode hmT hu hr L hdef hbind hbody hdb hd hcd
end
section
variable {X : Cx} {A : Around} {outer : List Env} {s : Shared} {H : Hp} {E : XK} {scope : Scope} {f c' : Addr}
theorem lT : Takes (lamCx X A outer s H E scope f c') (fun cls d _ H => E cls d H) := takes_of rfl rfl rfl rfl
theorem lX : Passes (L2.CX X.prog X.w) (lamCx X A outer s H E scope f c') E := passes_call lT fun _ _ _ _ h => h
end
theorem len3 {α : Type} : ∀ {l : List α}, l.length = 3 → ∃ a b c, l = [a, b, c]
  | [a, b, c], _ => ⟨a, b, c, rfl⟩
/-- a field of the caught error -/
def XfP (a : Addr) (cls : Value) (d : Option Addr) (C : Addr) (f : Str) (Q : VK) : VK := fun x H1 => x = .ref a ∧ cls = .ref C ∧ ∃ (dd : Addr) (fs : List (Str × V)) (v : V), d = some dd ∧ H1 dd = some (.xd fs) ∧ fs.lookup f = some v ∧ Q v H1
theorem s_xf {a C : Addr} {cls : Value} {d : Option Addr} {f : Str} {te : TE} {σ : L2.St} {H : Hp} {Q : VK} (k : te σ H (XfP a cls d C f Q)) : tXf a cls d C f te σ H Q := k
theorem v_xf {a C dd : Addr} {f : Str} {H : Hp} {Q : VK} {fs : List (Str × V)} {v : V} (hd : H dd = some (.xd fs)) (hl : fs.lookup f = some v) (k : Q v H) : XfP a (.ref C) (some dd) C f Q (.ref a) H := ⟨rfl, rfl, dd, fs, v, rfl, hd, hl, k⟩
theorem look1 {f : Str} {v : V} {r : List (Str × V)} : ((f, v) :: r).lookup f = some v := by simp [List.lookup]
theorem look2 {f g : Str} {u v : V} {r : List (Str × V)} (h : (f == g) = false) : ((g, u) :: (f, v) :: r).lookup f = some v := by
  show (match (f == g) with | true => some u | false => ((f, v) :: r).lookup f) = some v
  rw [h]
  exact look1
/-- a tuple of a text and one value, two values, that is handed back -/
def Tell (Q : VK) (z : Str) (vs : List V) (H : Hp) : Prop := ∀ p H2, Ex H H2 → H2 p = some (.tup (.str z :: vs)) → Q (.ref p) H2
/-- an error that is heard -/
def HearE (Cw Cv Cu : Addr) (Q : VK) : XK := fun cls d H =>
  (cls = .ref Cw ∧ ∃ dd v, d = some dd ∧ H dd = some (.xd [("width", v)]) ∧ Tell Q "width" [v] H) ∨
  (cls = .ref Cv ∧ ∃ dd v, d = some dd ∧ H dd = some (.xd [("value", v)]) ∧ Tell Q "word" [v] H) ∨
  (cls = .ref Cu ∧ ∃ dd u v, d = some dd ∧ H dd = some (.xd [("other", v), ("one", u)]) ∧ Tell Q "unlike" [u, v] H)
def MadeQ (Q : VK) : VK := fun v H => [V.str "made", v].length ≤ sizeLine ∧ NewO Q (.tup [.str "made", v]) H
theorem made_q {Q : VK} {v : V} {H : Hp} (k : Tell Q "made" [v] H) : MadeQ Q v H := ⟨by show 2 ≤ sizeLine; decide, s_new fun p H' _ e h => k p H' e h⟩
def TTh (Cw Cv Cu : Addr) : (XK → Hp → VK → Prop) → Hp → VK → Prop := fun tl H Q => ∀ H0, Ex H H0 → tl (HearE Cw Cv Cu Q) H0 (MadeQ Q)
theorem s_lam {T : List (Addr × Str)} {Cw Cv Cu : Addr} {t : XK → TE} {σ : L2.St} {H : Hp} {Q : VK} (hT : Tabs T H) (k : ∀ H1, Tx H H1 → Tabs T H1 → t (HearE Cw Cv Cu Q) σ H1 (MadeQ Q)) : tLam T (TTh Cw Cv Cu) t σ H Q :=
  ⟨hT, fun H1 e hT1 H0 e0 => k H0 ((Tx.of e).trans e0.tx) (hT1.ext e0)⟩
end Z

/-! Z: ranges by steps of two; halves; values of all sorts that are shown -/
namespace Z
open PySem PySem.Spec PyProof.Rows L2 LamX
theorem rg2_all : ((List.range 60).all fun m => Builtin.Range.small 0 (m : Nat) 2 && decide (Builtin.Range.rangeSize 0 (m : Nat) 2 = ((m + 1) / 2 : Nat))) = true := by decide +kernel
theorem rg2 {m : Nat} (h : m < 60) : RgC 0 m 2 ((m + 1) / 2) := by
  have z := List.all_eq_true.mp rg2_all m (List.mem_range.mpr h)
  obtain ⟨z1, z2⟩ := Bool.and_eq_true_iff.mp z
  exact ⟨by decide, by decide, z1, of_decide_eq_true z2⟩
section
variable {σ : L2.St} {H : Hp} {Q : VK} {D : Ends} {ta : TA} {te : TE} {g : TG} {tt : TT} {tb : TS} {vs : List Nat}
theorem s_for3 {m : Nat} (hm : m < 60) (h : ∀ R : List V → Hp → Prop, R [.int 0, .int m, .int 2] H → ta σ H R) (Pv : Nat → L2.St → Hp → Prop) (h0 : Pv 0 σ H)
    (hs : ∀ (i : Nat) σ' H', i < (m + 1) / 2 → Pv i σ' H' → g (.int (2 * i : Nat)) σ' H' fun σ2 H2 => tb { D with nx := Pv (i + 1), ct := Pv (i + 1), bk := D.nx } σ2 H2) (hd : ∀ σ' H', Pv ((m + 1) / 2) σ' H' → D.nx σ' H') : tFor (iRng3 ta) g tb D σ H := by
  refine h _ ⟨0, m, 2, _, rfl, rg2 hm, for_rangeC Pv h0 (fun i σ' H' hi p => ?_) hd⟩
  have e : (0 : Int) + (i : Nat) * 2 = ((2 * i : Nat) : Int) := by omega
  rw [e]
  exact hs i σ' H' hi p
theorem walk_c (lo c : Int) (n : Nat) : Walk (Itc lo c n) n (fun _ => True) (YFn fun i => .int (lo + (i : Nat) * c)) :=
  ⟨fun _ _ h _ => h, fun _ _ => Nat.le_refl _, fun _ _ _ _ _ _ y => y⟩
theorem s_lc3 {m : Nat} (hm : m < 60) (h : ∀ R : List V → Hp → Prop, R [.int 0, .int m, .int 2] H → ta σ H R) (Pv : Addr → Nat → Hp → Prop) (h0 : ∀ L H', H L = none → Ex H H' → H' L = some (.lst []) → Pv L 0 H')
    (hs : ∀ L (i : Nat) H', H L = none → i < (m + 1) / 2 → Pv L i H' → g (.int (2 * i : Nat)) (wipe σ vs) H' fun σ2 H2 => wipe σ2 vs = wipe σ vs ∧ tt σ2 H2 fun b H3 => if b = true then te σ2 H3 fun y H4 => LcN (Pv L (i + 1)) L y H4 else Pv L (i + 1) H3)
    (hd : ∀ L H', H L = none → Pv L ((m + 1) / 2) H' → Q (.ref L) H') : tLc (iRng3 ta) g tt te vs σ H Q := by
  refine h _ ⟨0, m, 2, _, rfl, rg2 hm, fun L hL => lc_it (walk_c 0 2 _) (Pv L) (h0 L _ hL (Ex.new hL) upd_same) (fun _ _ _ _ => trivial) (fun i x H1 H2 hi p y => ?_) fun H' p => hd L H' hL p⟩
  obtain ⟨rfl, rfl⟩ := y
  have e : (0 : Int) + (i : Nat) * 2 = ((2 * i : Nat) : Int) := by omega
  dsimp only
  rw [e]
  exact hs L i _ hL hi p
end
theorem ixB {X : Cx} {K : PySem.W.Frag} (h : X.K = K) : IxR X (rIxL K) := by
  subst h
  exact ix_list
theorem Ex.but {H0 H1 H2 : Hp} {L : Addr} (e : Ex H0 H1) (hL : H0 L = none) (b : But L H1 H2) : Ex H0 H2 := fun a o h => b a o (ne_of_none h hL) (e a o h)
/-- the value of the i-th word packed of halves of h bits -/
def vp (h : Nat) (hs : List Int) (i : Nat) : Int := hs.getD (2 * i) 0 * 2 ^ h + hs.getD (2 * i + 1) 0
def pk (h : Nat) (hs : List Int) : List Int := (List.range ((hs.length + 1) / 2)).map (vp h hs)
theorem getD_all {hs : List Int} {P : Int → Prop} (h0 : P 0) (h : ∀ y ∈ hs, P y) (i : Nat) : P (hs.getD i 0) := by
  rw [List.getD_eq_getElem?_getD]
  cases e : hs[i]? with
  | none => exact h0
  | some y => exact h y (List.mem_of_getElem? e)
theorem vp_in {h : Nat} {w : Int} {hs : List Int} (hw : w = 2 * (h : Int)) (h1 : 1 ≤ h) (h2 : h ≤ 32) (hh : ∀ y ∈ hs, 0 ≤ y ∧ y ≤ 2 ^ h - 1) (i : Nat) : InW w (vp h hs i) := by
  have hp : (1 : Int) ≤ 2 ^ h := by have : (0 : Int) < 2 ^ h := Int.pow_pos (by decide); omega
  obtain ⟨a0, a1⟩ := getD_all (P := fun y => 0 ≤ y ∧ y ≤ 2 ^ h - 1) ⟨by omega, by omega⟩ hh (2 * i)
  obtain ⟨b0, b1⟩ := getD_all (P := fun y => 0 ≤ y ∧ y ≤ 2 ^ h - 1) ⟨by omega, by omega⟩ hh (2 * i + 1)
  unfold vp
  generalize hs.getD (2 * i) 0 = a at *
  generalize hs.getD (2 * i + 1) 0 = b at *
  have e : topI w = 2 ^ h * 2 ^ h - 1 := by
    unfold topI
    have : w.toNat = h + h := by omega
    rw [this, Int.pow_add]
  have m0 : 0 ≤ a * 2 ^ h := Int.mul_nonneg a0 (by omega)
  have m1 : a * 2 ^ h ≤ (2 ^ h - 1) * 2 ^ h := Int.mul_le_mul_of_nonneg_right a1 (by omega)
  rw [Int.sub_mul] at m1
  refine ⟨by omega, by omega, by omega, ?_⟩
  rw [e]
  omega
theorem pk_succ (h : Nat) (hs : List Int) (i : Nat) : (List.range (i + 1)).map (vp h hs) = (List.range i).map (vp h hs) ++ [vp h hs i] := by
  rw [List.range_succ, List.map_append]
  rfl
/-- ints all of them -/
theorem ints_of {P : Int → Prop} : ∀ {xs : List V}, (∀ x ∈ xs, ∃ n, x = .int n ∧ P n) → ∃ hs : List Int, xs = hs.map V.int ∧ ∀ y ∈ hs, P y
  | [], _ => ⟨[], rfl, by simp⟩
  | x :: xs, h => by
    obtain ⟨n, rfl, hn⟩ := h x (by simp)
    obtain ⟨hs, rfl, hh⟩ := ints_of (xs := xs) fun y hy => h y (by simp [hy])
    refine ⟨n :: hs, rfl, fun y hy => ?_⟩
    rcases List.mem_cons.mp hy with rfl | hy
    · exact hn
    · exact hh y hy
theorem btw_int {x : V} {lo hi : Int} (h : btw x lo hi = true) : ∃ n, x = .int n ∧ lo ≤ n ∧ n ≤ hi := by
  cases x with
  | int n =>
    obtain ⟨h1, h2⟩ := Bool.and_eq_true_iff.mp (show (decide (lo ≤ n) && decide (n ≤ hi)) = true from h)
    exact ⟨n, rfl, of_decide_eq_true h1, of_decide_eq_true h2⟩
  | _ => cases h
/-- is_between told by btw -/
theorem use_btwV {K : PySem.W.Frag} {H : Hp} {Q : VK} {E : XK} {v : V} {lo hi : Int} (h : KI K H v) (k : Q (.bl (btw v lo hi)) H) : spBtw K [v, .int lo, .int hi] H Q E := ⟨v, lo, hi, rfl, h, k⟩
/-- a value that stands somewhere and is shown as t -/
inductive Odd (C : Addr) (H : Hp) : V → Str → Prop
  | int {i : Int} (h : i.natAbs < 2 ^ 100) : Odd C H (.int i) (toString i)
  | bl {b : Bool} : Odd C H (.bl b) (if b then "True" else "False" : String)
  | non : Odd C H .non ("None" : String)
  | str {z : Str} (h : (reprText z).length ≤ 100) : Odd C H (.str z) (reprText z)
  | word {a : Addr} {w v : Int} (h : IsW C H a w v) : Odd C H (.ref a) (wT w v)
section
variable {C : Addr} {H H' : Hp} {v : V} {t : Str}
theorem Odd.ex (e : Ex H H') (h : Odd C H v t) : Odd C H' v t := by
  cases h with
  | int h => exact .int h
  | bl => exact .bl
  | non => exact .non
  | str h => exact .str h
  | word h => exact .word (h.ex e)
theorem Odd.tx (e : Tx H H') (h : Odd C H v t) : Odd C H' v t := by
  cases h with
  | int h => exact .int h
  | bl => exact .bl
  | non => exact .non
  | str h => exact .str h
  | word h => exact .word (h.tx e)
theorem Odd.gr (e : Gr H H') (h : Odd C H v t) : Odd C H' v t := by
  cases h with
  | int h => exact .int h
  | bl => exact .bl
  | non => exact .non
  | str h => exact .str h
  | word h => exact .word (h.gr e)
theorem log_100 {i : Int} (h : i.natAbs < 2 ^ 100) : i.natAbs.log2 < 1920 := by
  by_cases hz : i.natAbs = 0
  · rw [hz]
    decide
  · exact Nat.lt_trans ((Nat.log2_lt hz).mpr h) (by decide)
theorem str_len {i : Int} (h : i.natAbs < 2 ^ 100) : ((toString i : String) : Str).length ≤ 100 := by
  have big : (2 : Nat) ^ 100 ≤ 10 ^ 40 := by decide
  by_cases h0 : 0 ≤ i
  · have h1 : ((toString i : String) : Str).length ≤ 40 := toString_length_le h0 (by decide) (by omega)
    omega
  · have h1 : ((toString (0 - i) : String) : Str).length ≤ 40 := toString_length_le (by omega) (by decide) (by omega)
    have e := len_text_neg (n := i) (by omega)
    show (Str.ofString (toString i)).length ≤ 100
    rw [e]
    have h2 : (Str.ofString (toString (0 - i))).length ≤ 40 := h1
    omega
theorem Odd.len (h : Odd C H v t) : t.length ≤ 100 := by
  cases h with
  | int h => exact str_len h
  | @bl b => cases b <;> decide
  | non => decide
  | str h => exact h
  | word h => exact Nat.le_trans (wT_len h.1) (by decide)
end
end Z
/-! ### short tactics -/
local macro_rules | `(tactic| walk_at "z_sd") => `(tactic| first | assumption | omega | decide | rfl | (dsimp only; omega) | exact ⟨by omega, by omega⟩ | exact ⟨by omega, by omega, by omega⟩ | exact Or.inl ⟨by omega, by omega⟩ | exact Or.inr ⟨by omega, by omega⟩ | exact ⟨by omega, by decide⟩ | exact ⟨by omega, by assumption⟩)
local macro_rules | `(tactic| walk_at "z_pn") => `(tactic| first | rfl | exact Z.pen_ints _ | exact Z.pen_refs _ | assumption)
local macro_rules | `(tactic| walk_at "z_hp") => `(tactic| first
  | assumption
  | (refine Z.Ex.get (by assumption) ?_; walk_at "z_hp")
  | (refine Z.Gr.get (by assumption) ?za ?zb; (case za => walk_at "z_hp"); (case zb => walk_at "z_pn"))
  | (refine Z.But.get (by assumption) ?za ?zb; (case za => walk_at "z_hp"); (case zb => walk_at "z_ne"))
  | (refine Z.Ex.sql (by assumption) ?_; walk_at "z_hp")
  | (refine Z.Ex.sqt (by assumption) ?_; walk_at "z_hp")
  | (refine Z.Gr.sql (by assumption) ?za ?zb; (case za => walk_at "z_hp"); (case zb => walk_at "z_pn"))
  | (refine Z.Gr.sqt (by assumption) ?_; walk_at "z_hp")
  | (refine Z.But.sql (by assumption) ?za ?zb; (case za => walk_at "z_hp"); (case zb => walk_at "z_ne"))
  | (refine Z.sql_of ?_; walk_at "z_hp")
  | (refine Z.sqt_of ?_; walk_at "z_hp"))
local macro_rules | `(tactic| walk_at "z_ne") => `(tactic| first | assumption | (apply Ne.symm; assumption))
local macro_rules | `(tactic| walk_at "z_1") => `(tactic| first
  | with_reducible refine Z.s_seq ?_
  | ((with_reducible refine Z.s_var (v := ?zv) ?zh ?_); (case zh => rfl))
  | with_reducible refine Z.s_c ?_
  | with_reducible refine Z.s_op ?_
  | with_reducible refine Z.s_un ?_
  | with_reducible refine Z.s_test ?_
  | with_reducible refine Z.s_tb ?_
  | with_reducible refine Z.s_not ?_
  | with_reducible refine Z.s_and ?_
  | with_reducible refine Z.s_or ?_
  | with_reducible refine Z.s_andV ?_
  | with_reducible refine Z.s_orV ?_
  | with_reducible refine Z.s_notV ?_
  | with_reducible refine Z.s_ifE ?_
  | with_reducible refine Z.s_chain ?_
  | with_reducible refine Z.s_next ?_
  | with_reducible refine Z.s_drop ?_
  | with_reducible refine Z.s_ret ?_
  | with_reducible refine Z.s_retN ?_
  | with_reducible refine Z.s_if ?_
  | with_reducible refine Z.s_asg ?_
  | ((with_reducible refine Z.s_name ?_); dsimp only [List.set])
  | with_reducible refine Z.s_sub ?_
  | with_reducible refine Z.s_par ?_
  | with_reducible refine Z.s_par3 ?_
  | with_reducible refine Z.s_methN ?_
  | with_reducible refine Z.s_forS ?_
  | with_reducible refine Z.s_forLe ?_
  | with_reducible refine Z.s_nil ?_
  | with_reducible refine Z.s_cons ?_
  | with_reducible refine Z.s_cb ?_
  | with_reducible refine Z.s_call ?_
  | with_reducible refine Z.s_make ?_
  | with_reducible refine Z.s_meth ?_
  | with_reducible refine Z.s_sm ?_
  | with_reducible refine Z.s_prop ?_
  | with_reducible refine Z.s_lst0 ?_
  | ((with_reducible refine Z.v_fldw (w := ?zw) (v := ?zv) (by assumption) (by assumption) ?zh ?_); (case zh => walk_at "z_w"))
  | ((with_reducible refine Z.v_fldv (w := ?zw) (v := ?zv) (by assumption) (by assumption) ?zh ?_); (case zh => walk_at "z_w"))
  | with_reducible refine And.intro rfl ?_
  | ((with_reducible refine Z.use_btw ?zh ?_); (case zh => exact ⟨by omega, by omega⟩))
  | ((with_reducible refine Z.use_top ?zh ?_); (case zh => exact ⟨by omega, by omega⟩))
  | with_reducible refine Z.s_cval ?_
  | (with_reducible refine Exists.intro _ (Exists.intro _ (Exists.intro _ (Exists.intro _ (And.intro rfl (And.intro (by assumption) (And.intro (by assumption) ?_)))))))
  | with_reducible refine Z.s_sfld ?_
  | ((with_reducible refine Z.r_sum (ns := ?zx) ?zh ?_); (case zh => walk_at "z_hp"))
  | ((with_reducible refine Z.use_wo (w := ?zw) (v := ?zv) (n := ?zn) ?zh ?zo (fun x_ H_ he_ hw_ => ?_)); (case zh => walk_at "z_w"); (case zo => walk_at "z_o"))
  | ((with_reducible refine Z.use_wt (w := ?zw) (v := ?zv) ?zh ?z1 ?z2 (fun x_ H_ he_ hw_ => ?_)); (case zh => walk_at "z_w"); (case z1 => omega); (case z2 => omega))
  | ((with_reducible refine Z.use_ww (w := ?zw) (v := ?zv) ?zh (fun x_ H_ he_ hw_ => ?_)); (case zh => walk_at "z_w"))
  | ((with_reducible refine Z.use_w1 ?z1 ?z2 (fun x_ H_ he_ hw_ => ?_)); (case z1 => omega); (case z2 => omega))
  | ((with_reducible refine Z.use_wp (w := ?zw) (v := ?zv) ?zh ?_); (case zh => walk_at "z_w"))
  | ((with_reducible refine Z.use_eqw (w := ?zw) (v := ?zv) (w' := ?zw') (v' := ?zv') ?zh ?zi ?_); (case zh => walk_at "z_w"); (case zi => walk_at "z_w"))
  | ((with_reducible refine Z.use_like (w := ?zw) (v := ?zv) (n := ?zn) ?zh ?zo ?_); (case zh => walk_at "z_w"); (case zo => walk_at "z_o"))
  | ((with_reducible refine Z.v_ins (w := ?zw) (v := ?zv) ?zh ?_); (case zh => walk_at "z_w"))
  | ((with_reducible refine Z.v_insP (w := ?zw) (v := ?zv) ?zh ?_); (case zh => walk_at "z_w"))
  | with_reducible refine Z.s_bm ?_
  | with_reducible refine Z.s_bm0 ?_
  | ((with_reducible refine Z.v_tyL (xs := ?zx) ?zh ?_); (case zh => walk_at "z_hp"))
  | ((with_reducible refine Z.r_neNil (xs := ?zx) ?zh ?zi ?_); (case zh => walk_at "z_hp"); (case zi => walk_at "z_hp"))
  | ((with_reducible refine Z.r_ooW (w := ?zw) (v := ?zv) (w' := ?zw') (v' := ?zv') ?zh ?zi ?_); (case zh => walk_at "z_w"); (case zi => walk_at "z_w"))
  | ((with_reducible refine Z.r_oiW (w := ?zw) (v := ?zv) ?zh ?_); (case zh => walk_at "z_w"))
  | ((with_reducible refine Z.r_ioW (w := ?zw) (v := ?zv) ?zh ?_); (case zh => walk_at "z_w"))
  | ((with_reducible refine Z.r_o1W (w := ?zw) (v := ?zv) ?zh ?_); (case zh => walk_at "z_w"))
  | with_reducible refine Z.s_tup0 ?_
  | with_reducible refine Z.s_fld ?_
  | with_reducible refine Z.s_slc ?_
  | with_reducible refine Z.s_noPart ?_
  | with_reducible refine Z.s_part ?_
  | with_reducible refine Z.r_i0 ?_
  | ((with_reducible refine Z.r_i ?zh ?_); (case zh => walk_at "z_sd"))
  | with_reducible refine Z.r_u ?_
  | with_reducible refine Z.r_eqI ?_
  | with_reducible refine Z.r_neI ?_
  | with_reducible refine Z.r_eqB ?_
  | with_reducible refine Z.r_neB ?_
  | ((with_reducible refine Z.r_neL0 (as := ?za) ?zh ?zi ?_); (case zh => walk_at "z_hp"); (case zi => walk_at "z_hp"))
  | ((with_reducible refine Z.r_eqL0 (as := ?za) ?zh ?zi ?_); (case zh => walk_at "z_hp"); (case zi => walk_at "z_hp"))
  | ((with_reducible refine Z.r_neL (as := ?za) (bs := ?zb) ?zh ?zi ?_); (case zh => walk_at "z_hp"); (case zi => walk_at "z_hp"))
  | ((with_reducible refine Z.r_eqL (as := ?za) (bs := ?zb) ?zh ?zi ?_); (case zh => walk_at "z_hp"); (case zi => walk_at "z_hp"))
  | with_reducible refine Z.r_intI ?_
  | with_reducible refine Z.r_intB ?_
  | with_reducible refine Z.r_boolI ?_
  | with_reducible refine Z.r_boolB ?_
  | with_reducible refine Z.r_abs ?_
  | ((with_reducible refine Z.r_lenL (ys := ?zx) ?zh ?_); (case zh => walk_at "z_hp"))
  | ((with_reducible refine Z.r_lenT (ys := ?zx) ?zh ?_); (case zh => walk_at "z_hp"))
  | ((with_reducible refine Z.r_ixL (xs := ?zx) (v := ?zv) ?zh ?zi ?_); (case zh => walk_at "z_hp"); (case zi => first | rfl | walk_at "z_ix"))
  | ((with_reducible refine Z.r_ixT (xs := ?zx) (v := ?zv) ?zh ?zi ?_); (case zh => walk_at "z_hp"); (case zi => first | rfl | walk_at "z_ix"))
  | with_reducible refine Exists.intro _ (And.intro rfl ?_)
  | ((with_reducible refine Exists.intro _ (Exists.intro _ (And.intro rfl ?_))); dsimp only [List.set])
  | ((with_reducible refine Exists.intro _ (Exists.intro _ (Exists.intro _ (And.intro rfl ?_)))); dsimp only [List.set])
  | ((with_reducible refine Z.r_absO (w := ?zw) (v := ?zv) ?zh ?_); (case zh => walk_at "z_w"))
  | ((with_reducible refine Z.use_is (w := ?zw) (v := ?zv) ?zh ?_); (case zh => walk_at "z_w"))
  | ((with_reducible refine Z.f_T ?zh ?_); (case zh => (first | assumption | omega | decide | exact ⟨rfl, by assumption⟩ | exact ⟨rfl, rfl⟩)))
  | ((with_reducible refine Z.f_F ?zh ?_); (case zh => (first | assumption | omega | decide | exact ⟨rfl, by assumption⟩ | exact ⟨rfl, rfl⟩)))
  | with_reducible refine Z.f_not ?_
  | with_reducible refine L2.iteT ?_
  | with_reducible refine L2.iteF ?_
  | ((with_reducible refine Z.r_listL (ys := ?zx) ?zh (fun l_ H_ hf_ he_ ho_ => ?_)); (case zh => walk_at "z_hp"))
  | ((with_reducible refine Z.r_slL (ys := ?zx) ?zh (fun l_ H_ hf_ he_ ho_ => ?_)); (case zh => walk_at "z_hp"))
  | ((with_reducible refine Z.s_newN ?zh (fun l_ H_ hf_ he_ ho_ => ?_)); (case zh => (first | decide | simp)))
  | ((with_reducible refine Z.r_setL (xs := ?zx) (j := ?zj) ?zh ?zi (fun H_ he_ ho_ => ?_)); (case zh => walk_at "z_hp"); (case zi => first | rfl | walk_at "z_ix")))
local macro_rules | `(tactic| walk_at "z_go") => `(tactic| repeat (first | walk_at "z_1" | fail))
local macro_rules | `(tactic| walk_at "z_gs") => `(tactic| repeat ((fail_if_success (with_reducible refine Z.s_seq ?_)); walk_at "z_1"))
local macro_rules | `(tactic| walk_at "z_in") => `(tactic| dsimp only [L2.start, L2.cxOf, List.map, List.length, List.replicate, List.cons_append, List.nil_append, Nat.sub_self, Nat.reduceSub, Nat.reduceAdd])
local macro_rules | `(tactic| walk_at "z_ex") => `(tactic| first
  | assumption
  | exact Z.Ex.refl _
  | (refine Z.Ex.trans ?_ (by assumption); walk_at "z_ex"))
local macro_rules | `(tactic| walk_at "z_gr") => `(tactic| first
  | assumption
  | exact Z.Gr.refl _
  | (refine Z.Gr.trans ?_ (by first | assumption | exact Z.Ex.gr (by assumption)); walk_at "z_gr"))
local macro_rules | `(tactic| walk_at "z_pe") => `(tactic| first
  | assumption
  | (refine Z.PenAt.ex (by assumption) ?_; walk_at "z_pe"))
local macro_rules | `(tactic| walk_at "z_w") => `(tactic| first
  | assumption
  | (refine Z.IsW.ex (by assumption) ?_; walk_at "z_w")
  | (refine Z.IsW.gr (by assumption) ?_; walk_at "z_w"))
local macro_rules | `(tactic| walk_at "z_o") => `(tactic| first
  | (refine Or.inl (Exists.intro _ (And.intro rfl ?_)); walk_at "z_w")
  | (refine Z.opd_int ?_; assumption))
local macro_rules | `(tactic| walk_at "z_1") => `(tactic| first
  | with_reducible refine Z.s_callN ?_
  | with_reducible refine Z.s_callS ?_
  | with_reducible refine Z.s_err ?_
  | with_reducible refine Z.s_xv ?_
  | ((with_reducible refine Z.g_tup (xs := ?zx) ?zh ?zn ?_); (case zh => walk_at "z_hp"); (case zn => rfl))
  | with_reducible refine Z.g_cons ?_
  | with_reducible refine Z.g_nil ?_
  | ((with_reducible refine Z.s_aug (x := ?zx) ?zh ?_); (case zh => rfl))
  | ((with_reducible refine Z.r_ip ?_); dsimp only [List.set])
  | with_reducible refine Z.s_join ?_
  | with_reducible refine Z.js_nil ?_
  | with_reducible refine Z.js_cons ?_
  | with_reducible refine Z.s_fmt ?_
  | with_reducible refine Z.r_eqSS ?_
  | with_reducible refine Z.r_neSS ?_)
local macro_rules | `(tactic| walk_at "z_1") => `(tactic| with_reducible refine Z.s_xf ?_)
local macro_rules | `(tactic| walk_at "z_hp") => `(tactic| first
  | (refine Z.Tx.get (by assumption) ?za rfl; (case za => walk_at "z_hp"))
  | (refine Z.Tx.sql (by assumption) ?_; walk_at "z_hp")
  | (refine Z.Tx.sqt (by assumption) ?_; walk_at "z_hp"))
local macro_rules | `(tactic| walk_at "z_w") => `(tactic| (refine Z.IsW.tx (by assumption) ?_; walk_at "z_w"))
local macro_rules | `(tactic| walk_at "z_pe") => `(tactic| (refine Z.PenAt.tx (by assumption) ?_; walk_at "z_pe"))
local macro_rules | `(tactic| walk_at "z_tb") => `(tactic| first
  | assumption
  | (refine Z.tabs_ex ?_ (by assumption); walk_at "z_tb")
  | (refine Z.tabs_gr ?_ (by assumption); walk_at "z_tb"))
namespace L
open PySem PySem.Spec PyProof.Rows L2 Z
def top (i : Nat) : Stmt := PySem.Challenge.pw_twozeros_k11_halves.main.body.getD i (.Pass ⟨0, 0, 0, 0⟩)
abbrev s_is_integer : Stmt := top 2
abbrev s_is_between : Stmt := top 3
abbrev s_top_of : Stmt := top 11
abbrev s_sum_word : Stmt := top 12
abbrev s_multiple_word : Stmt := top 13
abbrev s_need_times : Stmt := top 14
abbrev s_operand_value : Stmt := top 15
abbrev s_need_comparable : Stmt := top 16
abbrev s_rest_of : Stmt := top 17
abbrev s_Word_DinitD : Stmt := inClass (top 18) 1
abbrev s_Word_empty : Stmt := inClass (top 18) 2
abbrev s_Word_full : Stmt := inClass (top 18) 3
abbrev s_Word_read : Stmt := inClass (top 18) 4
abbrev s_Word_rest : Stmt := inClass (top 18) 5
abbrev s_Word_DaddD : Stmt := inClass (top 18) 8
abbrev s_Word_DraddD : Stmt := inClass (top 18) 9
abbrev s_Word_DsubD : Stmt := inClass (top 18) 10
abbrev s_Word_DrsubD : Stmt := inClass (top 18) 11
abbrev s_Word_DxorD : Stmt := inClass (top 18) 12
abbrev s_Word_DrxorD : Stmt := inClass (top 18) 13
abbrev s_Word_DinvertD : Stmt := inClass (top 18) 14
abbrev s_Word_DmulD : Stmt := inClass (top 18) 15
abbrev s_Word_DrmulD : Stmt := inClass (top 18) 16
abbrev s_Word_DlshiftD : Stmt := inClass (top 18) 17
abbrev s_Word_DrshiftD : Stmt := inClass (top 18) 18
abbrev s_Word_DabsD : Stmt := inClass (top 18) 19
abbrev s_Word_DboolD : Stmt := inClass (top 18) 20
abbrev s_Word_DeqD : Stmt := inClass (top 18) 21
abbrev s_Word_DltD : Stmt := inClass (top 18) 22
abbrev s_Word_DleD : Stmt := inClass (top 18) 23
abbrev s_Word_DgtD : Stmt := inClass (top 18) 24
abbrev s_Word_DgeD : Stmt := inClass (top 18) 25
abbrev s_Word_DstrD : Stmt := inClass (top 18) 26
abbrev s_Word_DreprD : Stmt := inClass (top 18) 27
abbrev s_need_even : Stmt := top 20
abbrev s_packed : Stmt := top 21
abbrev s_half_total : Stmt := top 22
abbrev s__law_pen : Stmt := top 24
abbrev s__law_draw : Stmt := top 25
abbrev s__law_heard : Stmt := top 26
abbrev s__law_halves : Stmt := top 27
abbrev s__law_values : Stmt := top 28
abbrev s__law_total : Stmt := top 29
abbrev s__law_bent_right : Stmt := top 30
abbrev s_law : Stmt := top 31
theorem sc_is_integer : FnScope ["value"] ["value"] (defScope s_is_integer) := ⟨rfl, rfl, rfl, by decide +kernel, rfl, by decide +kernel, by decide +kernel⟩
theorem sc_is_between : FnScope ["value", "low", "high"] ["value", "low", "high"] (defScope s_is_between) := ⟨rfl, rfl, rfl, by decide +kernel, rfl, by decide +kernel, by decide +kernel⟩
theorem sc_top_of : FnScope ["width"] ["width"] (defScope s_top_of) := ⟨rfl, rfl, rfl, by decide +kernel, rfl, by decide +kernel, by decide +kernel⟩
theorem sc_sum_word : FnScope ["width", "one", "other", "s", "top"] ["width", "one", "other"] (defScope s_sum_word) := ⟨rfl, rfl, rfl, by decide +kernel, rfl, by decide +kernel, by decide +kernel⟩
theorem sc_multiple_word : FnScope ["width", "value", "times"] ["width", "value", "times"] (defScope s_multiple_word) := ⟨rfl, rfl, rfl, by decide +kernel, rfl, by decide +kernel, by decide +kernel⟩
theorem sc_need_times : FnScope ["value"] ["value"] (defScope s_need_times) := ⟨rfl, rfl, rfl, by decide +kernel, rfl, by decide +kernel, by decide +kernel⟩
theorem sc_operand_value : FnScope ["word", "other"] ["word", "other"] (defScope s_operand_value) := ⟨rfl, rfl, rfl, by decide +kernel, rfl, by decide +kernel, by decide +kernel⟩
theorem sc_need_comparable : FnScope ["word", "other"] ["word", "other"] (defScope s_need_comparable) := ⟨rfl, rfl, rfl, by decide +kernel, rfl, by decide +kernel, by decide +kernel⟩
theorem sc_rest_of : FnScope ["width", "value"] ["width", "value"] (defScope s_rest_of) := ⟨rfl, rfl, rfl, by decide +kernel, rfl, by decide +kernel, by decide +kernel⟩
theorem sc_Word_DinitD : FnScope ["self", "width", "value"] ["self", "width", "value"] (defScope s_Word_DinitD) := ⟨rfl, rfl, rfl, by decide +kernel, rfl, by decide +kernel, by decide +kernel⟩
theorem sc_Word_empty : FnScope ["width"] ["width"] (defScope s_Word_empty) := ⟨rfl, rfl, rfl, by decide +kernel, rfl, by decide +kernel, by decide +kernel⟩
theorem sc_Word_full : FnScope ["width"] ["width"] (defScope s_Word_full) := ⟨rfl, rfl, rfl, by decide +kernel, rfl, by decide +kernel, by decide +kernel⟩
theorem sc_Word_read : FnScope ["cls", "text", "value", "sign"] ["cls", "text"] (defScope s_Word_read) := ⟨rfl, rfl, rfl, by decide +kernel, rfl, by decide +kernel, by decide +kernel⟩
theorem sc_Word_rest : FnScope ["self"] ["self"] (defScope s_Word_rest) := ⟨rfl, rfl, rfl, by decide +kernel, rfl, by decide +kernel, by decide +kernel⟩
theorem sc_Word_DaddD : FnScope ["self", "other"] ["self", "other"] (defScope s_Word_DaddD) := ⟨rfl, rfl, rfl, by decide +kernel, rfl, by decide +kernel, by decide +kernel⟩
theorem sc_Word_DraddD : FnScope ["self", "other"] ["self", "other"] (defScope s_Word_DraddD) := ⟨rfl, rfl, rfl, by decide +kernel, rfl, by decide +kernel, by decide +kernel⟩
theorem sc_Word_DsubD : FnScope ["self", "other"] ["self", "other"] (defScope s_Word_DsubD) := ⟨rfl, rfl, rfl, by decide +kernel, rfl, by decide +kernel, by decide +kernel⟩
theorem sc_Word_DrsubD : FnScope ["self", "other"] ["self", "other"] (defScope s_Word_DrsubD) := ⟨rfl, rfl, rfl, by decide +kernel, rfl, by decide +kernel, by decide +kernel⟩
theorem sc_Word_DxorD : FnScope ["self", "other"] ["self", "other"] (defScope s_Word_DxorD) := ⟨rfl, rfl, rfl, by decide +kernel, rfl, by decide +kernel, by decide +kernel⟩
theorem sc_Word_DrxorD : FnScope ["self", "other"] ["self", "other"] (defScope s_Word_DrxorD) := ⟨rfl, rfl, rfl, by decide +kernel, rfl, by decide +kernel, by decide +kernel⟩
theorem sc_Word_DinvertD : FnScope ["self"] ["self"] (defScope s_Word_DinvertD) := ⟨rfl, rfl, rfl, by decide +kernel, rfl, by decide +kernel, by decide +kernel⟩
theorem sc_Word_DmulD : FnScope ["self", "other"] ["self", "other"] (defScope s_Word_DmulD) := ⟨rfl, rfl, rfl, by decide +kernel, rfl, by decide +kernel, by decide +kernel⟩
theorem sc_Word_DrmulD : FnScope ["self", "other"] ["self", "other"] (defScope s_Word_DrmulD) := ⟨rfl, rfl, rfl, by decide +kernel, rfl, by decide +kernel, by decide +kernel⟩
theorem sc_Word_DlshiftD : FnScope ["self", "other"] ["self", "other"] (defScope s_Word_DlshiftD) := ⟨rfl, rfl, rfl, by decide +kernel, rfl, by decide +kernel, by decide +kernel⟩
theorem sc_Word_DrshiftD : FnScope ["self", "other"] ["self", "other"] (defScope s_Word_DrshiftD) := ⟨rfl, rfl, rfl, by decide +kernel, rfl, by decide +kernel, by decide +kernel⟩
theorem sc_Word_DabsD : FnScope ["self", "rest", "beyond"] ["self"] (defScope s_Word_DabsD) := ⟨rfl, rfl, rfl, by decide +kernel, rfl, by decide +kernel, by decide +kernel⟩
theorem sc_Word_DboolD : FnScope ["self"] ["self"] (defScope s_Word_DboolD) := ⟨rfl, rfl, rfl, by decide +kernel, rfl, by decide +kernel, by decide +kernel⟩
theorem sc_Word_DeqD : FnScope ["self", "other"] ["self", "other"] (defScope s_Word_DeqD) := ⟨rfl, rfl, rfl, by decide +kernel, rfl, by decide +kernel, by decide +kernel⟩
theorem sc_Word_DltD : FnScope ["self", "other"] ["self", "other"] (defScope s_Word_DltD) := ⟨rfl, rfl, rfl, by decide +kernel, rfl, by decide +kernel, by decide +kernel⟩
theorem sc_Word_DleD : FnScope ["self", "other"] ["self", "other"] (defScope s_Word_DleD) := ⟨rfl, rfl, rfl, by decide +kernel, rfl, by decide +kernel, by decide +kernel⟩
theorem sc_Word_DgtD : FnScope ["self", "other"] ["self", "other"] (defScope s_Word_DgtD) := ⟨rfl, rfl, rfl, by decide +kernel, rfl, by decide +kernel, by decide +kernel⟩
theorem sc_Word_DgeD : FnScope ["self", "other"] ["self", "other"] (defScope s_Word_DgeD) := ⟨rfl, rfl, rfl, by decide +kernel, rfl, by decide +kernel, by decide +kernel⟩
theorem sc_Word_DstrD : FnScope ["self", "at"] ["self"] (defScope s_Word_DstrD) := ⟨rfl, rfl, rfl, by decide +kernel, rfl, by decide +kernel, by decide +kernel⟩
theorem sc_Word_DreprD : FnScope ["self"] ["self"] (defScope s_Word_DreprD) := ⟨rfl, rfl, rfl, by decide +kernel, rfl, by decide +kernel, by decide +kernel⟩
theorem sc_need_even : FnScope ["width"] ["width"] (defScope s_need_even) := ⟨rfl, rfl, rfl, by decide +kernel, rfl, by decide +kernel, by decide +kernel⟩
theorem sc_packed : FnScope ["width", "halves", "half", "value", "filled", "at"] ["width", "halves"] (defScope s_packed) := ⟨rfl, rfl, rfl, by decide +kernel, rfl, by decide +kernel, by decide +kernel⟩
theorem sc_half_total : FnScope ["width", "halves", "words", "found", "word"] ["width", "halves"] (defScope s_half_total) := ⟨rfl, rfl, rfl, by decide +kernel, rfl, by decide +kernel, by decide +kernel⟩
theorem sc__law_pen : FnScope ["_law_script"] ["_law_script"] (defScope s__law_pen) := ⟨rfl, rfl, rfl, by decide +kernel, rfl, by decide +kernel, by decide +kernel⟩
theorem sc__law_draw : FnScope ["_law_pen_here", "_law_many", "_law_digit", "_law_at", "_law_cell", "_law_great", "_law_mixed"] ["_law_pen_here", "_law_many"] (defScope s__law_draw) := ⟨rfl, rfl, rfl, by decide +kernel, rfl, by decide +kernel, by decide +kernel⟩
theorem sc__law_heard : FnScope ["_law_ask", "_law_heard_here", "error"] ["_law_ask"] (defScope s__law_heard) := ⟨rfl, rfl, rfl, by decide +kernel, rfl, by decide +kernel, by decide +kernel⟩
theorem sc__law_halves : FnScope ["_law_pen_here", "_law_width", "_law_top", "_law_way", "_law_found", "_law_k", "_law_some"] ["_law_pen_here", "_law_width"] (defScope s__law_halves) := ⟨rfl, rfl, rfl, by decide +kernel, rfl, by decide +kernel, by decide +kernel⟩
theorem sc__law_values : FnScope ["_law_width", "_law_halves_here", "_law_found", "_law_half", "_law_at", "_law_lower"] ["_law_width", "_law_halves_here"] (defScope s__law_values) := ⟨rfl, rfl, rfl, by decide +kernel, rfl, by decide +kernel, by decide +kernel⟩
theorem sc__law_total : FnScope ["_law_width", "_law_values_here", "_law_s"] ["_law_width", "_law_values_here"] (defScope s__law_total) := ⟨rfl, rfl, rfl, by decide +kernel, rfl, by decide +kernel, by decide +kernel⟩
theorem sc__law_bent_right : FnScope ["_law_pen_here", "_law_width", "_law_halves_here", "_law_some", "_law_wrong", "_law_at", "_law_pairs", "_law_due", "_law_bent", "_law_breadth", "_law_odd"] ["_law_pen_here", "_law_width", "_law_halves_here"] (defScope s__law_bent_right) := ⟨rfl, rfl, rfl, by decide +kernel, rfl, by decide +kernel, by decide +kernel⟩
theorem sc_law : FnScope ["_law_script", "_law_pen_here", "_law_turn", "_law_width", "_law_halves_here", "_law_values_here", "_law_handed", "_law_whole", "_law_worth"] ["_law_script"] (defScope s_law) := ⟨rfl, rfl, rfl, by decide +kernel, rfl, by decide +kernel, by decide +kernel⟩
abbrev s_BadWidth_DinitD : Stmt := inClass (top 6) 0
abbrev s_BadWord_DinitD : Stmt := inClass (top 7) 0
abbrev s_UnlikeWidths_DinitD : Stmt := inClass (top 8) 0
structure Txt (K : PySem.W.Frag) (mg : Str → Option Value) : Prop where
  F_BadWidth_DinitD : fnAtE K (He.ma K (He.ga K "BadWidth") "__init__") = some (("__init__" : Str), ("BadWidth.__init__" : Str), defArgs s_BadWidth_DinitD, FuncBody.stmts (defBody s_BadWidth_DinitD), defScope s_BadWidth_DinitD, mainGlobals, ([] : List (Str × Addr)), builtinsNs)
  F_BadWord_DinitD : fnAtE K (He.ma K (He.ga K "BadWord") "__init__") = some (("__init__" : Str), ("BadWord.__init__" : Str), defArgs s_BadWord_DinitD, FuncBody.stmts (defBody s_BadWord_DinitD), defScope s_BadWord_DinitD, mainGlobals, ([] : List (Str × Addr)), builtinsNs)
  F_UnlikeWidths_DinitD : fnAtE K (He.ma K (He.ga K "UnlikeWidths") "__init__") = some (("__init__" : Str), ("UnlikeWidths.__init__" : Str), defArgs s_UnlikeWidths_DinitD, FuncBody.stmts (defBody s_UnlikeWidths_DinitD), defScope s_UnlikeWidths_DinitD, mainGlobals, ([] : List (Str × Addr)), builtinsNs)
  F_is_integer : ∃ d, FunD K "is_integer" "is_integer" (defArgs s_is_integer) (defBody s_is_integer) (defScope s_is_integer) [] [] (He.ga K "is_integer") d
  F_is_between : ∃ d, FunD K "is_between" "is_between" (defArgs s_is_between) (defBody s_is_between) (defScope s_is_between) [] [] (He.ga K "is_between") d
  F_top_of : ∃ d, FunD K "top_of" "top_of" (defArgs s_top_of) (defBody s_top_of) (defScope s_top_of) [] [] (He.ga K "top_of") d
  F_sum_word : ∃ d, FunD K "sum_word" "sum_word" (defArgs s_sum_word) (defBody s_sum_word) (defScope s_sum_word) [] [] (He.ga K "sum_word") d
  F_multiple_word : ∃ d, FunD K "multiple_word" "multiple_word" (defArgs s_multiple_word) (defBody s_multiple_word) (defScope s_multiple_word) [] [] (He.ga K "multiple_word") d
  F_need_times : ∃ d, FunD K "need_times" "need_times" (defArgs s_need_times) (defBody s_need_times) (defScope s_need_times) [] [] (He.ga K "need_times") d
  F_operand_value : ∃ d, FunD K "operand_value" "operand_value" (defArgs s_operand_value) (defBody s_operand_value) (defScope s_operand_value) [] [] (He.ga K "operand_value") d
  F_need_comparable : ∃ d, FunD K "need_comparable" "need_comparable" (defArgs s_need_comparable) (defBody s_need_comparable) (defScope s_need_comparable) [] [] (He.ga K "need_comparable") d
  F_rest_of : ∃ d, FunD K "rest_of" "rest_of" (defArgs s_rest_of) (defBody s_rest_of) (defScope s_rest_of) [] [] (He.ga K "rest_of") d
  F_Word_DinitD : ∃ d, FunD K "__init__" "Word.__init__" (defArgs s_Word_DinitD) (defBody s_Word_DinitD) (defScope s_Word_DinitD) [] [] (He.ma K (He.ga K "Word") "__init__") d
  F_Word_empty : ∃ d, FunD K "empty" "Word.empty" (defArgs s_Word_empty) (defBody s_Word_empty) (defScope s_Word_empty) [] [] (recAd K (He.ma K (He.ga K "Word") "empty") "staticmethod") d
  F_Word_full : ∃ d, FunD K "full" "Word.full" (defArgs s_Word_full) (defBody s_Word_full) (defScope s_Word_full) [] [] (recAd K (He.ma K (He.ga K "Word") "full") "staticmethod") d
  F_Word_read : ∃ d, FunD K "read" "Word.read" (defArgs s_Word_read) (defBody s_Word_read) (defScope s_Word_read) [] [] (recAd K (He.ma K (He.ga K "Word") "read") "classmethod") d
  F_Word_rest : ∃ d, FunD K "rest" "Word.rest" (defArgs s_Word_rest) (defBody s_Word_rest) (defScope s_Word_rest) [] [] (recAd K (He.ma K (He.ga K "Word") "rest") "property") d
  F_Word_DaddD : ∃ d, FunD K "__add__" "Word.__add__" (defArgs s_Word_DaddD) (defBody s_Word_DaddD) (defScope s_Word_DaddD) [] [] (He.ma K (He.ga K "Word") "__add__") d
  F_Word_DraddD : ∃ d, FunD K "__radd__" "Word.__radd__" (defArgs s_Word_DraddD) (defBody s_Word_DraddD) (defScope s_Word_DraddD) [] [] (He.ma K (He.ga K "Word") "__radd__") d
  F_Word_DsubD : ∃ d, FunD K "__sub__" "Word.__sub__" (defArgs s_Word_DsubD) (defBody s_Word_DsubD) (defScope s_Word_DsubD) [] [] (He.ma K (He.ga K "Word") "__sub__") d
  F_Word_DrsubD : ∃ d, FunD K "__rsub__" "Word.__rsub__" (defArgs s_Word_DrsubD) (defBody s_Word_DrsubD) (defScope s_Word_DrsubD) [] [] (He.ma K (He.ga K "Word") "__rsub__") d
  F_Word_DxorD : ∃ d, FunD K "__xor__" "Word.__xor__" (defArgs s_Word_DxorD) (defBody s_Word_DxorD) (defScope s_Word_DxorD) [] [] (He.ma K (He.ga K "Word") "__xor__") d
  F_Word_DrxorD : ∃ d, FunD K "__rxor__" "Word.__rxor__" (defArgs s_Word_DrxorD) (defBody s_Word_DrxorD) (defScope s_Word_DrxorD) [] [] (He.ma K (He.ga K "Word") "__rxor__") d
  F_Word_DinvertD : ∃ d, FunD K "__invert__" "Word.__invert__" (defArgs s_Word_DinvertD) (defBody s_Word_DinvertD) (defScope s_Word_DinvertD) [] [] (He.ma K (He.ga K "Word") "__invert__") d
  F_Word_DmulD : ∃ d, FunD K "__mul__" "Word.__mul__" (defArgs s_Word_DmulD) (defBody s_Word_DmulD) (defScope s_Word_DmulD) [] [] (He.ma K (He.ga K "Word") "__mul__") d
  F_Word_DrmulD : ∃ d, FunD K "__rmul__" "Word.__rmul__" (defArgs s_Word_DrmulD) (defBody s_Word_DrmulD) (defScope s_Word_DrmulD) [] [] (He.ma K (He.ga K "Word") "__rmul__") d
  F_Word_DlshiftD : ∃ d, FunD K "__lshift__" "Word.__lshift__" (defArgs s_Word_DlshiftD) (defBody s_Word_DlshiftD) (defScope s_Word_DlshiftD) [] [] (He.ma K (He.ga K "Word") "__lshift__") d
  F_Word_DrshiftD : ∃ d, FunD K "__rshift__" "Word.__rshift__" (defArgs s_Word_DrshiftD) (defBody s_Word_DrshiftD) (defScope s_Word_DrshiftD) [] [] (He.ma K (He.ga K "Word") "__rshift__") d
  F_Word_DabsD : ∃ d, FunD K "__abs__" "Word.__abs__" (defArgs s_Word_DabsD) (defBody s_Word_DabsD) (defScope s_Word_DabsD) [] [] (He.ma K (He.ga K "Word") "__abs__") d
  F_Word_DboolD : ∃ d, FunD K "__bool__" "Word.__bool__" (defArgs s_Word_DboolD) (defBody s_Word_DboolD) (defScope s_Word_DboolD) [] [] (He.ma K (He.ga K "Word") "__bool__") d
  F_Word_DeqD : ∃ d, FunD K "__eq__" "Word.__eq__" (defArgs s_Word_DeqD) (defBody s_Word_DeqD) (defScope s_Word_DeqD) [] [] (He.ma K (He.ga K "Word") "__eq__") d
  F_Word_DltD : ∃ d, FunD K "__lt__" "Word.__lt__" (defArgs s_Word_DltD) (defBody s_Word_DltD) (defScope s_Word_DltD) [] [] (He.ma K (He.ga K "Word") "__lt__") d
  F_Word_DleD : ∃ d, FunD K "__le__" "Word.__le__" (defArgs s_Word_DleD) (defBody s_Word_DleD) (defScope s_Word_DleD) [] [] (He.ma K (He.ga K "Word") "__le__") d
  F_Word_DgtD : ∃ d, FunD K "__gt__" "Word.__gt__" (defArgs s_Word_DgtD) (defBody s_Word_DgtD) (defScope s_Word_DgtD) [] [] (He.ma K (He.ga K "Word") "__gt__") d
  F_Word_DgeD : ∃ d, FunD K "__ge__" "Word.__ge__" (defArgs s_Word_DgeD) (defBody s_Word_DgeD) (defScope s_Word_DgeD) [] [] (He.ma K (He.ga K "Word") "__ge__") d
  F_Word_DstrD : ∃ d, FunD K "__str__" "Word.__str__" (defArgs s_Word_DstrD) (defBody s_Word_DstrD) (defScope s_Word_DstrD) [] [] (He.ma K (He.ga K "Word") "__str__") d
  F_Word_DreprD : ∃ d, FunD K "__repr__" "Word.__repr__" (defArgs s_Word_DreprD) (defBody s_Word_DreprD) (defScope s_Word_DreprD) [] [] (He.ma K (He.ga K "Word") "__repr__") d
  F_need_even : ∃ d, FunD K "need_even" "need_even" (defArgs s_need_even) (defBody s_need_even) (defScope s_need_even) [] [] (He.ga K "need_even") d
  F_packed : ∃ d, FunD K "packed" "packed" (defArgs s_packed) (defBody s_packed) (defScope s_packed) [] [] (He.ga K "packed") d
  F_half_total : ∃ d, FunD K "half_total" "half_total" (defArgs s_half_total) (defBody s_half_total) (defScope s_half_total) [] [] (He.ga K "half_total") d
  F__law_pen : ∃ d, FunD K "_law_pen" "_law_pen" (defArgs s__law_pen) (defBody s__law_pen) (defScope s__law_pen) [] [] (He.ga K "_law_pen") d
  F__law_draw : ∃ d, FunD K "_law_draw" "_law_draw" (defArgs s__law_draw) (defBody s__law_draw) (defScope s__law_draw) [] [] (He.ga K "_law_draw") d
  F__law_heard : ∃ d, FunD K "_law_heard" "_law_heard" (defArgs s__law_heard) (defBody s__law_heard) (defScope s__law_heard) [] [] (He.ga K "_law_heard") d
  F__law_halves : ∃ d, FunD K "_law_halves" "_law_halves" (defArgs s__law_halves) (defBody s__law_halves) (defScope s__law_halves) [] [] (He.ga K "_law_halves") d
  F__law_values : ∃ d, FunD K "_law_values" "_law_values" (defArgs s__law_values) (defBody s__law_values) (defScope s__law_values) [] [] (He.ga K "_law_values") d
  F__law_total : ∃ d, FunD K "_law_total" "_law_total" (defArgs s__law_total) (defBody s__law_total) (defScope s__law_total) [] [] (He.ga K "_law_total") d
  F__law_bent_right : ∃ d, FunD K "_law_bent_right" "_law_bent_right" (defArgs s__law_bent_right) (defBody s__law_bent_right) (defScope s__law_bent_right) [] [] (He.ga K "_law_bent_right") d
  F_law : ∃ d, FunD K "law" "law" (defArgs s_law) (defBody s_law) (defScope s_law) [] [] (He.ga K "law") d
  g_is_integer : mg "is_integer" = some (.ref (He.ga K "is_integer"))
  g_is_between : mg "is_between" = some (.ref (He.ga K "is_between"))
  g_top_of : mg "top_of" = some (.ref (He.ga K "top_of"))
  g_sum_word : mg "sum_word" = some (.ref (He.ga K "sum_word"))
  g_multiple_word : mg "multiple_word" = some (.ref (He.ga K "multiple_word"))
  g_need_times : mg "need_times" = some (.ref (He.ga K "need_times"))
  g_operand_value : mg "operand_value" = some (.ref (He.ga K "operand_value"))
  g_need_comparable : mg "need_comparable" = some (.ref (He.ga K "need_comparable"))
  g_rest_of : mg "rest_of" = some (.ref (He.ga K "rest_of"))
  g_need_even : mg "need_even" = some (.ref (He.ga K "need_even"))
  g_packed : mg "packed" = some (.ref (He.ga K "packed"))
  g_half_total : mg "half_total" = some (.ref (He.ga K "half_total"))
  g__law_pen : mg "_law_pen" = some (.ref (He.ga K "_law_pen"))
  g__law_draw : mg "_law_draw" = some (.ref (He.ga K "_law_draw"))
  g__law_heard : mg "_law_heard" = some (.ref (He.ga K "_law_heard"))
  g__law_halves : mg "_law_halves" = some (.ref (He.ga K "_law_halves"))
  g__law_values : mg "_law_values" = some (.ref (He.ga K "_law_values"))
  g__law_total : mg "_law_total" = some (.ref (He.ga K "_law_total"))
  g__law_bent_right : mg "_law_bent_right" = some (.ref (He.ga K "_law_bent_right"))
  g_law : mg "law" = some (.ref (He.ga K "law"))
  n_len : mg "len" = none
  n_int : mg "int" = none
  n_abs : mg "abs" = none
  n_list : mg "list" = none
  n_range : mg "range" = none
  n_isinstance : mg "isinstance" = none
  n_bool : mg "bool" = none
  n_str : mg "str" = none
  n_repr : mg "repr" = none
  n_sum : mg "sum" = none
  g_BadWidth : mg "BadWidth" = some (.ref (He.ga K "BadWidth"))
  g_BadWord : mg "BadWord" = some (.ref (He.ga K "BadWord"))
  g_UnlikeWidths : mg "UnlikeWidths" = some (.ref (He.ga K "UnlikeWidths"))
  n_super : PySem.W.nsIn K mainGlobals "super" = some none
  n_third : PySem.W.nsIn K cStatics "thirdparty.any" = some none
  o_cget : PySem.W.specialIn K (.builtin "object.__class__") "__get__" = some (some (.builtin "getset_descriptor.__get__"))
  o_ctake : PySem.W.takesIn K (.builtin "object.__class__") = some true
  eo_BadWidth : oexB K (He.ga K "BadWidth") = true
  es_BadWidth : PySem.W.findIn K (.ref (He.ga K "BadWidth")) "__setattr__" = some (some (.builtin "object.__setattr__"))
  ee_BadWidth : PySem.W.subIn K (.ref (He.ga K "BadWidth")) (.type "BaseException") = some true
  et_BadWidth : PySem.W.typeIn K (.ref (He.ga K "BadWidth")) = some (.type "type")
  ek_BadWidth : PySem.W.keepIn K (.ref (He.ga K "BadWidth")) = true
  ei_BadWidth : PySem.W.findIn K (.ref (He.ga K "BadWidth")) "__init__" = some (some (.ref (He.ma K (He.ga K "BadWidth") "__init__")))
  ej_BadWidth : PySem.W.typeIn K (.ref (He.ma K (He.ga K "BadWidth") "__init__")) = some (.type "function")
  eb_BadWidth : initB PySem.Challenge.pw_twozeros_k11_halves K (He.ga K "BadWidth") (He.ma K (He.ga K "BadWidth") "__init__") "BadWidth.__init__" = true
  eu_BadWidth : PySem.W.ks_superIn K (He.ga K "BadWidth") (He.ga K "BadWidth") "__init__" = some (some (.builtin "ValueError.__init__"))
  ev_BadWidth : PySem.W.subIn K (.ref (He.ga K "BadWidth")) (.type "ValueError") = some true
  em_BadWidth : PySem.W.mroIn K (He.ga K "BadWidth") (.ref (He.ga K "BadWidth")) = some true
  ex_BadWidth : xfB K (He.ga K "BadWidth") = true
  ec_BadWidth : (PySem.W.clsIn K (He.ga K "BadWidth")).isSome = true
  ea_BadWidth : PySem.W.findIn K (.ref (He.ga K "BadWidth")) "__class__" = some (some (.builtin "object.__class__"))
  eq_BadWidth : PySem.W.mroIn K (He.ga K "BadWidth") (.type "object") = some true
  en_BadWidth_width : PySem.W.findIn K (.ref (He.ga K "BadWidth")) "width" = some none
  eo_BadWord : oexB K (He.ga K "BadWord") = true
  es_BadWord : PySem.W.findIn K (.ref (He.ga K "BadWord")) "__setattr__" = some (some (.builtin "object.__setattr__"))
  ee_BadWord : PySem.W.subIn K (.ref (He.ga K "BadWord")) (.type "BaseException") = some true
  et_BadWord : PySem.W.typeIn K (.ref (He.ga K "BadWord")) = some (.type "type")
  ek_BadWord : PySem.W.keepIn K (.ref (He.ga K "BadWord")) = true
  ei_BadWord : PySem.W.findIn K (.ref (He.ga K "BadWord")) "__init__" = some (some (.ref (He.ma K (He.ga K "BadWord") "__init__")))
  ej_BadWord : PySem.W.typeIn K (.ref (He.ma K (He.ga K "BadWord") "__init__")) = some (.type "function")
  eb_BadWord : initB PySem.Challenge.pw_twozeros_k11_halves K (He.ga K "BadWord") (He.ma K (He.ga K "BadWord") "__init__") "BadWord.__init__" = true
  eu_BadWord : PySem.W.ks_superIn K (He.ga K "BadWord") (He.ga K "BadWord") "__init__" = some (some (.builtin "ValueError.__init__"))
  ev_BadWord : PySem.W.subIn K (.ref (He.ga K "BadWord")) (.type "ValueError") = some true
  em_BadWord : PySem.W.mroIn K (He.ga K "BadWord") (.ref (He.ga K "BadWord")) = some true
  ex_BadWord : xfB K (He.ga K "BadWord") = true
  ec_BadWord : (PySem.W.clsIn K (He.ga K "BadWord")).isSome = true
  ea_BadWord : PySem.W.findIn K (.ref (He.ga K "BadWord")) "__class__" = some (some (.builtin "object.__class__"))
  eq_BadWord : PySem.W.mroIn K (He.ga K "BadWord") (.type "object") = some true
  en_BadWord_value : PySem.W.findIn K (.ref (He.ga K "BadWord")) "value" = some none
  eo_UnlikeWidths : oexB K (He.ga K "UnlikeWidths") = true
  es_UnlikeWidths : PySem.W.findIn K (.ref (He.ga K "UnlikeWidths")) "__setattr__" = some (some (.builtin "object.__setattr__"))
  ee_UnlikeWidths : PySem.W.subIn K (.ref (He.ga K "UnlikeWidths")) (.type "BaseException") = some true
  et_UnlikeWidths : PySem.W.typeIn K (.ref (He.ga K "UnlikeWidths")) = some (.type "type")
  ek_UnlikeWidths : PySem.W.keepIn K (.ref (He.ga K "UnlikeWidths")) = true
  ei_UnlikeWidths : PySem.W.findIn K (.ref (He.ga K "UnlikeWidths")) "__init__" = some (some (.ref (He.ma K (He.ga K "UnlikeWidths") "__init__")))
  ej_UnlikeWidths : PySem.W.typeIn K (.ref (He.ma K (He.ga K "UnlikeWidths") "__init__")) = some (.type "function")
  eb_UnlikeWidths : initB PySem.Challenge.pw_twozeros_k11_halves K (He.ga K "UnlikeWidths") (He.ma K (He.ga K "UnlikeWidths") "__init__") "UnlikeWidths.__init__" = true
  eu_UnlikeWidths : PySem.W.ks_superIn K (He.ga K "UnlikeWidths") (He.ga K "UnlikeWidths") "__init__" = some (some (.builtin "ValueError.__init__"))
  ev_UnlikeWidths : PySem.W.subIn K (.ref (He.ga K "UnlikeWidths")) (.type "ValueError") = some true
  em_UnlikeWidths : PySem.W.mroIn K (He.ga K "UnlikeWidths") (.ref (He.ga K "UnlikeWidths")) = some true
  ex_UnlikeWidths : xfB K (He.ga K "UnlikeWidths") = true
  ec_UnlikeWidths : (PySem.W.clsIn K (He.ga K "UnlikeWidths")).isSome = true
  ea_UnlikeWidths : PySem.W.findIn K (.ref (He.ga K "UnlikeWidths")) "__class__" = some (some (.builtin "object.__class__"))
  eq_UnlikeWidths : PySem.W.mroIn K (He.ga K "UnlikeWidths") (.type "object") = some true
  en_UnlikeWidths_one : PySem.W.findIn K (.ref (He.ga K "UnlikeWidths")) "one" = some none
  en_UnlikeWidths_other : PySem.W.findIn K (.ref (He.ga K "UnlikeWidths")) "other" = some none
  xm_BadWidth_BadWidth : PySem.W.exmOne K (.ref (He.ga K "BadWidth")) (.ref (He.ga K "BadWidth")) = some true
  xk_BadWidth_BadWidth : PySem.W.kitOne K (.ref (He.ga K "BadWidth")) (.ref (He.ga K "BadWidth")) = some true
  xm_BadWord_BadWidth : PySem.W.exmOne K (.ref (He.ga K "BadWord")) (.ref (He.ga K "BadWidth")) = some false
  xk_BadWord_BadWidth : PySem.W.kitOne K (.ref (He.ga K "BadWord")) (.ref (He.ga K "BadWidth")) = some false
  xm_BadWord_BadWord : PySem.W.exmOne K (.ref (He.ga K "BadWord")) (.ref (He.ga K "BadWord")) = some true
  xk_BadWord_BadWord : PySem.W.kitOne K (.ref (He.ga K "BadWord")) (.ref (He.ga K "BadWord")) = some true
  xm_UnlikeWidths_BadWidth : PySem.W.exmOne K (.ref (He.ga K "UnlikeWidths")) (.ref (He.ga K "BadWidth")) = some false
  xk_UnlikeWidths_BadWidth : PySem.W.kitOne K (.ref (He.ga K "UnlikeWidths")) (.ref (He.ga K "BadWidth")) = some false
  xm_UnlikeWidths_BadWord : PySem.W.exmOne K (.ref (He.ga K "UnlikeWidths")) (.ref (He.ga K "BadWord")) = some false
  xk_UnlikeWidths_BadWord : PySem.W.kitOne K (.ref (He.ga K "UnlikeWidths")) (.ref (He.ga K "BadWord")) = some false
  xm_UnlikeWidths_UnlikeWidths : PySem.W.exmOne K (.ref (He.ga K "UnlikeWidths")) (.ref (He.ga K "UnlikeWidths")) = some true
  xk_UnlikeWidths_UnlikeWidths : PySem.W.kitOne K (.ref (He.ga K "UnlikeWidths")) (.ref (He.ga K "UnlikeWidths")) = some true
  g_Word : mg "Word" = some (.ref (He.ga K "Word"))
  pg_Word : PySem.W.plainGet K (He.ga K "Word") Str.empty = true
  hd_Word : PySem.W.hasDictIn K (He.ga K "Word") = true
  po_Word : PySem.W.plainOver K (He.ga K "Word") = true
  sa_Word : PySem.W.findIn K (.ref (He.ga K "Word")) "__setattr__" = some (some (.builtin "object.__setattr__"))
  ic_Word : PySem.W.isClsIn K (He.ga K "Word") = true
  kc_Word : PySem.W.keepIn K (.ref (He.ga K "Word")) = true
  mk_Word : PySem.W.makesIn K (He.ga K "Word") = true
  sf_Word : PySem.W.selfFirst K (He.ga K "Word") = true
  na_Word_width : NoAttr K (He.ga K "Word") "width"
  na_Word_value : NoAttr K (He.ga K "Word") "value"
  a_Word_DinitD : PySem.W.findIn K (.ref (He.ga K "Word")) "__init__" = some (some (.ref (He.ma K (He.ga K "Word") "__init__")))
  i_Word_DinitD : PySem.W.isFn K (.ref (He.ma K (He.ga K "Word") "__init__")) = true
  k_Word_DinitD : PySem.W.keepIn K (.ref (He.ma K (He.ga K "Word") "__init__")) = true
  a_Word_empty : PySem.W.findIn K (.ref (He.ga K "Word")) "empty" = some (some (.ref (He.ma K (He.ga K "Word") "empty")))
  a_Word_full : PySem.W.findIn K (.ref (He.ga K "Word")) "full" = some (some (.ref (He.ma K (He.ga K "Word") "full")))
  a_Word_read : PySem.W.findIn K (.ref (He.ga K "Word")) "read" = some (some (.ref (He.ma K (He.ga K "Word") "read")))
  a_Word_rest : PySem.W.findIn K (.ref (He.ga K "Word")) "rest" = some (some (.ref (He.ma K (He.ga K "Word") "rest")))
  pg_Word_rest : PySem.W.specialIn K (.ref (He.ma K (He.ga K "Word") "rest")) "__get__" = some (some (.builtin "property.__get__"))
  pt_Word_rest : PySem.W.takesIn K (.ref (He.ma K (He.ga K "Word") "rest")) = some true
  pr_Word_rest : (PySem.W.recIn K (He.ma K (He.ga K "Word") "rest") "property").bind List.head? = some (.ref (recAd K (He.ma K (He.ga K "Word") "rest") "property"))
  a_Word_DaddD : PySem.W.findIn K (.ref (He.ga K "Word")) "__add__" = some (some (.ref (He.ma K (He.ga K "Word") "__add__")))
  i_Word_DaddD : PySem.W.isFn K (.ref (He.ma K (He.ga K "Word") "__add__")) = true
  k_Word_DaddD : PySem.W.keepIn K (.ref (He.ma K (He.ga K "Word") "__add__")) = true
  a_Word_DraddD : PySem.W.findIn K (.ref (He.ga K "Word")) "__radd__" = some (some (.ref (He.ma K (He.ga K "Word") "__radd__")))
  i_Word_DraddD : PySem.W.isFn K (.ref (He.ma K (He.ga K "Word") "__radd__")) = true
  k_Word_DraddD : PySem.W.keepIn K (.ref (He.ma K (He.ga K "Word") "__radd__")) = true
  a_Word_DsubD : PySem.W.findIn K (.ref (He.ga K "Word")) "__sub__" = some (some (.ref (He.ma K (He.ga K "Word") "__sub__")))
  i_Word_DsubD : PySem.W.isFn K (.ref (He.ma K (He.ga K "Word") "__sub__")) = true
  k_Word_DsubD : PySem.W.keepIn K (.ref (He.ma K (He.ga K "Word") "__sub__")) = true
  a_Word_DrsubD : PySem.W.findIn K (.ref (He.ga K "Word")) "__rsub__" = some (some (.ref (He.ma K (He.ga K "Word") "__rsub__")))
  i_Word_DrsubD : PySem.W.isFn K (.ref (He.ma K (He.ga K "Word") "__rsub__")) = true
  k_Word_DrsubD : PySem.W.keepIn K (.ref (He.ma K (He.ga K "Word") "__rsub__")) = true
  a_Word_DxorD : PySem.W.findIn K (.ref (He.ga K "Word")) "__xor__" = some (some (.ref (He.ma K (He.ga K "Word") "__xor__")))
  i_Word_DxorD : PySem.W.isFn K (.ref (He.ma K (He.ga K "Word") "__xor__")) = true
  k_Word_DxorD : PySem.W.keepIn K (.ref (He.ma K (He.ga K "Word") "__xor__")) = true
  a_Word_DrxorD : PySem.W.findIn K (.ref (He.ga K "Word")) "__rxor__" = some (some (.ref (He.ma K (He.ga K "Word") "__rxor__")))
  i_Word_DrxorD : PySem.W.isFn K (.ref (He.ma K (He.ga K "Word") "__rxor__")) = true
  k_Word_DrxorD : PySem.W.keepIn K (.ref (He.ma K (He.ga K "Word") "__rxor__")) = true
  a_Word_DinvertD : PySem.W.findIn K (.ref (He.ga K "Word")) "__invert__" = some (some (.ref (He.ma K (He.ga K "Word") "__invert__")))
  i_Word_DinvertD : PySem.W.isFn K (.ref (He.ma K (He.ga K "Word") "__invert__")) = true
  k_Word_DinvertD : PySem.W.keepIn K (.ref (He.ma K (He.ga K "Word") "__invert__")) = true
  a_Word_DmulD : PySem.W.findIn K (.ref (He.ga K "Word")) "__mul__" = some (some (.ref (He.ma K (He.ga K "Word") "__mul__")))
  i_Word_DmulD : PySem.W.isFn K (.ref (He.ma K (He.ga K "Word") "__mul__")) = true
  k_Word_DmulD : PySem.W.keepIn K (.ref (He.ma K (He.ga K "Word") "__mul__")) = true
  a_Word_DrmulD : PySem.W.findIn K (.ref (He.ga K "Word")) "__rmul__" = some (some (.ref (He.ma K (He.ga K "Word") "__rmul__")))
  i_Word_DrmulD : PySem.W.isFn K (.ref (He.ma K (He.ga K "Word") "__rmul__")) = true
  k_Word_DrmulD : PySem.W.keepIn K (.ref (He.ma K (He.ga K "Word") "__rmul__")) = true
  a_Word_DlshiftD : PySem.W.findIn K (.ref (He.ga K "Word")) "__lshift__" = some (some (.ref (He.ma K (He.ga K "Word") "__lshift__")))
  i_Word_DlshiftD : PySem.W.isFn K (.ref (He.ma K (He.ga K "Word") "__lshift__")) = true
  k_Word_DlshiftD : PySem.W.keepIn K (.ref (He.ma K (He.ga K "Word") "__lshift__")) = true
  a_Word_DrshiftD : PySem.W.findIn K (.ref (He.ga K "Word")) "__rshift__" = some (some (.ref (He.ma K (He.ga K "Word") "__rshift__")))
  i_Word_DrshiftD : PySem.W.isFn K (.ref (He.ma K (He.ga K "Word") "__rshift__")) = true
  k_Word_DrshiftD : PySem.W.keepIn K (.ref (He.ma K (He.ga K "Word") "__rshift__")) = true
  a_Word_DabsD : PySem.W.findIn K (.ref (He.ga K "Word")) "__abs__" = some (some (.ref (He.ma K (He.ga K "Word") "__abs__")))
  i_Word_DabsD : PySem.W.isFn K (.ref (He.ma K (He.ga K "Word") "__abs__")) = true
  k_Word_DabsD : PySem.W.keepIn K (.ref (He.ma K (He.ga K "Word") "__abs__")) = true
  a_Word_DboolD : PySem.W.findIn K (.ref (He.ga K "Word")) "__bool__" = some (some (.ref (He.ma K (He.ga K "Word") "__bool__")))
  i_Word_DboolD : PySem.W.isFn K (.ref (He.ma K (He.ga K "Word") "__bool__")) = true
  k_Word_DboolD : PySem.W.keepIn K (.ref (He.ma K (He.ga K "Word") "__bool__")) = true
  a_Word_DeqD : PySem.W.findIn K (.ref (He.ga K "Word")) "__eq__" = some (some (.ref (He.ma K (He.ga K "Word") "__eq__")))
  i_Word_DeqD : PySem.W.isFn K (.ref (He.ma K (He.ga K "Word") "__eq__")) = true
  k_Word_DeqD : PySem.W.keepIn K (.ref (He.ma K (He.ga K "Word") "__eq__")) = true
  a_Word_DltD : PySem.W.findIn K (.ref (He.ga K "Word")) "__lt__" = some (some (.ref (He.ma K (He.ga K "Word") "__lt__")))
  i_Word_DltD : PySem.W.isFn K (.ref (He.ma K (He.ga K "Word") "__lt__")) = true
  k_Word_DltD : PySem.W.keepIn K (.ref (He.ma K (He.ga K "Word") "__lt__")) = true
  a_Word_DleD : PySem.W.findIn K (.ref (He.ga K "Word")) "__le__" = some (some (.ref (He.ma K (He.ga K "Word") "__le__")))
  i_Word_DleD : PySem.W.isFn K (.ref (He.ma K (He.ga K "Word") "__le__")) = true
  k_Word_DleD : PySem.W.keepIn K (.ref (He.ma K (He.ga K "Word") "__le__")) = true
  a_Word_DgtD : PySem.W.findIn K (.ref (He.ga K "Word")) "__gt__" = some (some (.ref (He.ma K (He.ga K "Word") "__gt__")))
  i_Word_DgtD : PySem.W.isFn K (.ref (He.ma K (He.ga K "Word") "__gt__")) = true
  k_Word_DgtD : PySem.W.keepIn K (.ref (He.ma K (He.ga K "Word") "__gt__")) = true
  a_Word_DgeD : PySem.W.findIn K (.ref (He.ga K "Word")) "__ge__" = some (some (.ref (He.ma K (He.ga K "Word") "__ge__")))
  i_Word_DgeD : PySem.W.isFn K (.ref (He.ma K (He.ga K "Word") "__ge__")) = true
  k_Word_DgeD : PySem.W.keepIn K (.ref (He.ma K (He.ga K "Word") "__ge__")) = true
  a_Word_DstrD : PySem.W.findIn K (.ref (He.ga K "Word")) "__str__" = some (some (.ref (He.ma K (He.ga K "Word") "__str__")))
  i_Word_DstrD : PySem.W.isFn K (.ref (He.ma K (He.ga K "Word") "__str__")) = true
  k_Word_DstrD : PySem.W.keepIn K (.ref (He.ma K (He.ga K "Word") "__str__")) = true
  a_Word_DreprD : PySem.W.findIn K (.ref (He.ga K "Word")) "__repr__" = some (some (.ref (He.ma K (He.ga K "Word") "__repr__")))
  i_Word_DreprD : PySem.W.isFn K (.ref (He.ma K (He.ga K "Word") "__repr__")) = true
  k_Word_DreprD : PySem.W.keepIn K (.ref (He.ma K (He.ga K "Word") "__repr__")) = true
  kk_Word : PySem.W.kitOne K (.ref (He.ga K "Word")) (.ref (He.ga K "Word")) = some true
  ki_Word : PySem.W.kitOne K (.type "int") (.ref (He.ga K "Word")) = some false
  kn_Word : PySem.W.kitOne K (.ref (He.ga K "Word")) (.type "int") = some false
  kb_Word : PySem.W.kitOne K (.ref (He.ga K "Word")) (.type "bool") = some false
  cc_Word : PySem.W.findIn K (.ref (He.ga K "Word")) "__class__" = some (some (.builtin "object.__class__"))
  oc_get : PySem.W.specialIn K (.builtin "object.__class__") "__get__" = some (some (.builtin "getset_descriptor.__get__"))
  oc_tk : PySem.W.takesIn K (.builtin "object.__class__") = some true
  mo_Word : PySem.W.mroIn K (He.ga K "Word") (.type "object") = some true
  rd_Word : PySem.W.readsIn K (He.ga K "Word") (.type "type") = true
  ga_Word : PySem.W.specialIn K (.ref (He.ga K "Word")) "__getattribute__" = some (some (.builtin "type.__getattribute__"))
  si_Word : PySem.W.subIn K (.type "int") (.ref (He.ga K "Word")) = some false
  ws_Word : PySem.W.subIn K (.ref (He.ga K "Word")) (.type "int") = some false
  mw_Word : ∃ u, ClX.CVal K (He.ga K "Word") (.type "type") "MOST_WIDTH" (.int 64) u
  c_MOST_TIMES : ∃ t, mg "MOST_TIMES" = some (.int 1000000000000000000000000000000 t)
  io_add : (PySem.W.findIn K (.type "int") (PySem.dunder "add")).isSome = true
  ir_add : (PySem.W.findIn K (.type "int") (dunderR "add")).isSome = true
  wr_add : PySem.W.findIn K (.ref (He.ga K "Word")) (dunderR "add") = some (some (.ref (He.ma K (He.ga K "Word") "__radd__")))
  wo_add : PySem.W.findIn K (.ref (He.ga K "Word")) (PySem.dunder "add") = some (some (.ref (He.ma K (He.ga K "Word") "__add__")))
  io_sub : (PySem.W.findIn K (.type "int") (PySem.dunder "sub")).isSome = true
  ir_sub : (PySem.W.findIn K (.type "int") (dunderR "sub")).isSome = true
  wr_sub : PySem.W.findIn K (.ref (He.ga K "Word")) (dunderR "sub") = some (some (.ref (He.ma K (He.ga K "Word") "__rsub__")))
  wo_sub : PySem.W.findIn K (.ref (He.ga K "Word")) (PySem.dunder "sub") = some (some (.ref (He.ma K (He.ga K "Word") "__sub__")))
  io_xor : (PySem.W.findIn K (.type "int") (PySem.dunder "xor")).isSome = true
  ir_xor : (PySem.W.findIn K (.type "int") (dunderR "xor")).isSome = true
  wr_xor : PySem.W.findIn K (.ref (He.ga K "Word")) (dunderR "xor") = some (some (.ref (He.ma K (He.ga K "Word") "__rxor__")))
  wo_xor : PySem.W.findIn K (.ref (He.ga K "Word")) (PySem.dunder "xor") = some (some (.ref (He.ma K (He.ga K "Word") "__xor__")))
  io_mul : (PySem.W.findIn K (.type "int") (PySem.dunder "mul")).isSome = true
  ir_mul : (PySem.W.findIn K (.type "int") (dunderR "mul")).isSome = true
  wr_mul : PySem.W.findIn K (.ref (He.ga K "Word")) (dunderR "mul") = some (some (.ref (He.ma K (He.ga K "Word") "__rmul__")))
  wo_mul : PySem.W.findIn K (.ref (He.ga K "Word")) (PySem.dunder "mul") = some (some (.ref (He.ma K (He.ga K "Word") "__mul__")))
  io_lshift : (PySem.W.findIn K (.type "int") (PySem.dunder "lshift")).isSome = true
  ir_lshift : (PySem.W.findIn K (.type "int") (dunderR "lshift")).isSome = true
  wr_lshift : PySem.W.findIn K (.ref (He.ga K "Word")) (dunderR "lshift") = some none
  wo_lshift : PySem.W.findIn K (.ref (He.ga K "Word")) (PySem.dunder "lshift") = some (some (.ref (He.ma K (He.ga K "Word") "__lshift__")))
  io_rshift : (PySem.W.findIn K (.type "int") (PySem.dunder "rshift")).isSome = true
  ir_rshift : (PySem.W.findIn K (.type "int") (dunderR "rshift")).isSome = true
  wr_rshift : PySem.W.findIn K (.ref (He.ga K "Word")) (dunderR "rshift") = some none
  wo_rshift : PySem.W.findIn K (.ref (He.ga K "Word")) (PySem.dunder "rshift") = some (some (.ref (He.ma K (He.ga K "Word") "__rshift__")))
  mr_Word : (PySem.W.clsIn K (He.ga K "Word")).map (·.mro) = some [.ref (He.ga K "Word"), .type "object"]
  in_add : PySem.W.findIn K (.ref (He.ga K "Word")) (dunderI "add") = some none
  ib_add : PySem.W.findIn K (.type "object") (dunderI "add") = some none
  in_sub : PySem.W.findIn K (.ref (He.ga K "Word")) (dunderI "sub") = some none
  ib_sub : PySem.W.findIn K (.type "object") (dunderI "sub") = some none
  in_xor : PySem.W.findIn K (.ref (He.ga K "Word")) (dunderI "xor") = some none
  ib_xor : PySem.W.findIn K (.type "object") (dunderI "xor") = some none
  sm_empty : PySem.W.findCls K (.ref (He.ga K "Word")) (.type "type") "empty" = some (.get (.builtin "staticmethod.__get__") (.ref (He.ma K (He.ga K "Word") "empty")) .none (.ref (He.ga K "Word")))
  sr_empty : (PySem.W.recIn K (He.ma K (He.ga K "Word") "empty") "staticmethod").bind List.head? = some (.ref (recAd K (He.ma K (He.ga K "Word") "empty") "staticmethod"))
  sm_full : PySem.W.findCls K (.ref (He.ga K "Word")) (.type "type") "full" = some (.get (.builtin "staticmethod.__get__") (.ref (He.ma K (He.ga K "Word") "full")) .none (.ref (He.ga K "Word")))
  sr_full : (PySem.W.recIn K (He.ma K (He.ga K "Word") "full") "staticmethod").bind List.head? = some (.ref (recAd K (He.ma K (He.ga K "Word") "full") "staticmethod"))
  cb__law_bent_right : codeB K (He.ga K "_law_bent_right") = true
  ch__law_bent_right : PySem.W.codeHdIn K (codeAd K (He.ga K "_law_bent_right")) (tabAd K (He.ga K "_law_bent_right")) = true
  nt__law_bent_right : (K.lookup (tabAd K (He.ga K "_law_bent_right"))).isNone = true
def fns : List Fn := [⟨fun K => (He.ma K (He.ga K "BadWidth") "__init__"), "__init__", "BadWidth.__init__", s_BadWidth_DinitD, [], [], true⟩,
  ⟨fun K => (He.ma K (He.ga K "BadWord") "__init__"), "__init__", "BadWord.__init__", s_BadWord_DinitD, [], [], true⟩,
  ⟨fun K => (He.ma K (He.ga K "UnlikeWidths") "__init__"), "__init__", "UnlikeWidths.__init__", s_UnlikeWidths_DinitD, [], [], true⟩,
  ⟨fun K => (He.ga K "is_integer"), "is_integer", "is_integer", s_is_integer, [], [], false⟩,
  ⟨fun K => (He.ga K "is_between"), "is_between", "is_between", s_is_between, [], [], false⟩,
  ⟨fun K => (He.ga K "top_of"), "top_of", "top_of", s_top_of, [], [], false⟩,
  ⟨fun K => (He.ga K "sum_word"), "sum_word", "sum_word", s_sum_word, [], [], false⟩,
  ⟨fun K => (He.ga K "multiple_word"), "multiple_word", "multiple_word", s_multiple_word, [], [], false⟩,
  ⟨fun K => (He.ga K "need_times"), "need_times", "need_times", s_need_times, [], [], false⟩,
  ⟨fun K => (He.ga K "operand_value"), "operand_value", "operand_value", s_operand_value, [], [], false⟩,
  ⟨fun K => (He.ga K "need_comparable"), "need_comparable", "need_comparable", s_need_comparable, [], [], false⟩,
  ⟨fun K => (He.ga K "rest_of"), "rest_of", "rest_of", s_rest_of, [], [], false⟩,
  ⟨fun K => (He.ma K (He.ga K "Word") "__init__"), "__init__", "Word.__init__", s_Word_DinitD, [], [], false⟩,
  ⟨fun K => (recAd K (He.ma K (He.ga K "Word") "empty") "staticmethod"), "empty", "Word.empty", s_Word_empty, [], [], false⟩,
  ⟨fun K => (recAd K (He.ma K (He.ga K "Word") "full") "staticmethod"), "full", "Word.full", s_Word_full, [], [], false⟩,
  ⟨fun K => (recAd K (He.ma K (He.ga K "Word") "read") "classmethod"), "read", "Word.read", s_Word_read, [], [], false⟩,
  ⟨fun K => (recAd K (He.ma K (He.ga K "Word") "rest") "property"), "rest", "Word.rest", s_Word_rest, [], [], false⟩,
  ⟨fun K => (He.ma K (He.ga K "Word") "__add__"), "__add__", "Word.__add__", s_Word_DaddD, [], [], false⟩,
  ⟨fun K => (He.ma K (He.ga K "Word") "__radd__"), "__radd__", "Word.__radd__", s_Word_DraddD, [], [], false⟩,
  ⟨fun K => (He.ma K (He.ga K "Word") "__sub__"), "__sub__", "Word.__sub__", s_Word_DsubD, [], [], false⟩,
  ⟨fun K => (He.ma K (He.ga K "Word") "__rsub__"), "__rsub__", "Word.__rsub__", s_Word_DrsubD, [], [], false⟩,
  ⟨fun K => (He.ma K (He.ga K "Word") "__xor__"), "__xor__", "Word.__xor__", s_Word_DxorD, [], [], false⟩,
  ⟨fun K => (He.ma K (He.ga K "Word") "__rxor__"), "__rxor__", "Word.__rxor__", s_Word_DrxorD, [], [], false⟩,
  ⟨fun K => (He.ma K (He.ga K "Word") "__invert__"), "__invert__", "Word.__invert__", s_Word_DinvertD, [], [], false⟩,
  ⟨fun K => (He.ma K (He.ga K "Word") "__mul__"), "__mul__", "Word.__mul__", s_Word_DmulD, [], [], false⟩,
  ⟨fun K => (He.ma K (He.ga K "Word") "__rmul__"), "__rmul__", "Word.__rmul__", s_Word_DrmulD, [], [], false⟩,
  ⟨fun K => (He.ma K (He.ga K "Word") "__lshift__"), "__lshift__", "Word.__lshift__", s_Word_DlshiftD, [], [], false⟩,
  ⟨fun K => (He.ma K (He.ga K "Word") "__rshift__"), "__rshift__", "Word.__rshift__", s_Word_DrshiftD, [], [], false⟩,
  ⟨fun K => (He.ma K (He.ga K "Word") "__abs__"), "__abs__", "Word.__abs__", s_Word_DabsD, [], [], false⟩,
  ⟨fun K => (He.ma K (He.ga K "Word") "__bool__"), "__bool__", "Word.__bool__", s_Word_DboolD, [], [], false⟩,
  ⟨fun K => (He.ma K (He.ga K "Word") "__eq__"), "__eq__", "Word.__eq__", s_Word_DeqD, [], [], false⟩,
  ⟨fun K => (He.ma K (He.ga K "Word") "__lt__"), "__lt__", "Word.__lt__", s_Word_DltD, [], [], false⟩,
  ⟨fun K => (He.ma K (He.ga K "Word") "__le__"), "__le__", "Word.__le__", s_Word_DleD, [], [], false⟩,
  ⟨fun K => (He.ma K (He.ga K "Word") "__gt__"), "__gt__", "Word.__gt__", s_Word_DgtD, [], [], false⟩,
  ⟨fun K => (He.ma K (He.ga K "Word") "__ge__"), "__ge__", "Word.__ge__", s_Word_DgeD, [], [], false⟩,
  ⟨fun K => (He.ma K (He.ga K "Word") "__str__"), "__str__", "Word.__str__", s_Word_DstrD, [], [], false⟩,
  ⟨fun K => (He.ma K (He.ga K "Word") "__repr__"), "__repr__", "Word.__repr__", s_Word_DreprD, [], [], false⟩,
  ⟨fun K => (He.ga K "need_even"), "need_even", "need_even", s_need_even, [], [], false⟩,
  ⟨fun K => (He.ga K "packed"), "packed", "packed", s_packed, [], [], false⟩,
  ⟨fun K => (He.ga K "half_total"), "half_total", "half_total", s_half_total, [], [], false⟩,
  ⟨fun K => (He.ga K "_law_pen"), "_law_pen", "_law_pen", s__law_pen, [], [], false⟩,
  ⟨fun K => (He.ga K "_law_draw"), "_law_draw", "_law_draw", s__law_draw, [], [], false⟩,
  ⟨fun K => (He.ga K "_law_heard"), "_law_heard", "_law_heard", s__law_heard, [], [], false⟩,
  ⟨fun K => (He.ga K "_law_halves"), "_law_halves", "_law_halves", s__law_halves, [], [], false⟩,
  ⟨fun K => (He.ga K "_law_values"), "_law_values", "_law_values", s__law_values, [], [], false⟩,
  ⟨fun K => (He.ga K "_law_total"), "_law_total", "_law_total", s__law_total, [], [], false⟩,
  ⟨fun K => (He.ga K "_law_bent_right"), "_law_bent_right", "_law_bent_right", s__law_bent_right, [], [], false⟩,
  ⟨fun K => (He.ga K "law"), "law", "law", s_law, [], [], false⟩]
def exs (K : PySem.W.Frag) : List Bool := [decide (PySem.W.nsIn K mainGlobals "is_integer" = some (some (.ref (He.ga K "is_integer")))),
  decide (PySem.W.nsIn K mainGlobals "is_between" = some (some (.ref (He.ga K "is_between")))),
  decide (PySem.W.nsIn K mainGlobals "top_of" = some (some (.ref (He.ga K "top_of")))),
  decide (PySem.W.nsIn K mainGlobals "sum_word" = some (some (.ref (He.ga K "sum_word")))),
  decide (PySem.W.nsIn K mainGlobals "multiple_word" = some (some (.ref (He.ga K "multiple_word")))),
  decide (PySem.W.nsIn K mainGlobals "need_times" = some (some (.ref (He.ga K "need_times")))),
  decide (PySem.W.nsIn K mainGlobals "operand_value" = some (some (.ref (He.ga K "operand_value")))),
  decide (PySem.W.nsIn K mainGlobals "need_comparable" = some (some (.ref (He.ga K "need_comparable")))),
  decide (PySem.W.nsIn K mainGlobals "rest_of" = some (some (.ref (He.ga K "rest_of")))),
  decide (PySem.W.nsIn K mainGlobals "need_even" = some (some (.ref (He.ga K "need_even")))),
  decide (PySem.W.nsIn K mainGlobals "packed" = some (some (.ref (He.ga K "packed")))),
  decide (PySem.W.nsIn K mainGlobals "half_total" = some (some (.ref (He.ga K "half_total")))),
  decide (PySem.W.nsIn K mainGlobals "_law_pen" = some (some (.ref (He.ga K "_law_pen")))),
  decide (PySem.W.nsIn K mainGlobals "_law_draw" = some (some (.ref (He.ga K "_law_draw")))),
  decide (PySem.W.nsIn K mainGlobals "_law_heard" = some (some (.ref (He.ga K "_law_heard")))),
  decide (PySem.W.nsIn K mainGlobals "_law_halves" = some (some (.ref (He.ga K "_law_halves")))),
  decide (PySem.W.nsIn K mainGlobals "_law_values" = some (some (.ref (He.ga K "_law_values")))),
  decide (PySem.W.nsIn K mainGlobals "_law_total" = some (some (.ref (He.ga K "_law_total")))),
  decide (PySem.W.nsIn K mainGlobals "_law_bent_right" = some (some (.ref (He.ga K "_law_bent_right")))),
  decide (PySem.W.nsIn K mainGlobals "law" = some (some (.ref (He.ga K "law")))),
  decide (PySem.W.nsIn K mainGlobals "len" = some none),
  decide (PySem.W.nsIn K mainGlobals "int" = some none),
  decide (PySem.W.nsIn K mainGlobals "abs" = some none),
  decide (PySem.W.nsIn K mainGlobals "list" = some none),
  decide (PySem.W.nsIn K mainGlobals "range" = some none),
  decide (PySem.W.nsIn K mainGlobals "isinstance" = some none),
  decide (PySem.W.nsIn K mainGlobals "bool" = some none),
  decide (PySem.W.nsIn K mainGlobals "str" = some none),
  decide (PySem.W.nsIn K mainGlobals "repr" = some none),
  decide (PySem.W.nsIn K mainGlobals "sum" = some none),
  decide (PySem.W.nsIn K mainGlobals "BadWidth" = some (some (.ref (He.ga K "BadWidth")))),
  decide (PySem.W.nsIn K mainGlobals "BadWord" = some (some (.ref (He.ga K "BadWord")))),
  decide (PySem.W.nsIn K mainGlobals "UnlikeWidths" = some (some (.ref (He.ga K "UnlikeWidths")))),
  decide (PySem.W.nsIn K mainGlobals "super" = some none),
  decide (PySem.W.nsIn K cStatics "thirdparty.any" = some none),
  decide (PySem.W.specialIn K (.builtin "object.__class__") "__get__" = some (some (.builtin "getset_descriptor.__get__"))),
  decide (PySem.W.takesIn K (.builtin "object.__class__") = some true),
  decide (oexB K (He.ga K "BadWidth") = true),
  decide (PySem.W.findIn K (.ref (He.ga K "BadWidth")) "__setattr__" = some (some (.builtin "object.__setattr__"))),
  decide (PySem.W.subIn K (.ref (He.ga K "BadWidth")) (.type "BaseException") = some true),
  decide (PySem.W.typeIn K (.ref (He.ga K "BadWidth")) = some (.type "type")),
  decide (PySem.W.keepIn K (.ref (He.ga K "BadWidth")) = true),
  decide (PySem.W.findIn K (.ref (He.ga K "BadWidth")) "__init__" = some (some (.ref (He.ma K (He.ga K "BadWidth") "__init__")))),
  decide (PySem.W.typeIn K (.ref (He.ma K (He.ga K "BadWidth") "__init__")) = some (.type "function")),
  decide (initB PySem.Challenge.pw_twozeros_k11_halves K (He.ga K "BadWidth") (He.ma K (He.ga K "BadWidth") "__init__") "BadWidth.__init__" = true),
  decide (PySem.W.ks_superIn K (He.ga K "BadWidth") (He.ga K "BadWidth") "__init__" = some (some (.builtin "ValueError.__init__"))),
  decide (PySem.W.subIn K (.ref (He.ga K "BadWidth")) (.type "ValueError") = some true),
  decide (PySem.W.mroIn K (He.ga K "BadWidth") (.ref (He.ga K "BadWidth")) = some true),
  decide (xfB K (He.ga K "BadWidth") = true),
  decide ((PySem.W.clsIn K (He.ga K "BadWidth")).isSome = true),
  decide (PySem.W.findIn K (.ref (He.ga K "BadWidth")) "__class__" = some (some (.builtin "object.__class__"))),
  decide (PySem.W.mroIn K (He.ga K "BadWidth") (.type "object") = some true),
  decide (PySem.W.findIn K (.ref (He.ga K "BadWidth")) "width" = some none),
  decide (oexB K (He.ga K "BadWord") = true),
  decide (PySem.W.findIn K (.ref (He.ga K "BadWord")) "__setattr__" = some (some (.builtin "object.__setattr__"))),
  decide (PySem.W.subIn K (.ref (He.ga K "BadWord")) (.type "BaseException") = some true),
  decide (PySem.W.typeIn K (.ref (He.ga K "BadWord")) = some (.type "type")),
  decide (PySem.W.keepIn K (.ref (He.ga K "BadWord")) = true),
  decide (PySem.W.findIn K (.ref (He.ga K "BadWord")) "__init__" = some (some (.ref (He.ma K (He.ga K "BadWord") "__init__")))),
  decide (PySem.W.typeIn K (.ref (He.ma K (He.ga K "BadWord") "__init__")) = some (.type "function")),
  decide (initB PySem.Challenge.pw_twozeros_k11_halves K (He.ga K "BadWord") (He.ma K (He.ga K "BadWord") "__init__") "BadWord.__init__" = true),
  decide (PySem.W.ks_superIn K (He.ga K "BadWord") (He.ga K "BadWord") "__init__" = some (some (.builtin "ValueError.__init__"))),
  decide (PySem.W.subIn K (.ref (He.ga K "BadWord")) (.type "ValueError") = some true),
  decide (PySem.W.mroIn K (He.ga K "BadWord") (.ref (He.ga K "BadWord")) = some true),
  decide (xfB K (He.ga K "BadWord") = true),
  decide ((PySem.W.clsIn K (He.ga K "BadWord")).isSome = true),
  decide (PySem.W.findIn K (.ref (He.ga K "BadWord")) "__class__" = some (some (.builtin "object.__class__"))),
  decide (PySem.W.mroIn K (He.ga K "BadWord") (.type "object") = some true),
  decide (PySem.W.findIn K (.ref (He.ga K "BadWord")) "value" = some none),
  decide (oexB K (He.ga K "UnlikeWidths") = true),
  decide (PySem.W.findIn K (.ref (He.ga K "UnlikeWidths")) "__setattr__" = some (some (.builtin "object.__setattr__"))),
  decide (PySem.W.subIn K (.ref (He.ga K "UnlikeWidths")) (.type "BaseException") = some true),
  decide (PySem.W.typeIn K (.ref (He.ga K "UnlikeWidths")) = some (.type "type")),
  decide (PySem.W.keepIn K (.ref (He.ga K "UnlikeWidths")) = true),
  decide (PySem.W.findIn K (.ref (He.ga K "UnlikeWidths")) "__init__" = some (some (.ref (He.ma K (He.ga K "UnlikeWidths") "__init__")))),
  decide (PySem.W.typeIn K (.ref (He.ma K (He.ga K "UnlikeWidths") "__init__")) = some (.type "function")),
  decide (initB PySem.Challenge.pw_twozeros_k11_halves K (He.ga K "UnlikeWidths") (He.ma K (He.ga K "UnlikeWidths") "__init__") "UnlikeWidths.__init__" = true),
  decide (PySem.W.ks_superIn K (He.ga K "UnlikeWidths") (He.ga K "UnlikeWidths") "__init__" = some (some (.builtin "ValueError.__init__"))),
  decide (PySem.W.subIn K (.ref (He.ga K "UnlikeWidths")) (.type "ValueError") = some true),
  decide (PySem.W.mroIn K (He.ga K "UnlikeWidths") (.ref (He.ga K "UnlikeWidths")) = some true),
  decide (xfB K (He.ga K "UnlikeWidths") = true),
  decide ((PySem.W.clsIn K (He.ga K "UnlikeWidths")).isSome = true),
  decide (PySem.W.findIn K (.ref (He.ga K "UnlikeWidths")) "__class__" = some (some (.builtin "object.__class__"))),
  decide (PySem.W.mroIn K (He.ga K "UnlikeWidths") (.type "object") = some true),
  decide (PySem.W.findIn K (.ref (He.ga K "UnlikeWidths")) "one" = some none),
  decide (PySem.W.findIn K (.ref (He.ga K "UnlikeWidths")) "other" = some none),
  decide (PySem.W.exmOne K (.ref (He.ga K "BadWidth")) (.ref (He.ga K "BadWidth")) = some true),
  decide (PySem.W.kitOne K (.ref (He.ga K "BadWidth")) (.ref (He.ga K "BadWidth")) = some true),
  decide (PySem.W.exmOne K (.ref (He.ga K "BadWord")) (.ref (He.ga K "BadWidth")) = some false),
  decide (PySem.W.kitOne K (.ref (He.ga K "BadWord")) (.ref (He.ga K "BadWidth")) = some false),
  decide (PySem.W.exmOne K (.ref (He.ga K "BadWord")) (.ref (He.ga K "BadWord")) = some true),
  decide (PySem.W.kitOne K (.ref (He.ga K "BadWord")) (.ref (He.ga K "BadWord")) = some true),
  decide (PySem.W.exmOne K (.ref (He.ga K "UnlikeWidths")) (.ref (He.ga K "BadWidth")) = some false),
  decide (PySem.W.kitOne K (.ref (He.ga K "UnlikeWidths")) (.ref (He.ga K "BadWidth")) = some false),
  decide (PySem.W.exmOne K (.ref (He.ga K "UnlikeWidths")) (.ref (He.ga K "BadWord")) = some false),
  decide (PySem.W.kitOne K (.ref (He.ga K "UnlikeWidths")) (.ref (He.ga K "BadWord")) = some false),
  decide (PySem.W.exmOne K (.ref (He.ga K "UnlikeWidths")) (.ref (He.ga K "UnlikeWidths")) = some true),
  decide (PySem.W.kitOne K (.ref (He.ga K "UnlikeWidths")) (.ref (He.ga K "UnlikeWidths")) = some true),
  decide (PySem.W.nsIn K mainGlobals "Word" = some (some (.ref (He.ga K "Word")))),
  decide (PySem.W.plainGet K (He.ga K "Word") Str.empty = true),
  decide (PySem.W.hasDictIn K (He.ga K "Word") = true),
  decide (PySem.W.plainOver K (He.ga K "Word") = true),
  decide (PySem.W.findIn K (.ref (He.ga K "Word")) "__setattr__" = some (some (.builtin "object.__setattr__"))),
  decide (PySem.W.isClsIn K (He.ga K "Word") = true),
  decide (PySem.W.keepIn K (.ref (He.ga K "Word")) = true),
  decide (PySem.W.makesIn K (He.ga K "Word") = true),
  decide (PySem.W.selfFirst K (He.ga K "Word") = true),
  decide (PySem.W.findIn K (.ref (He.ga K "Word")) "width" = some none),
  decide (PySem.W.findIn K (.ref (He.ga K "Word")) "value" = some none),
  decide (PySem.W.findIn K (.ref (He.ga K "Word")) "__init__" = some (some (.ref (He.ma K (He.ga K "Word") "__init__")))),
  decide (PySem.W.isFn K (.ref (He.ma K (He.ga K "Word") "__init__")) = true),
  decide (PySem.W.keepIn K (.ref (He.ma K (He.ga K "Word") "__init__")) = true),
  decide (PySem.W.findIn K (.ref (He.ga K "Word")) "empty" = some (some (.ref (He.ma K (He.ga K "Word") "empty")))),
  decide (PySem.W.findIn K (.ref (He.ga K "Word")) "full" = some (some (.ref (He.ma K (He.ga K "Word") "full")))),
  decide (PySem.W.findIn K (.ref (He.ga K "Word")) "read" = some (some (.ref (He.ma K (He.ga K "Word") "read")))),
  decide (PySem.W.findIn K (.ref (He.ga K "Word")) "rest" = some (some (.ref (He.ma K (He.ga K "Word") "rest")))),
  decide (PySem.W.specialIn K (.ref (He.ma K (He.ga K "Word") "rest")) "__get__" = some (some (.builtin "property.__get__"))),
  decide (PySem.W.takesIn K (.ref (He.ma K (He.ga K "Word") "rest")) = some true),
  decide ((PySem.W.recIn K (He.ma K (He.ga K "Word") "rest") "property").bind List.head? = some (.ref (recAd K (He.ma K (He.ga K "Word") "rest") "property"))),
  decide (PySem.W.findIn K (.ref (He.ga K "Word")) "__add__" = some (some (.ref (He.ma K (He.ga K "Word") "__add__")))),
  decide (PySem.W.isFn K (.ref (He.ma K (He.ga K "Word") "__add__")) = true),
  decide (PySem.W.keepIn K (.ref (He.ma K (He.ga K "Word") "__add__")) = true),
  decide (PySem.W.findIn K (.ref (He.ga K "Word")) "__radd__" = some (some (.ref (He.ma K (He.ga K "Word") "__radd__")))),
  decide (PySem.W.isFn K (.ref (He.ma K (He.ga K "Word") "__radd__")) = true),
  decide (PySem.W.keepIn K (.ref (He.ma K (He.ga K "Word") "__radd__")) = true),
  decide (PySem.W.findIn K (.ref (He.ga K "Word")) "__sub__" = some (some (.ref (He.ma K (He.ga K "Word") "__sub__")))),
  decide (PySem.W.isFn K (.ref (He.ma K (He.ga K "Word") "__sub__")) = true),
  decide (PySem.W.keepIn K (.ref (He.ma K (He.ga K "Word") "__sub__")) = true),
  decide (PySem.W.findIn K (.ref (He.ga K "Word")) "__rsub__" = some (some (.ref (He.ma K (He.ga K "Word") "__rsub__")))),
  decide (PySem.W.isFn K (.ref (He.ma K (He.ga K "Word") "__rsub__")) = true),
  decide (PySem.W.keepIn K (.ref (He.ma K (He.ga K "Word") "__rsub__")) = true),
  decide (PySem.W.findIn K (.ref (He.ga K "Word")) "__xor__" = some (some (.ref (He.ma K (He.ga K "Word") "__xor__")))),
  decide (PySem.W.isFn K (.ref (He.ma K (He.ga K "Word") "__xor__")) = true),
  decide (PySem.W.keepIn K (.ref (He.ma K (He.ga K "Word") "__xor__")) = true),
  decide (PySem.W.findIn K (.ref (He.ga K "Word")) "__rxor__" = some (some (.ref (He.ma K (He.ga K "Word") "__rxor__")))),
  decide (PySem.W.isFn K (.ref (He.ma K (He.ga K "Word") "__rxor__")) = true),
  decide (PySem.W.keepIn K (.ref (He.ma K (He.ga K "Word") "__rxor__")) = true),
  decide (PySem.W.findIn K (.ref (He.ga K "Word")) "__invert__" = some (some (.ref (He.ma K (He.ga K "Word") "__invert__")))),
  decide (PySem.W.isFn K (.ref (He.ma K (He.ga K "Word") "__invert__")) = true),
  decide (PySem.W.keepIn K (.ref (He.ma K (He.ga K "Word") "__invert__")) = true),
  decide (PySem.W.findIn K (.ref (He.ga K "Word")) "__mul__" = some (some (.ref (He.ma K (He.ga K "Word") "__mul__")))),
  decide (PySem.W.isFn K (.ref (He.ma K (He.ga K "Word") "__mul__")) = true),
  decide (PySem.W.keepIn K (.ref (He.ma K (He.ga K "Word") "__mul__")) = true),
  decide (PySem.W.findIn K (.ref (He.ga K "Word")) "__rmul__" = some (some (.ref (He.ma K (He.ga K "Word") "__rmul__")))),
  decide (PySem.W.isFn K (.ref (He.ma K (He.ga K "Word") "__rmul__")) = true),
  decide (PySem.W.keepIn K (.ref (He.ma K (He.ga K "Word") "__rmul__")) = true),
  decide (PySem.W.findIn K (.ref (He.ga K "Word")) "__lshift__" = some (some (.ref (He.ma K (He.ga K "Word") "__lshift__")))),
  decide (PySem.W.isFn K (.ref (He.ma K (He.ga K "Word") "__lshift__")) = true),
  decide (PySem.W.keepIn K (.ref (He.ma K (He.ga K "Word") "__lshift__")) = true),
  decide (PySem.W.findIn K (.ref (He.ga K "Word")) "__rshift__" = some (some (.ref (He.ma K (He.ga K "Word") "__rshift__")))),
  decide (PySem.W.isFn K (.ref (He.ma K (He.ga K "Word") "__rshift__")) = true),
  decide (PySem.W.keepIn K (.ref (He.ma K (He.ga K "Word") "__rshift__")) = true),
  decide (PySem.W.findIn K (.ref (He.ga K "Word")) "__abs__" = some (some (.ref (He.ma K (He.ga K "Word") "__abs__")))),
  decide (PySem.W.isFn K (.ref (He.ma K (He.ga K "Word") "__abs__")) = true),
  decide (PySem.W.keepIn K (.ref (He.ma K (He.ga K "Word") "__abs__")) = true),
  decide (PySem.W.findIn K (.ref (He.ga K "Word")) "__bool__" = some (some (.ref (He.ma K (He.ga K "Word") "__bool__")))),
  decide (PySem.W.isFn K (.ref (He.ma K (He.ga K "Word") "__bool__")) = true),
  decide (PySem.W.keepIn K (.ref (He.ma K (He.ga K "Word") "__bool__")) = true),
  decide (PySem.W.findIn K (.ref (He.ga K "Word")) "__eq__" = some (some (.ref (He.ma K (He.ga K "Word") "__eq__")))),
  decide (PySem.W.isFn K (.ref (He.ma K (He.ga K "Word") "__eq__")) = true),
  decide (PySem.W.keepIn K (.ref (He.ma K (He.ga K "Word") "__eq__")) = true),
  decide (PySem.W.findIn K (.ref (He.ga K "Word")) "__lt__" = some (some (.ref (He.ma K (He.ga K "Word") "__lt__")))),
  decide (PySem.W.isFn K (.ref (He.ma K (He.ga K "Word") "__lt__")) = true),
  decide (PySem.W.keepIn K (.ref (He.ma K (He.ga K "Word") "__lt__")) = true),
  decide (PySem.W.findIn K (.ref (He.ga K "Word")) "__le__" = some (some (.ref (He.ma K (He.ga K "Word") "__le__")))),
  decide (PySem.W.isFn K (.ref (He.ma K (He.ga K "Word") "__le__")) = true),
  decide (PySem.W.keepIn K (.ref (He.ma K (He.ga K "Word") "__le__")) = true),
  decide (PySem.W.findIn K (.ref (He.ga K "Word")) "__gt__" = some (some (.ref (He.ma K (He.ga K "Word") "__gt__")))),
  decide (PySem.W.isFn K (.ref (He.ma K (He.ga K "Word") "__gt__")) = true),
  decide (PySem.W.keepIn K (.ref (He.ma K (He.ga K "Word") "__gt__")) = true),
  decide (PySem.W.findIn K (.ref (He.ga K "Word")) "__ge__" = some (some (.ref (He.ma K (He.ga K "Word") "__ge__")))),
  decide (PySem.W.isFn K (.ref (He.ma K (He.ga K "Word") "__ge__")) = true),
  decide (PySem.W.keepIn K (.ref (He.ma K (He.ga K "Word") "__ge__")) = true),
  decide (PySem.W.findIn K (.ref (He.ga K "Word")) "__str__" = some (some (.ref (He.ma K (He.ga K "Word") "__str__")))),
  decide (PySem.W.isFn K (.ref (He.ma K (He.ga K "Word") "__str__")) = true),
  decide (PySem.W.keepIn K (.ref (He.ma K (He.ga K "Word") "__str__")) = true),
  decide (PySem.W.findIn K (.ref (He.ga K "Word")) "__repr__" = some (some (.ref (He.ma K (He.ga K "Word") "__repr__")))),
  decide (PySem.W.isFn K (.ref (He.ma K (He.ga K "Word") "__repr__")) = true),
  decide (PySem.W.keepIn K (.ref (He.ma K (He.ga K "Word") "__repr__")) = true),
  decide (PySem.W.kitOne K (.ref (He.ga K "Word")) (.ref (He.ga K "Word")) = some true),
  decide (PySem.W.kitOne K (.type "int") (.ref (He.ga K "Word")) = some false),
  decide (PySem.W.kitOne K (.ref (He.ga K "Word")) (.type "int") = some false),
  decide (PySem.W.kitOne K (.ref (He.ga K "Word")) (.type "bool") = some false),
  decide (PySem.W.findIn K (.ref (He.ga K "Word")) "__class__" = some (some (.builtin "object.__class__"))),
  decide (PySem.W.specialIn K (.builtin "object.__class__") "__get__" = some (some (.builtin "getset_descriptor.__get__"))),
  decide (PySem.W.takesIn K (.builtin "object.__class__") = some true),
  decide (PySem.W.mroIn K (He.ga K "Word") (.type "object") = some true),
  decide (PySem.W.readsIn K (He.ga K "Word") (.type "type") = true),
  decide (PySem.W.specialIn K (.ref (He.ga K "Word")) "__getattribute__" = some (some (.builtin "type.__getattribute__"))),
  decide (PySem.W.subIn K (.type "int") (.ref (He.ga K "Word")) = some false),
  decide (PySem.W.subIn K (.ref (He.ga K "Word")) (.type "int") = some false),
  mwB K (He.ga K "Word") "MOST_WIDTH" 64,
  (He.Fa.int "MOST_TIMES" 1000000000000000000000000000000).ok K,
  decide ((PySem.W.findIn K (.type "int") (PySem.dunder "add")).isSome = true),
  decide ((PySem.W.findIn K (.type "int") (dunderR "add")).isSome = true),
  decide (PySem.W.findIn K (.ref (He.ga K "Word")) (dunderR "add") = some (some (.ref (He.ma K (He.ga K "Word") "__radd__")))),
  decide (PySem.W.findIn K (.ref (He.ga K "Word")) (PySem.dunder "add") = some (some (.ref (He.ma K (He.ga K "Word") "__add__")))),
  decide ((PySem.W.findIn K (.type "int") (PySem.dunder "sub")).isSome = true),
  decide ((PySem.W.findIn K (.type "int") (dunderR "sub")).isSome = true),
  decide (PySem.W.findIn K (.ref (He.ga K "Word")) (dunderR "sub") = some (some (.ref (He.ma K (He.ga K "Word") "__rsub__")))),
  decide (PySem.W.findIn K (.ref (He.ga K "Word")) (PySem.dunder "sub") = some (some (.ref (He.ma K (He.ga K "Word") "__sub__")))),
  decide ((PySem.W.findIn K (.type "int") (PySem.dunder "xor")).isSome = true),
  decide ((PySem.W.findIn K (.type "int") (dunderR "xor")).isSome = true),
  decide (PySem.W.findIn K (.ref (He.ga K "Word")) (dunderR "xor") = some (some (.ref (He.ma K (He.ga K "Word") "__rxor__")))),
  decide (PySem.W.findIn K (.ref (He.ga K "Word")) (PySem.dunder "xor") = some (some (.ref (He.ma K (He.ga K "Word") "__xor__")))),
  decide ((PySem.W.findIn K (.type "int") (PySem.dunder "mul")).isSome = true),
  decide ((PySem.W.findIn K (.type "int") (dunderR "mul")).isSome = true),
  decide (PySem.W.findIn K (.ref (He.ga K "Word")) (dunderR "mul") = some (some (.ref (He.ma K (He.ga K "Word") "__rmul__")))),
  decide (PySem.W.findIn K (.ref (He.ga K "Word")) (PySem.dunder "mul") = some (some (.ref (He.ma K (He.ga K "Word") "__mul__")))),
  decide ((PySem.W.findIn K (.type "int") (PySem.dunder "lshift")).isSome = true),
  decide ((PySem.W.findIn K (.type "int") (dunderR "lshift")).isSome = true),
  decide (PySem.W.findIn K (.ref (He.ga K "Word")) (dunderR "lshift") = some none),
  decide (PySem.W.findIn K (.ref (He.ga K "Word")) (PySem.dunder "lshift") = some (some (.ref (He.ma K (He.ga K "Word") "__lshift__")))),
  decide ((PySem.W.findIn K (.type "int") (PySem.dunder "rshift")).isSome = true),
  decide ((PySem.W.findIn K (.type "int") (dunderR "rshift")).isSome = true),
  decide (PySem.W.findIn K (.ref (He.ga K "Word")) (dunderR "rshift") = some none),
  decide (PySem.W.findIn K (.ref (He.ga K "Word")) (PySem.dunder "rshift") = some (some (.ref (He.ma K (He.ga K "Word") "__rshift__")))),
  decide ((PySem.W.clsIn K (He.ga K "Word")).map (·.mro) = some [.ref (He.ga K "Word"), .type "object"]),
  decide (PySem.W.findIn K (.ref (He.ga K "Word")) (dunderI "add") = some none),
  decide (PySem.W.findIn K (.type "object") (dunderI "add") = some none),
  decide (PySem.W.findIn K (.ref (He.ga K "Word")) (dunderI "sub") = some none),
  decide (PySem.W.findIn K (.type "object") (dunderI "sub") = some none),
  decide (PySem.W.findIn K (.ref (He.ga K "Word")) (dunderI "xor") = some none),
  decide (PySem.W.findIn K (.type "object") (dunderI "xor") = some none),
  smB K (He.ga K "Word") (He.ma K (He.ga K "Word") "empty") "empty" "staticmethod.__get__",
  decide ((PySem.W.recIn K (He.ma K (He.ga K "Word") "empty") "staticmethod").bind List.head? = some (.ref (recAd K (He.ma K (He.ga K "Word") "empty") "staticmethod"))),
  smB K (He.ga K "Word") (He.ma K (He.ga K "Word") "full") "full" "staticmethod.__get__",
  decide ((PySem.W.recIn K (He.ma K (He.ga K "Word") "full") "staticmethod").bind List.head? = some (.ref (recAd K (He.ma K (He.ga K "Word") "full") "staticmethod"))),
  decide (codeB K (He.ga K "_law_bent_right") = true),
  decide (PySem.W.codeHdIn K (codeAd K (He.ga K "_law_bent_right")) (tabAd K (He.ga K "_law_bent_right")) = true),
  decide ((K.lookup (tabAd K (He.ga K "_law_bent_right"))).isNone = true)]
theorem txt_mk {K : PySem.W.Frag} {h : Heap} {mg : Str → Option Value} (X : K.In h) (G : h.Ns mainGlobals mg) (c : Says fns exs K) : Txt K mg :=
  ⟨(c.err_ 0), (c.err_ 1), (c.err_ 2), (c.def_ 3), (c.def_ 4), (c.def_ 5), (c.def_ 6), (c.def_ 7), (c.def_ 8), (c.def_ 9), (c.def_ 10), (c.def_ 11), (c.def_ 12), (c.def_ 13), (c.def_ 14), (c.def_ 15), (c.def_ 16), (c.def_ 17), (c.def_ 18), (c.def_ 19), (c.def_ 20), (c.def_ 21), (c.def_ 22), (c.def_ 23), (c.def_ 24), (c.def_ 25), (c.def_ 26), (c.def_ 27), (c.def_ 28), (c.def_ 29), (c.def_ 30), (c.def_ 31), (c.def_ 32), (c.def_ 33), (c.def_ 34), (c.def_ 35), (c.def_ 36), (c.def_ 37), (c.def_ 38), (c.def_ 39), (c.def_ 40), (c.def_ 41), (c.def_ 42), (c.def_ 43), (c.def_ 44), (c.def_ 45), (c.def_ 46), (c.def_ 47), (PySem.W.mg_of X G (c.dec 0)), (PySem.W.mg_of X G (c.dec 1)), (PySem.W.mg_of X G (c.dec 2)), (PySem.W.mg_of X G (c.dec 3)), (PySem.W.mg_of X G (c.dec 4)), (PySem.W.mg_of X G (c.dec 5)), (PySem.W.mg_of X G (c.dec 6)), (PySem.W.mg_of X G (c.dec 7)), (PySem.W.mg_of X G (c.dec 8)), (PySem.W.mg_of X G (c.dec 9)), (PySem.W.mg_of X G (c.dec 10)), (PySem.W.mg_of X G (c.dec 11)), (PySem.W.mg_of X G (c.dec 12)), (PySem.W.mg_of X G (c.dec 13)), (PySem.W.mg_of X G (c.dec 14)), (PySem.W.mg_of X G (c.dec 15)), (PySem.W.mg_of X G (c.dec 16)), (PySem.W.mg_of X G (c.dec 17)), (PySem.W.mg_of X G (c.dec 18)), (PySem.W.mg_of X G (c.dec 19)), (PySem.W.mg_none_of X G (c.dec 20)), (PySem.W.mg_none_of X G (c.dec 21)), (PySem.W.mg_none_of X G (c.dec 22)), (PySem.W.mg_none_of X G (c.dec 23)), (PySem.W.mg_none_of X G (c.dec 24)), (PySem.W.mg_none_of X G (c.dec 25)), (PySem.W.mg_none_of X G (c.dec 26)), (PySem.W.mg_none_of X G (c.dec 27)), (PySem.W.mg_none_of X G (c.dec 28)), (PySem.W.mg_none_of X G (c.dec 29)), (PySem.W.mg_of X G (c.dec 30)), (PySem.W.mg_of X G (c.dec 31)), (PySem.W.mg_of X G (c.dec 32)), (c.dec 33), (c.dec 34), (c.dec 35), (c.dec 36), (c.dec 37), (c.dec 38), (c.dec 39), (c.dec 40), (c.dec 41), (c.dec 42), (c.dec 43), (c.dec 44), (c.dec 45), (c.dec 46), (c.dec 47), (c.dec 48), (c.dec 49), (c.dec 50), (c.dec 51), (c.dec 52), (c.dec 53), (c.dec 54), (c.dec 55), (c.dec 56), (c.dec 57), (c.dec 58), (c.dec 59), (c.dec 60), (c.dec 61), (c.dec 62), (c.dec 63), (c.dec 64), (c.dec 65), (c.dec 66), (c.dec 67), (c.dec 68), (c.dec 69), (c.dec 70), (c.dec 71), (c.dec 72), (c.dec 73), (c.dec 74), (c.dec 75), (c.dec 76), (c.dec 77), (c.dec 78), (c.dec 79), (c.dec 80), (c.dec 81), (c.dec 82), (c.dec 83), (c.dec 84), (c.dec 85), (c.dec 86), (c.dec 87), (c.dec 88), (c.dec 89), (c.dec 90), (c.dec 91), (c.dec 92), (c.dec 93), (c.dec 94), (c.dec 95), (c.dec 96), (c.dec 97), (PySem.W.mg_of X G (c.dec 98)), (c.dec 99), (c.dec 100), (c.dec 101), (c.dec 102), (c.dec 103), (c.dec 104), (c.dec 105), (c.dec 106), (c.dec 107), (c.dec 108), (c.dec 109), (c.dec 110), (c.dec 111), (c.dec 112), (c.dec 113), (c.dec 114), (c.dec 115), (c.dec 116), (c.dec 117), (c.dec 118), (c.dec 119), (c.dec 120), (c.dec 121), (c.dec 122), (c.dec 123), (c.dec 124), (c.dec 125), (c.dec 126), (c.dec 127), (c.dec 128), (c.dec 129), (c.dec 130), (c.dec 131), (c.dec 132), (c.dec 133), (c.dec 134), (c.dec 135), (c.dec 136), (c.dec 137), (c.dec 138), (c.dec 139), (c.dec 140), (c.dec 141), (c.dec 142), (c.dec 143), (c.dec 144), (c.dec 145), (c.dec 146), (c.dec 147), (c.dec 148), (c.dec 149), (c.dec 150), (c.dec 151), (c.dec 152), (c.dec 153), (c.dec 154), (c.dec 155), (c.dec 156), (c.dec 157), (c.dec 158), (c.dec 159), (c.dec 160), (c.dec 161), (c.dec 162), (c.dec 163), (c.dec 164), (c.dec 165), (c.dec 166), (c.dec 167), (c.dec 168), (c.dec 169), (c.dec 170), (c.dec 171), (c.dec 172), (c.dec 173), (c.dec 174), (c.dec 175), (c.dec 176), (c.dec 177), (c.dec 178), (c.dec 179), (c.dec 180), (c.dec 181), (c.dec 182), (c.dec 183), (c.dec 184), (c.dec 185), (c.dec 186), (c.dec 187), (c.dec 188), (c.dec 189), (c.dec 190), (mw_ok (c.at_ 191)), (He.int_ok X G (c.at_ 192)), (c.dec 193), (c.dec 194), (c.dec 195), (c.dec 196), (c.dec 197), (c.dec 198), (c.dec 199), (c.dec 200), (c.dec 201), (c.dec 202), (c.dec 203), (c.dec 204), (c.dec 205), (c.dec 206), (c.dec 207), (c.dec 208), (c.dec 209), (c.dec 210), (c.dec 211), (c.dec 212), (c.dec 213), (c.dec 214), (c.dec 215), (c.dec 216), (c.dec 217), (c.dec 218), (c.dec 219), (c.dec 220), (c.dec 221), (c.dec 222), (c.dec 223), (sm_ok (c.at_ 224)), (c.dec 225), (sm_ok (c.at_ 226)), (c.dec 227), (c.dec 228), (c.dec 229), (c.dec 230)⟩
abbrev P : Program := PySem.Challenge.pw_twozeros_k11_halves
abbrev fl_BadWidth : List (Str × Str × Pos × Pos × Pos × Pos) := [("width", "width", ⟨16, 8, 16, 12⟩, ⟨16, 8, 16, 18⟩, ⟨16, 21, 16, 26⟩, ⟨16, 8, 16, 26⟩)]
theorem errI_BadWidth {K : PySem.W.Frag} {mg : Str → Option Value} (T : Txt K mg) : ErrI PySem.Challenge.pw_twozeros_k11_halves K (He.ga K "BadWidth") (He.ma K (He.ga K "BadWidth") "__init__") "__init__" "BadWidth.__init__" (defArgs s_BadWidth_DinitD) (.Expr (.Call (.Attribute (.Call (.Name "super" ⟨15, 8, 15, 13⟩) [] [] ⟨15, 8, 15, 15⟩) "__init__" ⟨15, 8, 15, 24⟩) [.Constant (.str "not a width") 0 ⟨15, 25, 15, 38⟩] [] ⟨15, 8, 15, 39⟩) ⟨15, 8, 15, 39⟩ :: fl_BadWidth.map (asg "self")) (defScope s_BadWidth_DinitD) :=
  ⟨init_lk (T.F_BadWidth_DinitD.trans rfl) T.eb_BadWidth, T.n_super, by decide +kernel, T.eu_BadWidth, T.ev_BadWidth, T.em_BadWidth, T.n_third, T.ei_BadWidth, T.ej_BadWidth, oexB_ok T.eo_BadWidth T.es_BadWidth T.ee_BadWidth T.et_BadWidth T.ek_BadWidth⟩
theorem errS_BadWidth : ErrS (defArgs s_BadWidth_DinitD) (defScope s_BadWidth_DinitD) "BadWidth.__init__" "self" fl_BadWidth ⟨15, 8, 15, 13⟩ ⟨15, 8, 15, 15⟩ ⟨15, 8, 15, 24⟩ ⟨15, 25, 15, 38⟩ ⟨15, 8, 15, 39⟩ ⟨15, 8, 15, 39⟩ "not a width" 0 := by
  refine ⟨⟨_, rfl, rfl⟩, by decide +kernel, by decide +kernel, by decide +kernel, by decide +kernel, rfl, by decide +kernel, rfl, rfl, by decide +kernel, by decide +kernel, fun _ _ _ _ => rfl, fun _ _ _ _ => rfl, ⟨_, fun _ _ _ _ => rfl⟩, ?_, fun _ _ _ _ _ _ _ _ u us h => match us, h with | [_], _ => rfl⟩
  intro z hz L f cd cc
  simp only [fl_BadWidth, List.mem_cons, List.not_mem_nil, or_false] at hz
  rcases hz with rfl <;> rfl
theorem errN_BadWidth {K : PySem.W.Frag} {mg : Str → Option Value} (T : Txt K mg) : ∀ z ∈ fl_BadWidth, PySem.W.findIn K (.ref (He.ga K "BadWidth")) z.1 = some none := by
  intro z hz
  simp only [fl_BadWidth, List.mem_cons, List.not_mem_nil, or_false] at hz
  rcases hz with rfl
  · exact T.en_BadWidth_width
theorem errQ_BadWidth {K : PySem.W.Frag} {mg : Str → Option Value} (T : Txt K mg) : ErrQ K (He.ga K "BadWidth") := ⟨xfB_ok T.ex_BadWidth, T.ec_BadWidth, T.ea_BadWidth, T.o_cget, T.o_ctake, T.eq_BadWidth⟩
abbrev fl_BadWord : List (Str × Str × Pos × Pos × Pos × Pos) := [("value", "value", ⟨21, 8, 21, 12⟩, ⟨21, 8, 21, 18⟩, ⟨21, 21, 21, 26⟩, ⟨21, 8, 21, 26⟩)]
theorem errI_BadWord {K : PySem.W.Frag} {mg : Str → Option Value} (T : Txt K mg) : ErrI PySem.Challenge.pw_twozeros_k11_halves K (He.ga K "BadWord") (He.ma K (He.ga K "BadWord") "__init__") "__init__" "BadWord.__init__" (defArgs s_BadWord_DinitD) (.Expr (.Call (.Attribute (.Call (.Name "super" ⟨20, 8, 20, 13⟩) [] [] ⟨20, 8, 20, 15⟩) "__init__" ⟨20, 8, 20, 24⟩) [.Constant (.str "not a word") 0 ⟨20, 25, 20, 37⟩] [] ⟨20, 8, 20, 38⟩) ⟨20, 8, 20, 38⟩ :: fl_BadWord.map (asg "self")) (defScope s_BadWord_DinitD) :=
  ⟨init_lk (T.F_BadWord_DinitD.trans rfl) T.eb_BadWord, T.n_super, by decide +kernel, T.eu_BadWord, T.ev_BadWord, T.em_BadWord, T.n_third, T.ei_BadWord, T.ej_BadWord, oexB_ok T.eo_BadWord T.es_BadWord T.ee_BadWord T.et_BadWord T.ek_BadWord⟩
theorem errS_BadWord : ErrS (defArgs s_BadWord_DinitD) (defScope s_BadWord_DinitD) "BadWord.__init__" "self" fl_BadWord ⟨20, 8, 20, 13⟩ ⟨20, 8, 20, 15⟩ ⟨20, 8, 20, 24⟩ ⟨20, 25, 20, 37⟩ ⟨20, 8, 20, 38⟩ ⟨20, 8, 20, 38⟩ "not a word" 0 := by
  refine ⟨⟨_, rfl, rfl⟩, by decide +kernel, by decide +kernel, by decide +kernel, by decide +kernel, rfl, by decide +kernel, rfl, rfl, by decide +kernel, by decide +kernel, fun _ _ _ _ => rfl, fun _ _ _ _ => rfl, ⟨_, fun _ _ _ _ => rfl⟩, ?_, fun _ _ _ _ _ _ _ _ u us h => match us, h with | [_], _ => rfl⟩
  intro z hz L f cd cc
  simp only [fl_BadWord, List.mem_cons, List.not_mem_nil, or_false] at hz
  rcases hz with rfl <;> rfl
theorem errN_BadWord {K : PySem.W.Frag} {mg : Str → Option Value} (T : Txt K mg) : ∀ z ∈ fl_BadWord, PySem.W.findIn K (.ref (He.ga K "BadWord")) z.1 = some none := by
  intro z hz
  simp only [fl_BadWord, List.mem_cons, List.not_mem_nil, or_false] at hz
  rcases hz with rfl
  · exact T.en_BadWord_value
theorem errQ_BadWord {K : PySem.W.Frag} {mg : Str → Option Value} (T : Txt K mg) : ErrQ K (He.ga K "BadWord") := ⟨xfB_ok T.ex_BadWord, T.ec_BadWord, T.ea_BadWord, T.o_cget, T.o_ctake, T.eq_BadWord⟩
abbrev fl_UnlikeWidths : List (Str × Str × Pos × Pos × Pos × Pos) := [("one", "one", ⟨26, 8, 26, 12⟩, ⟨26, 8, 26, 16⟩, ⟨26, 19, 26, 22⟩, ⟨26, 8, 26, 22⟩), ("other", "other", ⟨27, 8, 27, 12⟩, ⟨27, 8, 27, 18⟩, ⟨27, 21, 27, 26⟩, ⟨27, 8, 27, 26⟩)]
theorem errI_UnlikeWidths {K : PySem.W.Frag} {mg : Str → Option Value} (T : Txt K mg) : ErrI PySem.Challenge.pw_twozeros_k11_halves K (He.ga K "UnlikeWidths") (He.ma K (He.ga K "UnlikeWidths") "__init__") "__init__" "UnlikeWidths.__init__" (defArgs s_UnlikeWidths_DinitD) (.Expr (.Call (.Attribute (.Call (.Name "super" ⟨25, 8, 25, 13⟩) [] [] ⟨25, 8, 25, 15⟩) "__init__" ⟨25, 8, 25, 24⟩) [.Constant (.str "the widths differ") 0 ⟨25, 25, 25, 44⟩] [] ⟨25, 8, 25, 45⟩) ⟨25, 8, 25, 45⟩ :: fl_UnlikeWidths.map (asg "self")) (defScope s_UnlikeWidths_DinitD) :=
  ⟨init_lk (T.F_UnlikeWidths_DinitD.trans rfl) T.eb_UnlikeWidths, T.n_super, by decide +kernel, T.eu_UnlikeWidths, T.ev_UnlikeWidths, T.em_UnlikeWidths, T.n_third, T.ei_UnlikeWidths, T.ej_UnlikeWidths, oexB_ok T.eo_UnlikeWidths T.es_UnlikeWidths T.ee_UnlikeWidths T.et_UnlikeWidths T.ek_UnlikeWidths⟩
theorem errS_UnlikeWidths : ErrS (defArgs s_UnlikeWidths_DinitD) (defScope s_UnlikeWidths_DinitD) "UnlikeWidths.__init__" "self" fl_UnlikeWidths ⟨25, 8, 25, 13⟩ ⟨25, 8, 25, 15⟩ ⟨25, 8, 25, 24⟩ ⟨25, 25, 25, 44⟩ ⟨25, 8, 25, 45⟩ ⟨25, 8, 25, 45⟩ "the widths differ" 0 := by
  refine ⟨⟨_, rfl, rfl⟩, by decide +kernel, by decide +kernel, by decide +kernel, by decide +kernel, rfl, by decide +kernel, rfl, rfl, by decide +kernel, by decide +kernel, fun _ _ _ _ => rfl, fun _ _ _ _ => rfl, ⟨_, fun _ _ _ _ => rfl⟩, ?_, fun _ _ _ _ _ _ _ _ u us h => match us, h with | [_, _], _ => rfl⟩
  intro z hz L f cd cc
  simp only [fl_UnlikeWidths, List.mem_cons, List.not_mem_nil, or_false] at hz
  rcases hz with rfl | rfl <;> rfl
theorem errN_UnlikeWidths {K : PySem.W.Frag} {mg : Str → Option Value} (T : Txt K mg) : ∀ z ∈ fl_UnlikeWidths, PySem.W.findIn K (.ref (He.ga K "UnlikeWidths")) z.1 = some none := by
  intro z hz
  simp only [fl_UnlikeWidths, List.mem_cons, List.not_mem_nil, or_false] at hz
  rcases hz with rfl | rfl
  · exact T.en_UnlikeWidths_one
  · exact T.en_UnlikeWidths_other
theorem errQ_UnlikeWidths {K : PySem.W.Frag} {mg : Str → Option Value} (T : Txt K mg) : ErrQ K (He.ga K "UnlikeWidths") := ⟨xfB_ok T.ex_UnlikeWidths, T.ec_UnlikeWidths, T.ea_UnlikeWidths, T.o_cget, T.o_ctake, T.eq_UnlikeWidths⟩
section
variable {K : PySem.W.Frag} {mg : Str → Option Value}
theorem Txt.clWord (T : Txt K mg) : Cls K (He.ga K "Word") := ⟨T.pg_Word, T.hd_Word, T.po_Word, T.sa_Word⟩
theorem Txt.mkWord (T : Txt K mg) : Mk K (He.ga K "Word") (He.ma K (He.ga K "Word") "__init__") := ⟨T.mk_Word, T.a_Word_DinitD, T.i_Word_DinitD, T.kc_Word⟩
theorem Txt.ty (T : Txt K mg) {H : Hp} {a : Addr} {w v : Int} (h : IsW (He.ga K "Word") H a w v) : TyX K H (.ref a) (.ref (He.ga K "Word")) := .base (.ins h.2.choose_spec T.clWord T.cc_Word T.oc_get T.oc_tk T.mo_Word)
theorem Txt.ki (T : Txt K mg) {H : Hp} {a : Addr} {w v : Int} (h : IsW (He.ga K "Word") H a w v) : KI K H (.ref a) := ⟨_, false, false, T.ty h, T.kn_Word, T.kb_Word, rfl⟩
theorem Txt.ni_add (T : Txt K mg) : NoIn K (He.ga K "Word") "add" := ⟨T.mr_Word, T.in_add, T.ib_add⟩
theorem Txt.ni_sub (T : Txt K mg) : NoIn K (He.ga K "Word") "sub" := ⟨T.mr_Word, T.in_sub, T.ib_sub⟩
theorem Txt.ni_xor (T : Txt K mg) : NoIn K (He.ga K "Word") "xor" := ⟨T.mr_Word, T.in_xor, T.ib_xor⟩
theorem Txt.me_Word_DinitD (T : Txt K mg) : Meth K (He.ga K "Word") "__init__" (He.ma K (He.ga K "Word") "__init__") := ⟨T.a_Word_DinitD, T.i_Word_DinitD, T.k_Word_DinitD⟩
theorem Txt.pp_Word_rest (T : Txt K mg) : PropOf K (He.ga K "Word") "rest" (He.ma K (He.ga K "Word") "rest") (recAd K (He.ma K (He.ga K "Word") "rest") "property") := ⟨T.a_Word_rest, T.pg_Word_rest, T.pt_Word_rest, rec_of T.pr_Word_rest⟩
theorem Txt.me_Word_DaddD (T : Txt K mg) : Meth K (He.ga K "Word") "__add__" (He.ma K (He.ga K "Word") "__add__") := ⟨T.a_Word_DaddD, T.i_Word_DaddD, T.k_Word_DaddD⟩
theorem Txt.me_Word_DraddD (T : Txt K mg) : Meth K (He.ga K "Word") "__radd__" (He.ma K (He.ga K "Word") "__radd__") := ⟨T.a_Word_DraddD, T.i_Word_DraddD, T.k_Word_DraddD⟩
theorem Txt.me_Word_DsubD (T : Txt K mg) : Meth K (He.ga K "Word") "__sub__" (He.ma K (He.ga K "Word") "__sub__") := ⟨T.a_Word_DsubD, T.i_Word_DsubD, T.k_Word_DsubD⟩
theorem Txt.me_Word_DrsubD (T : Txt K mg) : Meth K (He.ga K "Word") "__rsub__" (He.ma K (He.ga K "Word") "__rsub__") := ⟨T.a_Word_DrsubD, T.i_Word_DrsubD, T.k_Word_DrsubD⟩
theorem Txt.me_Word_DxorD (T : Txt K mg) : Meth K (He.ga K "Word") "__xor__" (He.ma K (He.ga K "Word") "__xor__") := ⟨T.a_Word_DxorD, T.i_Word_DxorD, T.k_Word_DxorD⟩
theorem Txt.me_Word_DrxorD (T : Txt K mg) : Meth K (He.ga K "Word") "__rxor__" (He.ma K (He.ga K "Word") "__rxor__") := ⟨T.a_Word_DrxorD, T.i_Word_DrxorD, T.k_Word_DrxorD⟩
theorem Txt.me_Word_DinvertD (T : Txt K mg) : Meth K (He.ga K "Word") "__invert__" (He.ma K (He.ga K "Word") "__invert__") := ⟨T.a_Word_DinvertD, T.i_Word_DinvertD, T.k_Word_DinvertD⟩
theorem Txt.me_Word_DmulD (T : Txt K mg) : Meth K (He.ga K "Word") "__mul__" (He.ma K (He.ga K "Word") "__mul__") := ⟨T.a_Word_DmulD, T.i_Word_DmulD, T.k_Word_DmulD⟩
theorem Txt.me_Word_DrmulD (T : Txt K mg) : Meth K (He.ga K "Word") "__rmul__" (He.ma K (He.ga K "Word") "__rmul__") := ⟨T.a_Word_DrmulD, T.i_Word_DrmulD, T.k_Word_DrmulD⟩
theorem Txt.me_Word_DlshiftD (T : Txt K mg) : Meth K (He.ga K "Word") "__lshift__" (He.ma K (He.ga K "Word") "__lshift__") := ⟨T.a_Word_DlshiftD, T.i_Word_DlshiftD, T.k_Word_DlshiftD⟩
theorem Txt.me_Word_DrshiftD (T : Txt K mg) : Meth K (He.ga K "Word") "__rshift__" (He.ma K (He.ga K "Word") "__rshift__") := ⟨T.a_Word_DrshiftD, T.i_Word_DrshiftD, T.k_Word_DrshiftD⟩
theorem Txt.me_Word_DabsD (T : Txt K mg) : Meth K (He.ga K "Word") "__abs__" (He.ma K (He.ga K "Word") "__abs__") := ⟨T.a_Word_DabsD, T.i_Word_DabsD, T.k_Word_DabsD⟩
theorem Txt.me_Word_DboolD (T : Txt K mg) : Meth K (He.ga K "Word") "__bool__" (He.ma K (He.ga K "Word") "__bool__") := ⟨T.a_Word_DboolD, T.i_Word_DboolD, T.k_Word_DboolD⟩
theorem Txt.me_Word_DeqD (T : Txt K mg) : Meth K (He.ga K "Word") "__eq__" (He.ma K (He.ga K "Word") "__eq__") := ⟨T.a_Word_DeqD, T.i_Word_DeqD, T.k_Word_DeqD⟩
theorem Txt.me_Word_DltD (T : Txt K mg) : Meth K (He.ga K "Word") "__lt__" (He.ma K (He.ga K "Word") "__lt__") := ⟨T.a_Word_DltD, T.i_Word_DltD, T.k_Word_DltD⟩
theorem Txt.me_Word_DleD (T : Txt K mg) : Meth K (He.ga K "Word") "__le__" (He.ma K (He.ga K "Word") "__le__") := ⟨T.a_Word_DleD, T.i_Word_DleD, T.k_Word_DleD⟩
theorem Txt.me_Word_DgtD (T : Txt K mg) : Meth K (He.ga K "Word") "__gt__" (He.ma K (He.ga K "Word") "__gt__") := ⟨T.a_Word_DgtD, T.i_Word_DgtD, T.k_Word_DgtD⟩
theorem Txt.me_Word_DgeD (T : Txt K mg) : Meth K (He.ga K "Word") "__ge__" (He.ma K (He.ga K "Word") "__ge__") := ⟨T.a_Word_DgeD, T.i_Word_DgeD, T.k_Word_DgeD⟩
theorem Txt.me_Word_DstrD (T : Txt K mg) : Meth K (He.ga K "Word") "__str__" (He.ma K (He.ga K "Word") "__str__") := ⟨T.a_Word_DstrD, T.i_Word_DstrD, T.k_Word_DstrD⟩
theorem Txt.me_Word_DreprD (T : Txt K mg) : Meth K (He.ga K "Word") "__repr__" (He.ma K (He.ga K "Word") "__repr__") := ⟨T.a_Word_DreprD, T.i_Word_DreprD, T.k_Word_DreprD⟩
theorem Txt.s_empty (T : Txt K mg) : SMet K (He.ga K "Word") "empty" (He.ma K (He.ga K "Word") "empty") (recAd K (He.ma K (He.ga K "Word") "empty") "staticmethod") := ⟨T.rd_Word, T.ga_Word, T.sm_empty, T.sr_empty, T.F_Word_empty.choose_spec.kp⟩
theorem Txt.s_full (T : Txt K mg) : SMet K (He.ga K "Word") "full" (He.ma K (He.ga K "Word") "full") (recAd K (He.ma K (He.ga K "Word") "full") "staticmethod") := ⟨T.rd_Word, T.ga_Word, T.sm_full, T.sr_full, T.F_Word_full.choose_spec.kp⟩
end
theorem b_is_integer {K : PySem.W.Frag} {mg : Str → Option Value} (T : Txt K mg) : Binds K T.F_is_integer.choose ["value"] [] := T.F_is_integer.choose_spec.bindsN fun _ _ _ _ _ _ us hl => match us, hl with | [_], _ => rfl
theorem b_is_between {K : PySem.W.Frag} {mg : Str → Option Value} (T : Txt K mg) : Binds K T.F_is_between.choose ["value", "low", "high"] [] := T.F_is_between.choose_spec.bindsN fun _ _ _ _ _ _ us hl => match us, hl with | [_, _, _], _ => rfl
theorem b_top_of {K : PySem.W.Frag} {mg : Str → Option Value} (T : Txt K mg) : Binds K T.F_top_of.choose ["width"] [] := T.F_top_of.choose_spec.bindsN fun _ _ _ _ _ _ us hl => match us, hl with | [_], _ => rfl
theorem b_sum_word {K : PySem.W.Frag} {mg : Str → Option Value} (T : Txt K mg) : Binds K T.F_sum_word.choose ["width", "one", "other"] [] := T.F_sum_word.choose_spec.bindsN fun _ _ _ _ _ _ us hl => match us, hl with | [_, _, _], _ => rfl
theorem b_multiple_word {K : PySem.W.Frag} {mg : Str → Option Value} (T : Txt K mg) : Binds K T.F_multiple_word.choose ["width", "value", "times"] [] := T.F_multiple_word.choose_spec.bindsN fun _ _ _ _ _ _ us hl => match us, hl with | [_, _, _], _ => rfl
theorem b_need_times {K : PySem.W.Frag} {mg : Str → Option Value} (T : Txt K mg) : Binds K T.F_need_times.choose ["value"] [] := T.F_need_times.choose_spec.bindsN fun _ _ _ _ _ _ us hl => match us, hl with | [_], _ => rfl
theorem b_operand_value {K : PySem.W.Frag} {mg : Str → Option Value} (T : Txt K mg) : Binds K T.F_operand_value.choose ["word", "other"] [] := T.F_operand_value.choose_spec.bindsN fun _ _ _ _ _ _ us hl => match us, hl with | [_, _], _ => rfl
theorem b_need_comparable {K : PySem.W.Frag} {mg : Str → Option Value} (T : Txt K mg) : Binds K T.F_need_comparable.choose ["word", "other"] [] := T.F_need_comparable.choose_spec.bindsN fun _ _ _ _ _ _ us hl => match us, hl with | [_, _], _ => rfl
theorem b_rest_of {K : PySem.W.Frag} {mg : Str → Option Value} (T : Txt K mg) : Binds K T.F_rest_of.choose ["width", "value"] [] := T.F_rest_of.choose_spec.bindsN fun _ _ _ _ _ _ us hl => match us, hl with | [_, _], _ => rfl
theorem b_Word_DinitD {K : PySem.W.Frag} {mg : Str → Option Value} (T : Txt K mg) : Binds K T.F_Word_DinitD.choose ["self", "width", "value"] [] := T.F_Word_DinitD.choose_spec.bindsN fun _ _ _ _ _ _ us hl => match us, hl with | [_, _, _], _ => rfl
theorem b_Word_empty {K : PySem.W.Frag} {mg : Str → Option Value} (T : Txt K mg) : Binds K T.F_Word_empty.choose ["width"] [] := T.F_Word_empty.choose_spec.bindsN fun _ _ _ _ _ _ us hl => match us, hl with | [_], _ => rfl
theorem b_Word_full {K : PySem.W.Frag} {mg : Str → Option Value} (T : Txt K mg) : Binds K T.F_Word_full.choose ["width"] [] := T.F_Word_full.choose_spec.bindsN fun _ _ _ _ _ _ us hl => match us, hl with | [_], _ => rfl
theorem b_Word_read {K : PySem.W.Frag} {mg : Str → Option Value} (T : Txt K mg) : Binds K T.F_Word_read.choose ["cls", "text"] [] := T.F_Word_read.choose_spec.bindsN fun _ _ _ _ _ _ us hl => match us, hl with | [_, _], _ => rfl
theorem b_Word_rest {K : PySem.W.Frag} {mg : Str → Option Value} (T : Txt K mg) : Binds K T.F_Word_rest.choose ["self"] [] := T.F_Word_rest.choose_spec.bindsN fun _ _ _ _ _ _ us hl => match us, hl with | [_], _ => rfl
theorem b_Word_DaddD {K : PySem.W.Frag} {mg : Str → Option Value} (T : Txt K mg) : Binds K T.F_Word_DaddD.choose ["self", "other"] [] := T.F_Word_DaddD.choose_spec.bindsN fun _ _ _ _ _ _ us hl => match us, hl with | [_, _], _ => rfl
theorem b_Word_DraddD {K : PySem.W.Frag} {mg : Str → Option Value} (T : Txt K mg) : Binds K T.F_Word_DraddD.choose ["self", "other"] [] := T.F_Word_DraddD.choose_spec.bindsN fun _ _ _ _ _ _ us hl => match us, hl with | [_, _], _ => rfl
theorem b_Word_DsubD {K : PySem.W.Frag} {mg : Str → Option Value} (T : Txt K mg) : Binds K T.F_Word_DsubD.choose ["self", "other"] [] := T.F_Word_DsubD.choose_spec.bindsN fun _ _ _ _ _ _ us hl => match us, hl with | [_, _], _ => rfl
theorem b_Word_DrsubD {K : PySem.W.Frag} {mg : Str → Option Value} (T : Txt K mg) : Binds K T.F_Word_DrsubD.choose ["self", "other"] [] := T.F_Word_DrsubD.choose_spec.bindsN fun _ _ _ _ _ _ us hl => match us, hl with | [_, _], _ => rfl
theorem b_Word_DxorD {K : PySem.W.Frag} {mg : Str → Option Value} (T : Txt K mg) : Binds K T.F_Word_DxorD.choose ["self", "other"] [] := T.F_Word_DxorD.choose_spec.bindsN fun _ _ _ _ _ _ us hl => match us, hl with | [_, _], _ => rfl
theorem b_Word_DrxorD {K : PySem.W.Frag} {mg : Str → Option Value} (T : Txt K mg) : Binds K T.F_Word_DrxorD.choose ["self", "other"] [] := T.F_Word_DrxorD.choose_spec.bindsN fun _ _ _ _ _ _ us hl => match us, hl with | [_, _], _ => rfl
theorem b_Word_DinvertD {K : PySem.W.Frag} {mg : Str → Option Value} (T : Txt K mg) : Binds K T.F_Word_DinvertD.choose ["self"] [] := T.F_Word_DinvertD.choose_spec.bindsN fun _ _ _ _ _ _ us hl => match us, hl with | [_], _ => rfl
theorem b_Word_DmulD {K : PySem.W.Frag} {mg : Str → Option Value} (T : Txt K mg) : Binds K T.F_Word_DmulD.choose ["self", "other"] [] := T.F_Word_DmulD.choose_spec.bindsN fun _ _ _ _ _ _ us hl => match us, hl with | [_, _], _ => rfl
theorem b_Word_DrmulD {K : PySem.W.Frag} {mg : Str → Option Value} (T : Txt K mg) : Binds K T.F_Word_DrmulD.choose ["self", "other"] [] := T.F_Word_DrmulD.choose_spec.bindsN fun _ _ _ _ _ _ us hl => match us, hl with | [_, _], _ => rfl
theorem b_Word_DlshiftD {K : PySem.W.Frag} {mg : Str → Option Value} (T : Txt K mg) : Binds K T.F_Word_DlshiftD.choose ["self", "other"] [] := T.F_Word_DlshiftD.choose_spec.bindsN fun _ _ _ _ _ _ us hl => match us, hl with | [_, _], _ => rfl
theorem b_Word_DrshiftD {K : PySem.W.Frag} {mg : Str → Option Value} (T : Txt K mg) : Binds K T.F_Word_DrshiftD.choose ["self", "other"] [] := T.F_Word_DrshiftD.choose_spec.bindsN fun _ _ _ _ _ _ us hl => match us, hl with | [_, _], _ => rfl
theorem b_Word_DabsD {K : PySem.W.Frag} {mg : Str → Option Value} (T : Txt K mg) : Binds K T.F_Word_DabsD.choose ["self"] [] := T.F_Word_DabsD.choose_spec.bindsN fun _ _ _ _ _ _ us hl => match us, hl with | [_], _ => rfl
theorem b_Word_DboolD {K : PySem.W.Frag} {mg : Str → Option Value} (T : Txt K mg) : Binds K T.F_Word_DboolD.choose ["self"] [] := T.F_Word_DboolD.choose_spec.bindsN fun _ _ _ _ _ _ us hl => match us, hl with | [_], _ => rfl
theorem b_Word_DeqD {K : PySem.W.Frag} {mg : Str → Option Value} (T : Txt K mg) : Binds K T.F_Word_DeqD.choose ["self", "other"] [] := T.F_Word_DeqD.choose_spec.bindsN fun _ _ _ _ _ _ us hl => match us, hl with | [_, _], _ => rfl
theorem b_Word_DltD {K : PySem.W.Frag} {mg : Str → Option Value} (T : Txt K mg) : Binds K T.F_Word_DltD.choose ["self", "other"] [] := T.F_Word_DltD.choose_spec.bindsN fun _ _ _ _ _ _ us hl => match us, hl with | [_, _], _ => rfl
theorem b_Word_DleD {K : PySem.W.Frag} {mg : Str → Option Value} (T : Txt K mg) : Binds K T.F_Word_DleD.choose ["self", "other"] [] := T.F_Word_DleD.choose_spec.bindsN fun _ _ _ _ _ _ us hl => match us, hl with | [_, _], _ => rfl
theorem b_Word_DgtD {K : PySem.W.Frag} {mg : Str → Option Value} (T : Txt K mg) : Binds K T.F_Word_DgtD.choose ["self", "other"] [] := T.F_Word_DgtD.choose_spec.bindsN fun _ _ _ _ _ _ us hl => match us, hl with | [_, _], _ => rfl
theorem b_Word_DgeD {K : PySem.W.Frag} {mg : Str → Option Value} (T : Txt K mg) : Binds K T.F_Word_DgeD.choose ["self", "other"] [] := T.F_Word_DgeD.choose_spec.bindsN fun _ _ _ _ _ _ us hl => match us, hl with | [_, _], _ => rfl
theorem b_Word_DstrD {K : PySem.W.Frag} {mg : Str → Option Value} (T : Txt K mg) : Binds K T.F_Word_DstrD.choose ["self"] [] := T.F_Word_DstrD.choose_spec.bindsN fun _ _ _ _ _ _ us hl => match us, hl with | [_], _ => rfl
theorem b_Word_DreprD {K : PySem.W.Frag} {mg : Str → Option Value} (T : Txt K mg) : Binds K T.F_Word_DreprD.choose ["self"] [] := T.F_Word_DreprD.choose_spec.bindsN fun _ _ _ _ _ _ us hl => match us, hl with | [_], _ => rfl
theorem b_need_even {K : PySem.W.Frag} {mg : Str → Option Value} (T : Txt K mg) : Binds K T.F_need_even.choose ["width"] [] := T.F_need_even.choose_spec.bindsN fun _ _ _ _ _ _ us hl => match us, hl with | [_], _ => rfl
theorem b_packed {K : PySem.W.Frag} {mg : Str → Option Value} (T : Txt K mg) : Binds K T.F_packed.choose ["width", "halves"] [] := T.F_packed.choose_spec.bindsN fun _ _ _ _ _ _ us hl => match us, hl with | [_, _], _ => rfl
theorem b_half_total {K : PySem.W.Frag} {mg : Str → Option Value} (T : Txt K mg) : Binds K T.F_half_total.choose ["width", "halves"] [] := T.F_half_total.choose_spec.bindsN fun _ _ _ _ _ _ us hl => match us, hl with | [_, _], _ => rfl
theorem b__law_pen {K : PySem.W.Frag} {mg : Str → Option Value} (T : Txt K mg) : Binds K T.F__law_pen.choose ["_law_script"] [] := T.F__law_pen.choose_spec.bindsN fun _ _ _ _ _ _ us hl => match us, hl with | [_], _ => rfl
theorem b__law_draw {K : PySem.W.Frag} {mg : Str → Option Value} (T : Txt K mg) : Binds K T.F__law_draw.choose ["_law_pen_here", "_law_many"] [] := T.F__law_draw.choose_spec.bindsN fun _ _ _ _ _ _ us hl => match us, hl with | [_, _], _ => rfl
theorem b__law_heard {K : PySem.W.Frag} {mg : Str → Option Value} (T : Txt K mg) : Binds K T.F__law_heard.choose ["_law_ask"] [] := T.F__law_heard.choose_spec.bindsN fun _ _ _ _ _ _ us hl => match us, hl with | [_], _ => rfl
theorem b__law_halves {K : PySem.W.Frag} {mg : Str → Option Value} (T : Txt K mg) : Binds K T.F__law_halves.choose ["_law_pen_here", "_law_width"] [] := T.F__law_halves.choose_spec.bindsN fun _ _ _ _ _ _ us hl => match us, hl with | [_, _], _ => rfl
theorem b__law_values {K : PySem.W.Frag} {mg : Str → Option Value} (T : Txt K mg) : Binds K T.F__law_values.choose ["_law_width", "_law_halves_here"] [] := T.F__law_values.choose_spec.bindsN fun _ _ _ _ _ _ us hl => match us, hl with | [_, _], _ => rfl
theorem b__law_total {K : PySem.W.Frag} {mg : Str → Option Value} (T : Txt K mg) : Binds K T.F__law_total.choose ["_law_width", "_law_values_here"] [] := T.F__law_total.choose_spec.bindsN fun _ _ _ _ _ _ us hl => match us, hl with | [_, _], _ => rfl
theorem b__law_bent_right {K : PySem.W.Frag} {mg : Str → Option Value} (T : Txt K mg) : Binds K T.F__law_bent_right.choose ["_law_pen_here", "_law_width", "_law_halves_here"] [] := T.F__law_bent_right.choose_spec.bindsN fun _ _ _ _ _ _ us hl => match us, hl with | [_, _, _], _ => rfl
theorem b_law {K : PySem.W.Frag} {mg : Str → Option Value} (T : Txt K mg) : Binds K T.F_law.choose ["_law_script"] [] := T.F_law.choose_spec.bindsN fun _ _ _ _ _ _ us hl => match us, hl with | [_], _ => rfl
def ls : List (PySem.W.Frag → Addr) := [fun K => (He.ga K "_law_bent_right")]
abbrev lamT (K : PySem.W.Frag) : List (Addr × Str) := [(tabAd K (He.ga K "_law_bent_right"), (envOfC "_law_bent_right" (defScope s__law_bent_right) 0 0 .none).qual ++ "<lambda>")]
abbrev TBs (K : PySem.W.Frag) (mg : Str → Option Value) (base : Heap) : Prop := ∀ p ∈ csOf ls K, LamX.TabB base mg p.1 p.2
section
variable {w : World} {K : PySem.W.Frag} {mg : Str → Option Value} {base : Heap}
theorem ok__law_pen (T : Txt K mg) : FnOk P w K mg base (L2.CX P w) 1 (He.ga K "_law_pen") T.F__law_pen.choose ["_law_script"] (spPen K) := by
  refine T.F__law_pen.choose_spec.ok sc__law_pen (fun vs H Q E h => ?_) (fun cdv A outer s H vs Q E hr h => ?_)
  · obtain ⟨a, ns, rfl, hS, k⟩ := h
    rfl
  · obtain ⟨a, ns, rfl, hS, k⟩ := h
    refine ⟨_, (pss_one (ps_ret (pe_lst (pa_cons (pe_callTy zc_list (by rfl) T.n_list (by decide +kernel) (pa_cons (pe_slice sl_list (pv 0) po_none (po_some pe_int)) pa_nil)) (pa_cons pe_int (pa_cons pe_int pa_nil)))))), ?_⟩
    walk_at "z_in"
    walk_at "z_go"
    rename_i l1 H1 _ _ _ l2 H2 _ _ h2 l3 H3 _ _ h3
    have e : cutV (ns.map V.int) none (some 63) = (ns.take 63).map V.int := cut_upto (m := 63)
    rw [e] at h2
    exact k _ _ (by walk_at "z_ex") ⟨_, _, _, _, h3, by walk_at "z_hp", by omega, by omega, by simp; omega⟩

theorem ok__law_draw (T : Txt K mg) : FnOk P w K mg base (L2.CX P w) 1 (He.ga K "_law_draw") T.F__law_draw.choose ["_law_pen_here", "_law_many"] (spDraw K) := by
  refine T.F__law_draw.choose_spec.ok sc__law_draw (fun vs H Q E h => ?_) (fun cdv A outer s H vs Q E hr h => ?_)
  · obtain ⟨p, m, n, rfl, ⟨l, cs, i, j, hp, hl, hi, hn, hc⟩, hm, hm2, k⟩ := h
    rfl
  · obtain ⟨p, m, n, rfl, ⟨l, cs, i, j, hp, hl, hi, hn, hc⟩, hm, hm2, k⟩ := h
    refine ⟨_, (pss_cons (ps_if (pt_cmpR op_gt (pe_ix ix_list (pv 0) pe_int (fun _ _ => rfl)) pe_int (nomark _)) (pss_cons (ps_set (i := 2) sc__law_draw.nd rfl (Or.inl rfl) (pe_op op_mod (pe_callTy zc_int (by rfl) T.n_int (by decide +kernel) (pa_cons (pe_ix ix_list (pv 0) pe_int (fun _ _ => rfl)) pa_nil)) (pv 1)))
    (pss_cons (ps_asg (pe_op op_fdivW (pe_ix ix_list (pv 0) pe_int (fun _ _ => rfl)) (pv 1)) (pg_sub (pv 0) pe_int set_list))
    (pss_one (ps_ret (pv 2))))) pss_nil)
    (pss_cons (ps_set (i := 3) sc__law_draw.nd rfl (Or.inl rfl) (pe_ix ix_list (pv 0) pe_int (fun _ _ => rfl)))
    (pss_cons (ps_asg (pe_op op_add (pv 3) pe_int) (pg_sub (pv 0) pe_int set_list))
    (pss_cons (ps_set (i := 4) sc__law_draw.nd rfl (Or.inl rfl) (pe_op op_add (pe_op op_mul pe_int (pv 3)) pe_int))
    (pss_cons (ps_if (pt_cmpR (op_neD hr.units) (pe_ix ix_list (pv 0) pe_int (fun _ _ => rfl)) (pe_lst pa_nil) (nomark _)) (pss_one (ps_set (i := 4) sc__law_draw.nd rfl (Or.inl rfl) (pe_ix ix_list (pe_ix ix_list (pv 0) pe_int (fun _ _ => rfl)) (pe_op op_mod (pe_callTy zc_int (by rfl) T.n_int (by decide +kernel) (pa_cons (pv 3) pa_nil)) (pe_callB zc_len (by rfl) T.n_len PySem.boot_len (pa_cons (pe_ix ix_list (pv 0) pe_int (fun _ _ => rfl)) pa_nil))) (fun _ _ => rfl)))) pss_nil)
    (pss_cons (ps_if (PW.pt (pw_and (pt_cmpR op_lt (pv 3) (pe_callB zc_len (by rfl) T.n_len PySem.boot_len (pa_cons (pe_ix ix_list (pv 0) pe_int (fun _ _ => rfl)) pa_nil)) (nomark _)) (pw_and1 (pt_cmpR op_ge (pe_callB zc_abs (by rfl) T.n_abs (by decide +kernel) (pa_cons (pv 4) pa_nil)) (pe_op op_pow pe_int pe_int) (nomark _))))) (pss_cons (ps_set (i := 5) sc__law_draw.nd rfl (Or.inl rfl) (pe_op op_add (pe_op op_mul pe_int (pe_op op_sub (pe_callB zc_abs (by rfl) T.n_abs (by decide +kernel) (pa_cons (pv 4) pa_nil)) (pe_op op_pow pe_int pe_int))) (pe_callTy zc_int (by rfl) T.n_int (by decide +kernel) (pa_cons (pe_cmpR op_lt (pv 4) pe_int (nomark _)) pa_nil))))
    (pss_cons (ps_asg (pe_op op_fdivW (pv 5) (pv 1)) (pg_sub (pv 0) pe_int set_list))
    (pss_one (ps_ret (pe_op op_mod (pe_callTy zc_int (by rfl) T.n_int (by decide +kernel) (pa_cons (pv 5) pa_nil)) (pv 1)))))) pss_nil)
    (pss_cons (ps_set (i := 6) sc__law_draw.nd rfl (Or.inl rfl) (pe_op op_mod (pe_callTy zc_int (by rfl) T.n_int (by decide +kernel) (pa_cons (pe_op op_pow (pe_op op_add (pe_op op_add (pe_op op_mod (pe_callTy zc_int (by rfl) T.n_int (by decide +kernel) (pa_cons (pv 4) pa_nil)) pe_int) (pe_op op_mul pe_int (pv 3))) pe_int) pe_int) pa_nil)) pe_int))
    (pss_cons (ps_set (i := 6) sc__law_draw.nd rfl (Or.inl rfl) (pe_op op_mod (pe_callTy zc_int (by rfl) T.n_int (by decide +kernel) (pa_cons (pe_op op_pow (pe_op op_add (pe_op op_add (pe_op op_mul (pv 6) (pe_op op_add (pe_op op_mul pe_int (pv 3)) pe_int)) (pe_op op_mul (pe_op op_mul pe_int (pv 3)) (pv 3))) pe_int) pe_int) pa_nil)) pe_int))
    (pss_one (ps_ret (pe_op op_mod (pe_callTy zc_int (by rfl) T.n_int (by decide +kernel) (pa_cons (pe_op op_fdivW (pv 6) pe_int) pa_nil)) (pv 1)))))))))))), ?_⟩
    walk_at "z_in"
    walk_at "z_go"
    refine f_2 (fun h => ?_) (fun h => ?_)
    · walk_at "z_go"
      rename_i H1 e1 h1
      obtain ⟨g, q⟩ := PenAt.set (n' := n) hp hl hc e1 h1 hi (by omega)
      exact k _ _ g q (Int.emod_nonneg _ (by omega)) (Int.emod_lt_of_pos _ hm) e1
    · refine s_seq ?_
      walk_at "z_go"
      rename_i H1 e1 h1 l2 H2 f2 e2 h2
      obtain ⟨g, q⟩ := PenAt.set (n' := n) hp hl hc e1 h1 (by omega) (by omega)
      walk_at "z_go"
      have hii1 : 0 ≤ i * i := Int.mul_nonneg hi hi
      have hii2 : i * i ≤ 1000000 * 1000000 := Int.mul_le_mul (by omega) (by omega) hi (by omega)
      refine f_2 (fun hcs => ?_) (fun hcs => ?_)
      · walk_at "z_go"
        generalize 70099 * i + 677 = c
        refine f_2 (fun hlt => ?_) (fun hlt => ?_)
        · walk_at "z_go"
          refine f_2 (fun hg => ?_) (fun hg => ?_)
          · walk_at "z_go"
            rename_i H3 e3 h3
            obtain ⟨g3, q3⟩ := PenAt.set (n' := n) (e2.get h1) (e2.get (g.get hl (pen_ints _))) hc e3 h3 (by omega) (by omega)
            exact k _ _ (Gr.trans (Gr.trans g e2.gr) g3) q3 (Int.emod_nonneg _ (by omega)) (Int.emod_lt_of_pos _ hm) (fun a o n h => e3 a o n (e2 a o (e1 a o n h)))
          · walk_at "z_go"
            generalize (c % 2147483563 + 40177 * i + 151) ^ Int.toNat 5 = x1
            have hx1 : 0 ≤ x1 % 2147483629 := Int.emod_nonneg _ (by decide)
            have hx2 : x1 % 2147483629 < 2147483629 := Int.emod_lt_of_pos _ (by decide)
            generalize x1 % 2147483629 = mx at hx1 hx2
            have h1 : 0 ≤ mx * (2 * i + 57) := Int.mul_nonneg hx1 (by omega)
            have h2 : mx * (2 * i + 57) ≤ 2147483629 * 2001000 := Int.mul_le_mul (by omega) (by omega) (by omega) (by omega)
            have h3 : 52579 * i * i = 52579 * (i * i) := Int.mul_assoc _ _ _
            walk_at "z_go"
            exact k _ _ (Gr.trans g e2.gr) (q.ex e2) (Int.emod_nonneg _ (by omega)) (Int.emod_lt_of_pos _ hm) (fun a o n h => e2 a o (e1 a o n h))
        · walk_at "z_go"
          generalize (c % 2147483563 + 40177 * i + 151) ^ Int.toNat 5 = x1
          have hx1 : 0 ≤ x1 % 2147483629 := Int.emod_nonneg _ (by decide)
          have hx2 : x1 % 2147483629 < 2147483629 := Int.emod_lt_of_pos _ (by decide)
          generalize x1 % 2147483629 = mx at hx1 hx2
          have h1 : 0 ≤ mx * (2 * i + 57) := Int.mul_nonneg hx1 (by omega)
          have h2 : mx * (2 * i + 57) ≤ 2147483629 * 2001000 := Int.mul_le_mul (by omega) (by omega) (by omega) (by omega)
          have h3 : 52579 * i * i = 52579 * (i * i) := Int.mul_assoc _ _ _
          walk_at "z_go"
          exact k _ _ (Gr.trans g e2.gr) (q.ex e2) (Int.emod_nonneg _ (by omega)) (Int.emod_lt_of_pos _ hm) (fun a o n h => e2 a o (e1 a o n h))
      · have hlen : 0 < (cs.map V.int).length := by
          cases cs with
          | nil => exact absurd rfl hcs
          | cons _ _ => simp
        walk_at "z_go"
        refine r_ixL (by walk_at "z_hp") (atI_ints (Int.emod_nonneg _ (by omega)) (Int.lt_of_lt_of_le (Int.emod_lt_of_pos _ (by omega)) (by simp))) ?_
        generalize cs[(i % ((cs.map V.int).length : Int)).toNat]'_ = c
        walk_at "z_go"
        refine f_2 (fun hlt => ?_) (fun hlt => ?_)
        · walk_at "z_go"
          refine f_2 (fun hg => ?_) (fun hg => ?_)
          · walk_at "z_go"
            rename_i H3 e3 h3
            obtain ⟨g3, q3⟩ := PenAt.set (n' := n) (e2.get h1) (e2.get (g.get hl (pen_ints _))) hc e3 h3 (by omega) (by omega)
            exact k _ _ (Gr.trans (Gr.trans g e2.gr) g3) q3 (Int.emod_nonneg _ (by omega)) (Int.emod_lt_of_pos _ hm) (fun a o n h => e3 a o n (e2 a o (e1 a o n h)))
          · walk_at "z_go"
            generalize (c % 2147483563 + 40177 * i + 151) ^ Int.toNat 5 = x1
            have hx1 : 0 ≤ x1 % 2147483629 := Int.emod_nonneg _ (by decide)
            have hx2 : x1 % 2147483629 < 2147483629 := Int.emod_lt_of_pos _ (by decide)
            generalize x1 % 2147483629 = mx at hx1 hx2
            have h1 : 0 ≤ mx * (2 * i + 57) := Int.mul_nonneg hx1 (by omega)
            have h2 : mx * (2 * i + 57) ≤ 2147483629 * 2001000 := Int.mul_le_mul (by omega) (by omega) (by omega) (by omega)
            have h3 : 52579 * i * i = 52579 * (i * i) := Int.mul_assoc _ _ _
            walk_at "z_go"
            exact k _ _ (Gr.trans g e2.gr) (q.ex e2) (Int.emod_nonneg _ (by omega)) (Int.emod_lt_of_pos _ hm) (fun a o n h => e2 a o (e1 a o n h))
        · walk_at "z_go"
          generalize (c % 2147483563 + 40177 * i + 151) ^ Int.toNat 5 = x1
          have hx1 : 0 ≤ x1 % 2147483629 := Int.emod_nonneg _ (by decide)
          have hx2 : x1 % 2147483629 < 2147483629 := Int.emod_lt_of_pos _ (by decide)
          generalize x1 % 2147483629 = mx at hx1 hx2
          have h1 : 0 ≤ mx * (2 * i + 57) := Int.mul_nonneg hx1 (by omega)
          have h2 : mx * (2 * i + 57) ≤ 2147483629 * 2001000 := Int.mul_le_mul (by omega) (by omega) (by omega) (by omega)
          have h3 : 52579 * i * i = 52579 * (i * i) := Int.mul_assoc _ _ _
          walk_at "z_go"
          exact k _ _ (Gr.trans g e2.gr) (q.ex e2) (Int.emod_nonneg _ (by omega)) (Int.emod_lt_of_pos _ hm) (fun a o n h => e2 a o (e1 a o n h))

theorem ok_is_integer (T : Txt K mg) : FnOk P w K mg base (L2.CX P w) 1 (He.ga K "is_integer") T.F_is_integer.choose ["value"] (spIsI K) := by
  refine T.F_is_integer.choose_spec.ok sc_is_integer (fun vs H Q E h => ?_) (fun cdv A outer s H vs Q E hr h => ?_)
  · obtain ⟨v, rfl, ⟨t, b1, b2, ht, h1, h2, e⟩, k⟩ := h
    rfl
  · obtain ⟨v, rfl, ⟨t, b1, b2, ht, h1, h2, e⟩, k⟩ := h
    refine ⟨_, (pss_one (ps_ret (pe_and (pe_callB call_isi (by rfl) T.n_isinstance (by decide +kernel) (pa_cons (pv 0) (pa_cons (pe_bltn (v := .ty "int") (by rfl) T.n_int (by decide +kernel) rfl) pa_nil))) (pe_one (pe_not (pe_callB call_isi (by rfl) T.n_isinstance (by decide +kernel) (pa_cons (pv 0) (pa_cons (pe_bltn (v := .ty "bool") (by rfl) T.n_bool (by decide +kernel) rfl) pa_nil)))))))), ?_⟩
    walk_at "z_in"
    walk_at "z_go"
    refine r_isi ht h1 ?_
    walk_at "z_go"
    rw [e] at k
    cases b1 with
    | false =>
      walk_at "z_go"
      exact k
    | true =>
      walk_at "z_go"
      refine r_isi ht h2 ?_
      walk_at "z_go"
      exact k

theorem ok_is_between (T : Txt K mg) : FnOk P w K mg base (L2.CX P w) 2 (He.ga K "is_between") T.F_is_between.choose ["value", "low", "high"] (spBtw K) := by
  refine T.F_is_between.choose_spec.ok sc_is_between (fun vs H Q E h => ?_) (fun cdv A outer s H vs Q E hr h => ?_)
  · obtain ⟨v, lo, hi, rfl, hk, k⟩ := h
    rfl
  · obtain ⟨v, lo, hi, rfl, hk, k⟩ := h
    refine ⟨_, (pss_one (ps_ret (pe_and (pe_call (ok_is_integer T) (hr.mono (by decide)) (by rfl) T.g_is_integer T.F_is_integer.choose_spec.kp (b_is_integer T) .nil pX (pa_cons (pv 0) pa_nil)) (pe_one (pe_chain op_le op_le (pv 1) (pv 0) (pv 2)))))), ?_⟩
    walk_at "z_in"
    walk_at "z_go"
    refine ⟨v, rfl, hk, ?_⟩
    walk_at "z_go"
    cases v with
    | int i =>
      refine iteT ?_
      walk_at "z_go"
      refine f_2 (fun h => ?_) (fun h => ?_)
      · walk_at "z_go"
        have e : btw (.int i) lo hi = decide (i ≤ hi) := by simp [btw, h]
        rw [e] at k
        exact k
      · walk_at "z_go"
        have e : btw (.int i) lo hi = false := by simp [btw, h]
        rw [e] at k
        exact k
    | _ =>
      refine iteF ?_
      exact k

theorem ok_top_of (T : Txt K mg) : FnOk P w K mg base (L2.CX P w) 1 (He.ga K "top_of") T.F_top_of.choose ["width"] spTop := by
  refine T.F_top_of.choose_spec.ok sc_top_of (fun vs H Q E h => ?_) (fun cdv A outer s H vs Q E hr h => ?_)
  · obtain ⟨w, rfl, h0, h1, k⟩ := h
    rfl
  · obtain ⟨w, rfl, h0, h1, k⟩ := h
    refine ⟨_, (pss_one (ps_ret (pe_op op_sub (pe_op op_shl pe_int (pv 0)) pe_int))), ?_⟩
    walk_at "z_in"
    walk_at "z_go"
    have e : (1 : Int) * 2 ^ w.toNat - 1 = topI w := by unfold topI; omega
    rw [e]
    exact k

theorem ok_Word_DinitD (T : Txt K mg) : FnOk P w K mg base (L2.CX P w) 3 (He.ma K (He.ga K "Word") "__init__") T.F_Word_DinitD.choose ["self", "width", "value"] (spInitW (He.ga K "Word")) := by
  refine T.F_Word_DinitD.choose_spec.ok sc_Word_DinitD (fun vs H Q E h => ?_) (fun cdv A outer s H vs Q E hr h => ?_)
  · obtain ⟨x, dx, w, v, rfl, ⟨h1, h2, h3, h4⟩, hx, k⟩ := h
    rfl
  · obtain ⟨x, dx, w, v, rfl, ⟨h1, h2, h3, h4⟩, hx, k⟩ := h
    refine ⟨_, (pss_cons (ps_if (pt_not (pt_val (pe_call (ok_is_between T) (hr.mono (by decide)) (by rfl) T.g_is_between T.F_is_between.choose_spec.kp (b_is_between T) .nil pX (pa_cons (pv 1) (pa_cons pe_int (pa_cons (ClX.pe_cval (pe_glob (v := .ref (He.ga K "Word")) rfl T.g_Word rfl)) pa_nil)))))) (pss_one (ps_raise rfl pT (pmk_err (errI_BadWidth T) errS_BadWidth (errN_BadWidth T) (by decide) (by decide) (hr.mono (by decide)) rfl T.g_BadWidth (pa_cons (pv 1) pa_nil)))) pss_nil)
    (pss_cons (ps_if (pt_not (pt_val (pe_call (ok_is_between T) (hr.mono (by decide)) (by rfl) T.g_is_between T.F_is_between.choose_spec.kp (b_is_between T) .nil pX (pa_cons (pv 2) (pa_cons pe_int (pa_cons (pe_call (ok_top_of T) (hr.mono (by decide)) (by rfl) T.g_top_of T.F_top_of.choose_spec.kp (b_top_of T) .nil pX (pa_cons (pv 1) pa_nil)) pa_nil)))))) (pss_one (ps_raise rfl pT (pmk_err (errI_BadWord T) errS_BadWord (errN_BadWord T) (by decide) (by decide) (hr.mono (by decide)) rfl T.g_BadWord (pa_cons (pv 2) pa_nil)))) pss_nil)
    (pss_cons (ps_fld (pv 0) (pv 1) rfl)
    (pss_one (ps_fld (pv 0) (pv 2) rfl))))), ?_⟩
    walk_at "z_in"
    have clW := T.clWord
    have nW := T.na_Word_width
    have nV := T.na_Word_value
    have cvM := T.mw_Word.choose_spec
    have crM : ClX.CRead K (He.ga K "Word") (.type "type") := ⟨T.rd_Word, T.ga_Word⟩
    walk_at "z_go"
    refine v_setF hx clW nW (by decide) fun H1 e1 hx1 => ?_
    walk_at "z_go"
    refine v_setF hx1 clW nV (by show 1 < 1000; decide) fun H2 e2 hx2 => ?_
    rw [wf_put] at hx2
    exact k H2 (e1.trans e2) hx2

theorem ok_sum_word (T : Txt K mg) : FnOk P w K mg base (L2.CX P w) 5 (He.ga K "sum_word") T.F_sum_word.choose ["width", "one", "other"] (spSum (He.ga K "Word")) := by
  refine T.F_sum_word.choose_spec.ok sc_sum_word (fun vs H Q E h => ?_) (fun cdv A outer s H vs Q E hr h => ?_)
  · obtain ⟨w, a, b, rfl, ha, hb, k⟩ := h
    rfl
  · obtain ⟨w, a, b, rfl, ha, hb, k⟩ := h
    refine ⟨_, (pss_cons (ps_set (i := 3) sc_sum_word.nd rfl (Or.inl rfl) (pe_op op_add (pv 1) (pv 2)))
    (pss_cons (ps_set (i := 4) sc_sum_word.nd rfl (Or.inl rfl) (pe_call (ok_top_of T) (hr.mono (by decide)) (by rfl) T.g_top_of T.F_top_of.choose_spec.kp (b_top_of T) .nil pX (pa_cons (pv 0) pa_nil)))
    (pss_one (ps_ret (pe_make T.mkWord (ok_Word_DinitD T) (hr.mono (by decide)) (by rfl) T.g_Word (b_Word_DinitD T) .nil pX (pa_cons (pv 0) (pa_cons (pe_ifExp (pt_cmpR op_le (pv 3) (pv 4) (nomark _)) (pv 3) (pe_op op_sub (pv 3) (pv 4))) pa_nil))))))), ?_⟩
    walk_at "z_in"
    obtain ⟨h1, h2, h3, h4⟩ := id ha
    obtain ⟨_, _, h5, h6⟩ := id hb
    walk_at "z_go"
    have q := osum_in ha hb
    refine f_2 (fun h => ?_) (fun h => ?_)
    · walk_at "z_go"
      rw [show osum w a b = a + b from if_pos h] at k q
      exact make_w q k
    · walk_at "z_go"
      rw [show osum w a b = a + b - topI w from if_neg h] at k q
      exact make_w q k

theorem ok_multiple_word (T : Txt K mg) : FnOk P w K mg base (L2.CX P w) 5 (He.ga K "multiple_word") T.F_multiple_word.choose ["width", "value", "times"] (spMul (He.ga K "Word")) := by
  refine T.F_multiple_word.choose_spec.ok sc_multiple_word (fun vs H Q E h => ?_) (fun cdv A outer s H vs Q E hr h => ?_)
  · obtain ⟨w, v, t, rfl, hv, ht0, ht1, k⟩ := h
    rfl
  · obtain ⟨w, v, t, rfl, hv, ht0, ht1, k⟩ := h
    refine ⟨_, (pss_cons (ps_if (PW.pt (pw_or (pt_cmpR op_eq (pv 2) pe_int (nomark _)) (pw_or1 (pt_cmpR op_eq (pv 1) pe_int (nomark _))))) (pss_one (ps_ret (pe_make T.mkWord (ok_Word_DinitD T) (hr.mono (by decide)) (by rfl) T.g_Word (b_Word_DinitD T) .nil pX (pa_cons (pv 0) (pa_cons pe_int pa_nil))))) pss_nil)
    (pss_one (ps_ret (pe_make T.mkWord (ok_Word_DinitD T) (hr.mono (by decide)) (by rfl) T.g_Word (b_Word_DinitD T) .nil pX (pa_cons (pv 0) (pa_cons (pe_op op_add (pe_op op_mod (pe_op op_sub (pe_op op_mul (pv 2) (pv 1)) pe_int) (pe_call (ok_top_of T) (hr.mono (by decide)) (by rfl) T.g_top_of T.F_top_of.choose_spec.kp (b_top_of T) .nil pX (pa_cons (pv 0) pa_nil))) pe_int) pa_nil)))))), ?_⟩
    walk_at "z_in"
    obtain ⟨h1, h2, h3, h4⟩ := id hv
    have q := omul_in hv ht0
    have hp := topI_pos h1
    have hl := topI_lt h2
    walk_at "z_go"
    refine f_2 (fun h => ?_) (fun h => ?_)
    · walk_at "z_go"
      rw [show omul w v t = 0 from if_pos (.inl h)] at k q
      exact make_w q k
    · walk_at "z_go"
      refine f_2 (fun h' => ?_) (fun h' => ?_)
      · walk_at "z_go"
        rw [show omul w v t = 0 from if_pos (.inr h')] at k q
        exact make_w q k
      · walk_at "z_go"
        rw [show omul w v t = (t * v - 1) % topI w + 1 from if_neg (fun z => z.elim h h')] at k q
        exact make_w q k

theorem ok_need_times (T : Txt K mg) : FnOk P w K mg base (L2.CX P w) 3 (He.ga K "need_times") T.F_need_times.choose ["value"] spNeed := by
  refine T.F_need_times.choose_spec.ok sc_need_times (fun vs H Q E h => ?_) (fun cdv A outer s H vs Q E hr h => ?_)
  · obtain ⟨t, rfl, h0, h1, k⟩ := h
    rfl
  · obtain ⟨t, rfl, h0, h1, k⟩ := h
    refine ⟨_, (pss_one (ps_if (pt_not (pt_val (pe_call (ok_is_between T) (hr.mono (by decide)) (by rfl) T.g_is_between T.F_is_between.choose_spec.kp (b_is_between T) .nil pX (pa_cons (pv 0) (pa_cons pe_int (pa_cons (pe_glob (v := .int 1000000000000000000000000000000) rfl T.c_MOST_TIMES.choose_spec ⟨_, rfl⟩) pa_nil)))))) (pss_one (ps_raise rfl pT (pmk_err (errI_BadWord T) errS_BadWord (errN_BadWord T) (by decide) (by decide) (hr.mono (by decide)) rfl T.g_BadWord (pa_cons (pv 0) pa_nil)))) pss_nil)), ?_⟩
    walk_at "z_in"
    walk_at "z_go"
    exact k

theorem ok_rest_of (T : Txt K mg) : FnOk P w K mg base (L2.CX P w) 2 (He.ga K "rest_of") T.F_rest_of.choose ["width", "value"] spRest := by
  refine T.F_rest_of.choose_spec.ok sc_rest_of (fun vs H Q E h => ?_) (fun cdv A outer s H vs Q E hr h => ?_)
  · obtain ⟨w, v, rfl, ⟨h1, h2, h3, h4⟩, k⟩ := h
    rfl
  · obtain ⟨w, v, rfl, ⟨h1, h2, h3, h4⟩, k⟩ := h
    refine ⟨_, (pss_one (ps_ret (pe_ifExp (pt_cmpR op_eq (pv 1) (pe_call (ok_top_of T) (hr.mono (by decide)) (by rfl) T.g_top_of T.F_top_of.choose_spec.kp (b_top_of T) .nil pX (pa_cons (pv 0) pa_nil)) (nomark _)) pe_int (pv 1)))), ?_⟩
    walk_at "z_in"
    walk_at "z_go"
    refine f_2 (fun h => ?_) (fun h => ?_)
    · walk_at "z_go"
      rw [show orest w v = 0 from if_pos h] at k
      exact k
    · walk_at "z_go"
      rw [show orest w v = v from if_neg h] at k
      exact k

theorem ok_operand_value (T : Txt K mg) : FnOk P w K mg base (L2.CX P w) 3 (He.ga K "operand_value") T.F_operand_value.choose ["word", "other"] (spOpd (He.ga K "Word")) := by
  refine T.F_operand_value.choose_spec.ok sc_operand_value (fun vs H Q E h => ?_) (fun cdv A outer s H vs Q E hr h => ?_)
  · obtain ⟨a, y, w, v, n, rfl, ha, ho, k⟩ := h
    rfl
  · obtain ⟨a, y, w, v, n, rfl, ha, ho, k⟩ := h
    refine ⟨_, (pss_cons (ps_if (pt_val (pe_callB call_isi (by rfl) T.n_isinstance (by decide +kernel) (pa_cons (pv 1) (pa_cons (pe_glob (v := .ref (He.ga K "Word")) rfl T.g_Word rfl) pa_nil)))) (pss_cons (ps_if (pt_cmpR op_ne (pe_fld (pv 1) rfl) (pe_fld (pv 0) rfl) (nomark _)) (pss_one (ps_raise rfl pT (pmk_err (errI_UnlikeWidths T) errS_UnlikeWidths (errN_UnlikeWidths T) (by decide) (by decide) (hr.mono (by decide)) rfl T.g_UnlikeWidths (pa_cons (pe_fld (pv 0) rfl) (pa_cons (pe_fld (pv 1) rfl) pa_nil))))) pss_nil)
    (pss_one (ps_ret (pe_fld (pv 1) rfl)))) pss_nil)
    (pss_cons (ps_if (pt_not (pt_val (pe_call (ok_is_between T) (hr.mono (by decide)) (by rfl) T.g_is_between T.F_is_between.choose_spec.kp (b_is_between T) .nil pX (pa_cons (pv 1) (pa_cons pe_int (pa_cons (pe_call (ok_top_of T) (hr.mono (by decide)) (by rfl) T.g_top_of T.F_top_of.choose_spec.kp (b_top_of T) .nil pX (pa_cons (pe_fld (pv 0) rfl) pa_nil)) pa_nil)))))) (pss_one (ps_raise rfl pT (pmk_err (errI_BadWord T) errS_BadWord (errN_BadWord T) (by decide) (by decide) (hr.mono (by decide)) rfl T.g_BadWord (pa_cons (pv 1) pa_nil)))) pss_nil)
    (pss_one (ps_ret (pv 1))))), ?_⟩
    walk_at "z_in"
    have clW := T.clWord
    have nW := T.na_Word_width
    have nV := T.na_Word_value
    have cvM := T.mw_Word.choose_spec
    have crM : ClX.CRead K (He.ga K "Word") (.type "type") := ⟨T.rd_Word, T.ga_Word⟩
    obtain ⟨h1, h2, h3, h4⟩ := ha.1
    rcases ho with ⟨b, rfl, hb⟩ | ⟨rfl, hn⟩
    · walk_at "z_go"
      refine r_isiC (T.ty hb) T.kk_Word ?_
      walk_at "z_go"
      exact k
    · obtain ⟨_, _, h5, h6⟩ := id hn
      walk_at "z_go"
      refine r_isiC (.base (.int n)) T.ki_Word ?_
      walk_at "z_go"
      exact k

theorem ok_Word_empty (T : Txt K mg) : FnOk P w K mg base (L2.CX P w) 5 (recAd K (He.ma K (He.ga K "Word") "empty") "staticmethod") T.F_Word_empty.choose ["width"] (spW1 (He.ga K "Word") fun _ => 0) := by
  refine T.F_Word_empty.choose_spec.ok sc_Word_empty (fun vs H Q E h => ?_) (fun cdv A outer s H vs Q E hr h => ?_)
  · obtain ⟨w, rfl, h1, h2, k⟩ := h
    rfl
  · obtain ⟨w, rfl, h1, h2, k⟩ := h
    refine ⟨_, (pss_one (ps_ret (pe_make T.mkWord (ok_Word_DinitD T) (hr.mono (by decide)) (by rfl) T.g_Word (b_Word_DinitD T) .nil pX (pa_cons (pv 0) (pa_cons pe_int pa_nil))))), ?_⟩
    walk_at "z_in"
    have hp := topI_pos h1
    walk_at "z_go"
    exact make_w ⟨h1, h2, by omega, by omega⟩ k

theorem ok_Word_full (T : Txt K mg) : FnOk P w K mg base (L2.CX P w) 5 (recAd K (He.ma K (He.ga K "Word") "full") "staticmethod") T.F_Word_full.choose ["width"] (spW1 (He.ga K "Word") topI) := by
  refine T.F_Word_full.choose_spec.ok sc_Word_full (fun vs H Q E h => ?_) (fun cdv A outer s H vs Q E hr h => ?_)
  · obtain ⟨w, rfl, h1, h2, k⟩ := h
    rfl
  · obtain ⟨w, rfl, h1, h2, k⟩ := h
    refine ⟨_, (pss_cons (ps_if (pt_not (pt_val (pe_call (ok_is_between T) (hr.mono (by decide)) (by rfl) T.g_is_between T.F_is_between.choose_spec.kp (b_is_between T) .nil pX (pa_cons (pv 0) (pa_cons pe_int (pa_cons (ClX.pe_cval (pe_glob (v := .ref (He.ga K "Word")) rfl T.g_Word rfl)) pa_nil)))))) (pss_one (ps_raise rfl pT (pmk_err (errI_BadWidth T) errS_BadWidth (errN_BadWidth T) (by decide) (by decide) (hr.mono (by decide)) rfl T.g_BadWidth (pa_cons (pv 0) pa_nil)))) pss_nil)
    (pss_one (ps_ret (pe_make T.mkWord (ok_Word_DinitD T) (hr.mono (by decide)) (by rfl) T.g_Word (b_Word_DinitD T) .nil pX (pa_cons (pv 0) (pa_cons (pe_call (ok_top_of T) (hr.mono (by decide)) (by rfl) T.g_top_of T.F_top_of.choose_spec.kp (b_top_of T) .nil pX (pa_cons (pv 0) pa_nil)) pa_nil)))))), ?_⟩
    walk_at "z_in"
    have clW := T.clWord
    have nW := T.na_Word_width
    have nV := T.na_Word_value
    have cvM := T.mw_Word.choose_spec
    have crM : ClX.CRead K (He.ga K "Word") (.type "type") := ⟨T.rd_Word, T.ga_Word⟩
    have hp := topI_pos h1
    walk_at "z_go"
    exact make_w ⟨h1, h2, by omega, by omega⟩ k

theorem ok_Word_rest (T : Txt K mg) : FnOk P w K mg base (L2.CX P w) 3 (recAd K (He.ma K (He.ga K "Word") "rest") "property") T.F_Word_rest.choose ["self"] (spWP (He.ga K "Word") fun w v => .int (orest w v)) := by
  refine T.F_Word_rest.choose_spec.ok sc_Word_rest (fun vs H Q E h => ?_) (fun cdv A outer s H vs Q E hr h => ?_)
  · obtain ⟨a, w, v, rfl, ha, k⟩ := h
    rfl
  · obtain ⟨a, w, v, rfl, ha, k⟩ := h
    refine ⟨_, (pss_one (ps_ret (pe_call (ok_rest_of T) (hr.mono (by decide)) (by rfl) T.g_rest_of T.F_rest_of.choose_spec.kp (b_rest_of T) .nil pX (pa_cons (pe_fld (pv 0) rfl) (pa_cons (pe_fld (pv 0) rfl) pa_nil))))), ?_⟩
    walk_at "z_in"
    have clW := T.clWord
    have nW := T.na_Word_width
    have nV := T.na_Word_value
    have cvM := T.mw_Word.choose_spec
    have crM : ClX.CRead K (He.ga K "Word") (.type "type") := ⟨T.rd_Word, T.ga_Word⟩
    walk_at "z_go"
    exact use_rest ha.1 k

theorem ok_Word_DaddD (T : Txt K mg) : FnOk P w K mg base (L2.CX P w) 6 (He.ma K (He.ga K "Word") "__add__") T.F_Word_DaddD.choose ["self", "other"] (spWO (He.ga K "Word") osum) := by
  refine T.F_Word_DaddD.choose_spec.ok sc_Word_DaddD (fun vs H Q E h => ?_) (fun cdv A outer s H vs Q E hr h => ?_)
  · obtain ⟨a, y, w, v, n, rfl, ha, ho, k⟩ := h
    rfl
  · obtain ⟨a, y, w, v, n, rfl, ha, ho, k⟩ := h
    refine ⟨_, (pss_one (ps_ret (pe_call (ok_sum_word T) (hr.mono (by decide)) (by rfl) T.g_sum_word T.F_sum_word.choose_spec.kp (b_sum_word T) .nil pX (pa_cons (pe_fld (pv 0) rfl) (pa_cons (pe_fld (pv 0) rfl) (pa_cons (pe_call (ok_operand_value T) (hr.mono (by decide)) (by rfl) T.g_operand_value T.F_operand_value.choose_spec.kp (b_operand_value T) .nil pX (pa_cons (pv 0) (pa_cons (pv 1) pa_nil))) pa_nil)))))), ?_⟩
    walk_at "z_in"
    have clW := T.clWord
    have nW := T.na_Word_width
    have nV := T.na_Word_value
    have cvM := T.mw_Word.choose_spec
    have crM : ClX.CRead K (He.ga K "Word") (.type "type") := ⟨T.rd_Word, T.ga_Word⟩
    walk_at "z_go"
    refine use_opd ha ho ?_
    walk_at "z_go"
    exact use_sum ha.1 ho.in_ k

theorem ok_Word_DraddD (T : Txt K mg) : FnOk P w K mg base (L2.CX P w) 6 (He.ma K (He.ga K "Word") "__radd__") T.F_Word_DraddD.choose ["self", "other"] (spWO (He.ga K "Word") fun w v n => osum w n v) := by
  refine T.F_Word_DraddD.choose_spec.ok sc_Word_DraddD (fun vs H Q E h => ?_) (fun cdv A outer s H vs Q E hr h => ?_)
  · obtain ⟨a, y, w, v, n, rfl, ha, ho, k⟩ := h
    rfl
  · obtain ⟨a, y, w, v, n, rfl, ha, ho, k⟩ := h
    refine ⟨_, (pss_one (ps_ret (pe_call (ok_sum_word T) (hr.mono (by decide)) (by rfl) T.g_sum_word T.F_sum_word.choose_spec.kp (b_sum_word T) .nil pX (pa_cons (pe_fld (pv 0) rfl) (pa_cons (pe_call (ok_operand_value T) (hr.mono (by decide)) (by rfl) T.g_operand_value T.F_operand_value.choose_spec.kp (b_operand_value T) .nil pX (pa_cons (pv 0) (pa_cons (pv 1) pa_nil))) (pa_cons (pe_fld (pv 0) rfl) pa_nil)))))), ?_⟩
    walk_at "z_in"
    have clW := T.clWord
    have nW := T.na_Word_width
    have nV := T.na_Word_value
    have cvM := T.mw_Word.choose_spec
    have crM : ClX.CRead K (He.ga K "Word") (.type "type") := ⟨T.rd_Word, T.ga_Word⟩
    walk_at "z_go"
    refine use_opd ha ho ?_
    walk_at "z_go"
    exact use_sum ho.in_ ha.1 k

theorem ok_Word_DsubD (T : Txt K mg) : FnOk P w K mg base (L2.CX P w) 6 (He.ma K (He.ga K "Word") "__sub__") T.F_Word_DsubD.choose ["self", "other"] (spWO (He.ga K "Word") fun w v n => osum w v (topI w - n)) := by
  refine T.F_Word_DsubD.choose_spec.ok sc_Word_DsubD (fun vs H Q E h => ?_) (fun cdv A outer s H vs Q E hr h => ?_)
  · obtain ⟨a, y, w, v, n, rfl, ha, ho, k⟩ := h
    rfl
  · obtain ⟨a, y, w, v, n, rfl, ha, ho, k⟩ := h
    refine ⟨_, (pss_one (ps_ret (pe_call (ok_sum_word T) (hr.mono (by decide)) (by rfl) T.g_sum_word T.F_sum_word.choose_spec.kp (b_sum_word T) .nil pX (pa_cons (pe_fld (pv 0) rfl) (pa_cons (pe_fld (pv 0) rfl) (pa_cons (pe_op op_sub (pe_call (ok_top_of T) (hr.mono (by decide)) (by rfl) T.g_top_of T.F_top_of.choose_spec.kp (b_top_of T) .nil pX (pa_cons (pe_fld (pv 0) rfl) pa_nil)) (pe_call (ok_operand_value T) (hr.mono (by decide)) (by rfl) T.g_operand_value T.F_operand_value.choose_spec.kp (b_operand_value T) .nil pX (pa_cons (pv 0) (pa_cons (pv 1) pa_nil)))) pa_nil)))))), ?_⟩
    walk_at "z_in"
    have clW := T.clWord
    have nW := T.na_Word_width
    have nV := T.na_Word_value
    have cvM := T.mw_Word.choose_spec
    have crM : ClX.CRead K (He.ga K "Word") (.type "type") := ⟨T.rd_Word, T.ga_Word⟩
    obtain ⟨h1, h2, h3, h4⟩ := ha.1
    walk_at "z_go"
    refine use_opd ha ho ?_
    walk_at "z_go"
    exact use_sum ha.1 (comp_in ho.in_) k

theorem ok_Word_DrsubD (T : Txt K mg) : FnOk P w K mg base (L2.CX P w) 6 (He.ma K (He.ga K "Word") "__rsub__") T.F_Word_DrsubD.choose ["self", "other"] (spWO (He.ga K "Word") fun w v n => osum w n (topI w - v)) := by
  refine T.F_Word_DrsubD.choose_spec.ok sc_Word_DrsubD (fun vs H Q E h => ?_) (fun cdv A outer s H vs Q E hr h => ?_)
  · obtain ⟨a, y, w, v, n, rfl, ha, ho, k⟩ := h
    rfl
  · obtain ⟨a, y, w, v, n, rfl, ha, ho, k⟩ := h
    refine ⟨_, (pss_one (ps_ret (pe_call (ok_sum_word T) (hr.mono (by decide)) (by rfl) T.g_sum_word T.F_sum_word.choose_spec.kp (b_sum_word T) .nil pX (pa_cons (pe_fld (pv 0) rfl) (pa_cons (pe_call (ok_operand_value T) (hr.mono (by decide)) (by rfl) T.g_operand_value T.F_operand_value.choose_spec.kp (b_operand_value T) .nil pX (pa_cons (pv 0) (pa_cons (pv 1) pa_nil))) (pa_cons (pe_op op_sub (pe_call (ok_top_of T) (hr.mono (by decide)) (by rfl) T.g_top_of T.F_top_of.choose_spec.kp (b_top_of T) .nil pX (pa_cons (pe_fld (pv 0) rfl) pa_nil)) (pe_fld (pv 0) rfl)) pa_nil)))))), ?_⟩
    walk_at "z_in"
    have clW := T.clWord
    have nW := T.na_Word_width
    have nV := T.na_Word_value
    have cvM := T.mw_Word.choose_spec
    have crM : ClX.CRead K (He.ga K "Word") (.type "type") := ⟨T.rd_Word, T.ga_Word⟩
    obtain ⟨h1, h2, h3, h4⟩ := ha.1
    walk_at "z_go"
    refine use_opd ha ho ?_
    walk_at "z_go"
    exact use_sum ho.in_ (comp_in ha.1) k

theorem ok_Word_DxorD (T : Txt K mg) : FnOk P w K mg base (L2.CX P w) 6 (He.ma K (He.ga K "Word") "__xor__") T.F_Word_DxorD.choose ["self", "other"] (spWO (He.ga K "Word") fun _ v n => oxor v n) := by
  refine T.F_Word_DxorD.choose_spec.ok sc_Word_DxorD (fun vs H Q E h => ?_) (fun cdv A outer s H vs Q E hr h => ?_)
  · obtain ⟨a, y, w, v, n, rfl, ha, ho, k⟩ := h
    rfl
  · obtain ⟨a, y, w, v, n, rfl, ha, ho, k⟩ := h
    refine ⟨_, (pss_one (ps_ret (pe_make T.mkWord (ok_Word_DinitD T) (hr.mono (by decide)) (by rfl) T.g_Word (b_Word_DinitD T) .nil pX (pa_cons (pe_fld (pv 0) rfl) (pa_cons (pe_op op_xor (pe_fld (pv 0) rfl) (pe_call (ok_operand_value T) (hr.mono (by decide)) (by rfl) T.g_operand_value T.F_operand_value.choose_spec.kp (b_operand_value T) .nil pX (pa_cons (pv 0) (pa_cons (pv 1) pa_nil)))) pa_nil))))), ?_⟩
    walk_at "z_in"
    have clW := T.clWord
    have nW := T.na_Word_width
    have nV := T.na_Word_value
    have cvM := T.mw_Word.choose_spec
    have crM : ClX.CRead K (He.ga K "Word") (.type "type") := ⟨T.rd_Word, T.ga_Word⟩
    obtain ⟨h1, h2, h3, h4⟩ := id ha.1
    walk_at "z_go"
    refine use_opd ha ho ?_
    obtain ⟨_, _, h5, h6⟩ := id ho.in_
    walk_at "z_go"
    exact make_w (oxor_in ha.1 ho.in_) k

theorem ok_Word_DrxorD (T : Txt K mg) : FnOk P w K mg base (L2.CX P w) 6 (He.ma K (He.ga K "Word") "__rxor__") T.F_Word_DrxorD.choose ["self", "other"] (spWO (He.ga K "Word") fun _ v n => oxor v n) := by
  refine T.F_Word_DrxorD.choose_spec.ok sc_Word_DrxorD (fun vs H Q E h => ?_) (fun cdv A outer s H vs Q E hr h => ?_)
  · obtain ⟨a, y, w, v, n, rfl, ha, ho, k⟩ := h
    rfl
  · obtain ⟨a, y, w, v, n, rfl, ha, ho, k⟩ := h
    refine ⟨_, (pss_one (ps_ret (pe_make T.mkWord (ok_Word_DinitD T) (hr.mono (by decide)) (by rfl) T.g_Word (b_Word_DinitD T) .nil pX (pa_cons (pe_fld (pv 0) rfl) (pa_cons (pe_op op_xor (pe_fld (pv 0) rfl) (pe_call (ok_operand_value T) (hr.mono (by decide)) (by rfl) T.g_operand_value T.F_operand_value.choose_spec.kp (b_operand_value T) .nil pX (pa_cons (pv 0) (pa_cons (pv 1) pa_nil)))) pa_nil))))), ?_⟩
    walk_at "z_in"
    have clW := T.clWord
    have nW := T.na_Word_width
    have nV := T.na_Word_value
    have cvM := T.mw_Word.choose_spec
    have crM : ClX.CRead K (He.ga K "Word") (.type "type") := ⟨T.rd_Word, T.ga_Word⟩
    obtain ⟨h1, h2, h3, h4⟩ := id ha.1
    walk_at "z_go"
    refine use_opd ha ho ?_
    obtain ⟨_, _, h5, h6⟩ := id ho.in_
    walk_at "z_go"
    exact make_w (oxor_in ha.1 ho.in_) k

theorem ok_Word_DabsD (T : Txt K mg) : FnOk P w K mg base (L2.CX P w) 3 (He.ma K (He.ga K "Word") "__abs__") T.F_Word_DabsD.choose ["self"] (spWP (He.ga K "Word") fun w v => .int (ofar w v)) := by
  refine T.F_Word_DabsD.choose_spec.ok sc_Word_DabsD (fun vs H Q E h => ?_) (fun cdv A outer s H vs Q E hr h => ?_)
  · obtain ⟨a, w, v, rfl, ha, k⟩ := h
    rfl
  · obtain ⟨a, w, v, rfl, ha, k⟩ := h
    refine ⟨_, (pss_cons (ps_set (i := 1) sc_Word_DabsD.nd rfl (Or.inl rfl) (pe_call (ok_rest_of T) (hr.mono (by decide)) (by rfl) T.g_rest_of T.F_rest_of.choose_spec.kp (b_rest_of T) .nil pX (pa_cons (pe_fld (pv 0) rfl) (pa_cons (pe_fld (pv 0) rfl) pa_nil))))
    (pss_cons (ps_set (i := 2) sc_Word_DabsD.nd rfl (Or.inl rfl) (pe_op op_sub (pe_call (ok_top_of T) (hr.mono (by decide)) (by rfl) T.g_top_of T.F_top_of.choose_spec.kp (b_top_of T) .nil pX (pa_cons (pe_fld (pv 0) rfl) pa_nil)) (pv 1)))
    (pss_one (ps_ret (pe_ifExp (pt_cmpR op_lt (pv 1) (pv 2) (nomark _)) (pv 1) (pv 2)))))), ?_⟩
    walk_at "z_in"
    have clW := T.clWord
    have nW := T.na_Word_width
    have nV := T.na_Word_value
    have cvM := T.mw_Word.choose_spec
    have crM : ClX.CRead K (He.ga K "Word") (.type "type") := ⟨T.rd_Word, T.ga_Word⟩
    obtain ⟨h1, h2, h3, h4⟩ := id ha.1
    walk_at "z_go"
    refine use_rest ha.1 ?_
    walk_at "z_go"
    refine f_2 (fun h => ?_) (fun h => ?_)
    · walk_at "z_go"
      dsimp only at k
      rw [show ofar w v = orest w v from if_pos h] at k
      exact k
    · walk_at "z_go"
      dsimp only at k
      rw [show ofar w v = topI w - orest w v from if_neg h] at k
      exact k

theorem ok_Word_DinvertD (T : Txt K mg) : FnOk P w K mg base (L2.CX P w) 5 (He.ma K (He.ga K "Word") "__invert__") T.F_Word_DinvertD.choose ["self"] (spWW (He.ga K "Word") fun w v => topI w - v) := by
  refine T.F_Word_DinvertD.choose_spec.ok sc_Word_DinvertD (fun vs H Q E h => ?_) (fun cdv A outer s H vs Q E hr h => ?_)
  · obtain ⟨a, w, v, rfl, ha, k⟩ := h
    rfl
  · obtain ⟨a, w, v, rfl, ha, k⟩ := h
    refine ⟨_, (pss_one (ps_ret (pe_make T.mkWord (ok_Word_DinitD T) (hr.mono (by decide)) (by rfl) T.g_Word (b_Word_DinitD T) .nil pX (pa_cons (pe_fld (pv 0) rfl) (pa_cons (pe_op op_sub (pe_call (ok_top_of T) (hr.mono (by decide)) (by rfl) T.g_top_of T.F_top_of.choose_spec.kp (b_top_of T) .nil pX (pa_cons (pe_fld (pv 0) rfl) pa_nil)) (pe_fld (pv 0) rfl)) pa_nil))))), ?_⟩
    walk_at "z_in"
    have clW := T.clWord
    have nW := T.na_Word_width
    have nV := T.na_Word_value
    have cvM := T.mw_Word.choose_spec
    have crM : ClX.CRead K (He.ga K "Word") (.type "type") := ⟨T.rd_Word, T.ga_Word⟩
    obtain ⟨h1, h2, h3, h4⟩ := ha.1
    walk_at "z_go"
    exact make_w (comp_in ha.1) k

theorem ok_Word_DmulD (T : Txt K mg) : FnOk P w K mg base (L2.CX P w) 6 (He.ma K (He.ga K "Word") "__mul__") T.F_Word_DmulD.choose ["self", "other"] (spWT (He.ga K "Word") omul) := by
  refine T.F_Word_DmulD.choose_spec.ok sc_Word_DmulD (fun vs H Q E h => ?_) (fun cdv A outer s H vs Q E hr h => ?_)
  · obtain ⟨a, w, v, t, rfl, ha, h0, h1, k⟩ := h
    rfl
  · obtain ⟨a, w, v, t, rfl, ha, h0, h1, k⟩ := h
    refine ⟨_, (pss_cons (ps_expr (pe_call (ok_need_times T) (hr.mono (by decide)) (by rfl) T.g_need_times T.F_need_times.choose_spec.kp (b_need_times T) .nil pX (pa_cons (pv 1) pa_nil)))
    (pss_one (ps_ret (pe_call (ok_multiple_word T) (hr.mono (by decide)) (by rfl) T.g_multiple_word T.F_multiple_word.choose_spec.kp (b_multiple_word T) .nil pX (pa_cons (pe_fld (pv 0) rfl) (pa_cons (pe_fld (pv 0) rfl) (pa_cons (pv 1) pa_nil))))))), ?_⟩
    walk_at "z_in"
    have clW := T.clWord
    have nW := T.na_Word_width
    have nV := T.na_Word_value
    have cvM := T.mw_Word.choose_spec
    have crM : ClX.CRead K (He.ga K "Word") (.type "type") := ⟨T.rd_Word, T.ga_Word⟩
    walk_at "z_go"
    refine use_need h0 h1 ?_
    walk_at "z_go"
    exact use_mul ha.1 h0 (by omega) k

theorem ok_Word_DrmulD (T : Txt K mg) : FnOk P w K mg base (L2.CX P w) 6 (He.ma K (He.ga K "Word") "__rmul__") T.F_Word_DrmulD.choose ["self", "other"] (spWT (He.ga K "Word") omul) := by
  refine T.F_Word_DrmulD.choose_spec.ok sc_Word_DrmulD (fun vs H Q E h => ?_) (fun cdv A outer s H vs Q E hr h => ?_)
  · obtain ⟨a, w, v, t, rfl, ha, h0, h1, k⟩ := h
    rfl
  · obtain ⟨a, w, v, t, rfl, ha, h0, h1, k⟩ := h
    refine ⟨_, (pss_cons (ps_expr (pe_call (ok_need_times T) (hr.mono (by decide)) (by rfl) T.g_need_times T.F_need_times.choose_spec.kp (b_need_times T) .nil pX (pa_cons (pv 1) pa_nil)))
    (pss_one (ps_ret (pe_call (ok_multiple_word T) (hr.mono (by decide)) (by rfl) T.g_multiple_word T.F_multiple_word.choose_spec.kp (b_multiple_word T) .nil pX (pa_cons (pe_fld (pv 0) rfl) (pa_cons (pe_fld (pv 0) rfl) (pa_cons (pv 1) pa_nil))))))), ?_⟩
    walk_at "z_in"
    have clW := T.clWord
    have nW := T.na_Word_width
    have nV := T.na_Word_value
    have cvM := T.mw_Word.choose_spec
    have crM : ClX.CRead K (He.ga K "Word") (.type "type") := ⟨T.rd_Word, T.ga_Word⟩
    walk_at "z_go"
    refine use_need h0 h1 ?_
    walk_at "z_go"
    exact use_mul ha.1 h0 (by omega) k

theorem ok_Word_DlshiftD (T : Txt K mg) : FnOk P w K mg base (L2.CX P w) 6 (He.ma K (He.ga K "Word") "__lshift__") T.F_Word_DlshiftD.choose ["self", "other"] (spWT (He.ga K "Word") fun w v t => omul w v (2 ^ (t % w).toNat)) := by
  refine T.F_Word_DlshiftD.choose_spec.ok sc_Word_DlshiftD (fun vs H Q E h => ?_) (fun cdv A outer s H vs Q E hr h => ?_)
  · obtain ⟨a, w, v, t, rfl, ha, h0, h1, k⟩ := h
    rfl
  · obtain ⟨a, w, v, t, rfl, ha, h0, h1, k⟩ := h
    refine ⟨_, (pss_cons (ps_expr (pe_call (ok_need_times T) (hr.mono (by decide)) (by rfl) T.g_need_times T.F_need_times.choose_spec.kp (b_need_times T) .nil pX (pa_cons (pv 1) pa_nil)))
    (pss_one (ps_ret (pe_call (ok_multiple_word T) (hr.mono (by decide)) (by rfl) T.g_multiple_word T.F_multiple_word.choose_spec.kp (b_multiple_word T) .nil pX (pa_cons (pe_fld (pv 0) rfl) (pa_cons (pe_fld (pv 0) rfl) (pa_cons (pe_op op_shl pe_int (pe_op op_mod (pv 1) (pe_fld (pv 0) rfl))) pa_nil))))))), ?_⟩
    walk_at "z_in"
    have clW := T.clWord
    have nW := T.na_Word_width
    have nV := T.na_Word_value
    have cvM := T.mw_Word.choose_spec
    have crM : ClX.CRead K (He.ga K "Word") (.type "type") := ⟨T.rd_Word, T.ga_Word⟩
    obtain ⟨q1, q2, q3, q4⟩ := ha.1
    walk_at "z_go"
    refine use_need h0 h1 ?_
    have m1 := Int.emod_nonneg t (show w ≠ 0 by omega)
    have m2 := Int.emod_lt_of_pos t (show 0 < w by omega)
    walk_at "z_go"
    have e : (1 : Int) * 2 ^ (t % w).toNat = 2 ^ (t % w).toNat := Int.one_mul _
    rw [e]
    have b1 := pow64 (n := (t % w).toNat) (by omega)
    have b0 : (0 : Int) < 2 ^ (t % w).toNat := Int.pow_pos (by decide)
    exact use_mul ha.1 (by omega) (by omega) k

theorem ok_Word_DrshiftD (T : Txt K mg) : FnOk P w K mg base (L2.CX P w) 6 (He.ma K (He.ga K "Word") "__rshift__") T.F_Word_DrshiftD.choose ["self", "other"] (spWT (He.ga K "Word") fun w v t => omul w v (2 ^ ((-t) % w).toNat)) := by
  refine T.F_Word_DrshiftD.choose_spec.ok sc_Word_DrshiftD (fun vs H Q E h => ?_) (fun cdv A outer s H vs Q E hr h => ?_)
  · obtain ⟨a, w, v, t, rfl, ha, h0, h1, k⟩ := h
    rfl
  · obtain ⟨a, w, v, t, rfl, ha, h0, h1, k⟩ := h
    refine ⟨_, (pss_cons (ps_expr (pe_call (ok_need_times T) (hr.mono (by decide)) (by rfl) T.g_need_times T.F_need_times.choose_spec.kp (b_need_times T) .nil pX (pa_cons (pv 1) pa_nil)))
    (pss_one (ps_ret (pe_call (ok_multiple_word T) (hr.mono (by decide)) (by rfl) T.g_multiple_word T.F_multiple_word.choose_spec.kp (b_multiple_word T) .nil pX (pa_cons (pe_fld (pv 0) rfl) (pa_cons (pe_fld (pv 0) rfl) (pa_cons (pe_op op_shl pe_int (pe_op op_mod (pe_un un_neg (pv 1)) (pe_fld (pv 0) rfl))) pa_nil))))))), ?_⟩
    walk_at "z_in"
    have clW := T.clWord
    have nW := T.na_Word_width
    have nV := T.na_Word_value
    have cvM := T.mw_Word.choose_spec
    have crM : ClX.CRead K (He.ga K "Word") (.type "type") := ⟨T.rd_Word, T.ga_Word⟩
    obtain ⟨q1, q2, q3, q4⟩ := ha.1
    walk_at "z_go"
    refine use_need h0 h1 ?_
    have m1 := Int.emod_nonneg (-t) (show w ≠ 0 by omega)
    have m2 := Int.emod_lt_of_pos (-t) (show 0 < w by omega)
    walk_at "z_go"
    have e : (1 : Int) * 2 ^ ((-t) % w).toNat = 2 ^ ((-t) % w).toNat := Int.one_mul _
    rw [e]
    have b1 := pow64 (n := ((-t) % w).toNat) (by omega)
    have b0 : (0 : Int) < 2 ^ ((-t) % w).toNat := Int.pow_pos (by decide)
    exact use_mul ha.1 (by omega) (by omega) k

theorem ok_Word_DeqD (T : Txt K mg) : FnOk P w K mg base (L2.CX P w) 1 (He.ma K (He.ga K "Word") "__eq__") T.F_Word_DeqD.choose ["self", "other"] (spEqW (He.ga K "Word")) := by
  refine T.F_Word_DeqD.choose_spec.ok sc_Word_DeqD (fun vs H Q E h => ?_) (fun cdv A outer s H vs Q E hr h => ?_)
  · obtain ⟨a, b, w, v, w2, v2, rfl, ha, hb, k⟩ := h
    rfl
  · obtain ⟨a, b, w, v, w2, v2, rfl, ha, hb, k⟩ := h
    refine ⟨_, (pss_one (ps_ret (pe_and (pe_callB call_isi (by rfl) T.n_isinstance (by decide +kernel) (pa_cons (pv 1) (pa_cons (pe_glob (v := .ref (He.ga K "Word")) rfl T.g_Word rfl) pa_nil))) (pe_and (pe_cmpR op_eq (pe_fld (pv 0) rfl) (pe_fld (pv 1) rfl) (nomark _)) (pe_one (pe_cmpR op_eq (pe_fld (pv 0) rfl) (pe_fld (pv 1) rfl) (nomark _))))))), ?_⟩
    walk_at "z_in"
    have clW := T.clWord
    have nW := T.na_Word_width
    have nV := T.na_Word_value
    have cvM := T.mw_Word.choose_spec
    have crM : ClX.CRead K (He.ga K "Word") (.type "type") := ⟨T.rd_Word, T.ga_Word⟩
    walk_at "z_go"
    refine r_isiC (T.ty hb) T.kk_Word ?_
    walk_at "z_go"
    refine f_2 (fun h => ?_) (fun h => ?_)
    · walk_at "z_go"
      rw [show decide (w = w2 ∧ v = v2) = decide (v = v2) by simp [h]] at k
      exact k
    · walk_at "z_go"
      rw [show decide (w = w2 ∧ v = v2) = false by simp [h]] at k
      exact k

theorem ok_Word_DreprD (T : Txt K mg) : FnOk P w K mg base (L2.CX P w) 1 (He.ma K (He.ga K "Word") "__repr__") T.F_Word_DreprD.choose ["self"] (spWP (He.ga K "Word") fun w v => .str (wT w v)) := by
  refine T.F_Word_DreprD.choose_spec.ok sc_Word_DreprD (fun vs H Q E h => ?_) (fun cdv A outer s H vs Q E hr h => ?_)
  · obtain ⟨a, w, v, rfl, ha, k⟩ := h
    rfl
  · obtain ⟨a, w, v, rfl, ha, k⟩ := h
    refine ⟨_, (pss_one (ps_ret (pe_joinS (.cons pe_str (.cons (pe_fmt (pe_fld (pv 0) rfl)) (.cons pe_str (.cons (pe_fmt (pe_fld (pv 0) rfl)) (.cons pe_str .nil)))))))), ?_⟩
    walk_at "z_in"
    have clW := T.clWord
    have nW := T.na_Word_width
    have nV := T.na_Word_value
    have cvM := T.mw_Word.choose_spec
    have crM : ClX.CRead K (He.ga K "Word") (.type "type") := ⟨T.rd_Word, T.ga_Word⟩
    obtain ⟨h1, h2, h3, h4⟩ := id ha.1
    have tl := topI_lt h2
    have big : 1000 ≤ sizeLine := by decide
    have t1 := tok_len (i := w) (by omega) (by omega)
    have t2 := tok_len (i := v) h3 (by omega)
    have e1 : (("Word(" : String) : Str).length = 5 := rfl
    have e2 : ((", " : String) : Str).length = 2 := rfl
    have e3 : ((")" : String) : Str).length = 1 := rfl
    have e0 : Str.empty.length = 0 := rfl
    walk_at "z_go"
    refine v_js (by rw [strLen_append]; omega) ?_
    walk_at "z_go"
    refine v_fmtI (log_64 (by omega) (by omega)) ?_
    refine v_js (by rw [strLen_append, strLen_append]; omega) ?_
    walk_at "z_go"
    refine v_js (by rw [strLen_append, strLen_append, strLen_append]; omega) ?_
    walk_at "z_go"
    refine v_fmtI (log_64 h3 (by omega)) ?_
    refine v_js (by rw [strLen_append, strLen_append, strLen_append, strLen_append]; omega) ?_
    walk_at "z_go"
    refine v_js (by rw [strLen_append, strLen_append, strLen_append, strLen_append, strLen_append]; omega) ?_
    walk_at "z_go"
    exact k
theorem _law_heard_gives {X : Cx} (T : Txt X.K X.mg) {q : Str} {cdg : Value} : LamX.GivesTo X ["_law_ask", "_law_heard_here", "error"] "_law_heard" (defScope s__law_heard) (He.ga X.K "_law_heard") cdg (defBody s__law_heard) "_law_ask" q (TTh (He.ga X.K "BadWidth") (He.ga X.K "BadWord") (He.ga X.K "UnlikeWidths")) := by
  intro f c' s H Q tl act hc h
  refine ⟨_, pss_cons (ps_set (i := 1) sc__law_heard.nd rfl (Or.inl rfl) (pe_tup (pa_cons pe_str pa_nil))) (pss_cons (ps_try_ma (tb := fun W D σ H => ∃ Ech : XK, (∀ cls d σ' H', Ech cls d H' → W cls d σ' H') ∧ tAsg (tTup (tCons (tC (.str "made")) (tCons (fun σZ HZ Q => σZ[0]? = some (some (.ref f)) ∧ HZ c' = some (LamX.CodeO c' q) ∧ tl Ech HZ Q) tNil))) (gName 1) D σ H) rfl rfl sc__law_heard.nd LamX.takes0 (fun W pn xe tk _ => ⟨fun pins s' σ H' D I h' => ?_⟩) (.cons (i := 2) ⟨by rfl, by decide, .inl T.g_BadWidth⟩ rfl rfl (fun a oe cls d pn hz hf => pss_one (ps_set (i := 1) sc__law_heard.nd rfl (Or.inl rfl) (pe_tup (pa_cons pe_str (pa_cons (pe_xf (errQ_BadWidth T).xf T.en_BadWidth_width hz hf (pv 2)) pa_nil))))) (.cons (i := 2) ⟨by rfl, by decide, .inl T.g_BadWord⟩ rfl rfl (fun a oe cls d pn hz hf => pss_one (ps_set (i := 1) sc__law_heard.nd rfl (Or.inl rfl) (pe_tup (pa_cons pe_str (pa_cons (pe_xf (errQ_BadWord T).xf T.en_BadWord_value hz hf (pv 2)) pa_nil))))) (.cons (i := 2) ⟨by rfl, by decide, .inl T.g_UnlikeWidths⟩ rfl rfl (fun a oe cls d pn hz hf => pss_one (ps_set (i := 1) sc__law_heard.nd rfl (Or.inl rfl) (pe_tup (pa_cons pe_str (pa_cons (pe_xf (errQ_UnlikeWidths T).xf T.en_UnlikeWidths_one hz hf (pv 2)) (pa_cons (pe_xf (errQ_UnlikeWidths T).xf T.en_UnlikeWidths_other hz hf (pv 2)) pa_nil)))))) .nil)))) (pss_one (ps_ret (pv 1)))), ?_⟩
  · obtain ⟨Ech, hW, h3⟩ := h'
    exact (pss_one (ps_set (i := 1) sc__law_heard.nd rfl (Or.inl rfl) (pe_tup (pa_cons pe_str (pa_cons (act W pn xe Ech _ _ tk hW) pa_nil))))).run pins s' σ H' D I h3
  · walk_at "z_in"
    walk_at "z_go"
    rename_i l1 H1 f1 e1 h1
    dsimp only
    refine ⟨HearE (He.ga X.K "BadWidth") (He.ga X.K "BadWord") (He.ga X.K "UnlikeWidths") Q, ?_, ?_⟩
    · intro cls d σ' H' hE hlen
      obtain ⟨s0, s1, s2, rfl⟩ := len3 hlen
      rcases hE with ⟨rfl, dd, v, rfl, hd, k⟩ | ⟨rfl, dd, v, rfl, hd, k⟩ | ⟨rfl, dd, u, v, rfl, hd, k⟩
      · refine ⟨true, T.xm_BadWidth_BadWidth, fun _ a ha => ?_, fun z => nomatch z⟩
        dsimp only [List.set]
        walk_at "z_go"
        refine v_xf hd look1 ?_
        walk_at "z_go"
        rename_i p2 H2 f2 e2 h2
        exact k p2 H2 e2 h2
      · refine ⟨false, T.xm_BadWord_BadWidth, fun z => (nomatch z), fun _ => ⟨true, T.xm_BadWord_BadWord, fun _ a ha => ?_, fun z => nomatch z⟩⟩
        dsimp only [List.set]
        walk_at "z_go"
        refine v_xf hd look1 ?_
        walk_at "z_go"
        rename_i p2 H2 f2 e2 h2
        exact k p2 H2 e2 h2
      · refine ⟨false, T.xm_UnlikeWidths_BadWidth, fun z => (nomatch z), fun _ => ⟨false, T.xm_UnlikeWidths_BadWord, fun z => (nomatch z), fun _ => ⟨true, T.xm_UnlikeWidths_UnlikeWidths, fun _ a ha => ?_, fun z => nomatch z⟩⟩⟩
        dsimp only [List.set]
        walk_at "z_go"
        refine v_xf hd (look2 (by decide +kernel)) ?_
        walk_at "z_go"
        refine v_xf hd look1 ?_
        walk_at "z_go"
        rename_i p2 H2 f2 e2 h2
        exact k p2 H2 e2 h2
    · walk_at "z_go"
      refine ⟨e1.get hc, Eq.mp (congrArg (fun R => tl (HearE (He.ga X.K "BadWidth") (He.ga X.K "BadWord") (He.ga X.K "UnlikeWidths") Q) H1 R) ?_) (h H1 e1)⟩
      funext x H3
      apply propext
      constructor
      · rintro ⟨hl, k⟩
        exact ⟨hl, fun p hp => ⟨_, rfl, k p hp⟩⟩
      · rintro ⟨hl, k⟩
        refine ⟨hl, fun p hp => ?_⟩
        obtain ⟨v, e, q⟩ := k p hp
        cases e
        exact q

def evB (v : V) : Bool := match v with
  | .int i => decide (2 ≤ i) && (decide (i ≤ 64) && decide (i % 2 = 0))
  | _ => false
def Raises (C : Addr) (f : Str) (v : V) (H : Hp) (E : XK) : Prop := ∀ d, H d = none → E (.ref C) (some d) (upd H d (.xd [(f, v)]))
def spNeedE (K : PySem.W.Frag) : Sp := fun vs H Q E => ∃ v, vs = [v] ∧ KI K H v ∧ (evB v = true → Q .non H) ∧ (evB v = false → Raises (He.ga K "BadWidth") "width" v H E)
def hfI (w : Int) : Nat := (w / 2).toNat
def okH (w : Int) (x : V) : Bool := btw x 0 (1 * 2 ^ hfI w - 1)
def spPk (K : PySem.W.Frag) (R : VK → Int → List Int → Hp → Prop) : Sp := fun vs H Q E => ∃ v l xs, vs = [v, .ref l] ∧ SqL K H l xs ∧ xs.length < 40 ∧ KI K H v ∧ (∀ x ∈ xs, KI K H x) ∧ (evB v = false → Raises (He.ga K "BadWidth") "width" v H E) ∧
  (∀ w, v = .int w → evB v = true → ∀ (i : Nat) (x : V), xs[i]? = some x → (∀ (j : Nat), j < i → ∀ y, xs[j]? = some y → okH w y = true) → okH w x = false → Raises (He.ga K "BadWord") "value" x H E) ∧
  (∀ w hs, v = .int w → evB v = true → xs = hs.map V.int → (∀ y ∈ hs, 0 ≤ y ∧ y ≤ 2 ^ hfI w - 1) → R Q w hs H)
def RPk (C : Addr) (Q : VK) (w : Int) (hs : List Int) (H : Hp) : Prop := ∀ q as H', Ex H H' → H' q = some (.lst (as.map V.ref)) → Ws C H' w as (pk (hfI w) hs) → Q (.ref q) H'
def RTot (C : Addr) (Q : VK) (w : Int) (hs : List Int) (H : Hp) : Prop := ∀ x H', Ex H H' → IsW C H' x w (norm (topI w) (pk (hfI w) hs).sum) → Q (.ref x) H'
theorem evB_of {v : V} (h : evB v = true) : ∃ w, v = .int w ∧ 2 ≤ w ∧ w ≤ 64 ∧ w % 2 = 0 := by
  cases v with
  | int i =>
    obtain ⟨h1, h2⟩ := Bool.and_eq_true_iff.mp (show (decide (2 ≤ i) && (decide (i ≤ 64) && decide (i % 2 = 0))) = true from h)
    obtain ⟨h2, h3⟩ := Bool.and_eq_true_iff.mp h2
    exact ⟨i, rfl, of_decide_eq_true h1, of_decide_eq_true h2, of_decide_eq_true h3⟩
  | _ => cases h
theorem ok_need_even (T : Txt K mg) : FnOk P w K mg base (L2.CX P w) 3 (He.ga K "need_even") T.F_need_even.choose ["width"] (spNeedE K) := by
  refine T.F_need_even.choose_spec.ok sc_need_even (fun vs H Q E h => ?_) (fun cdv A outer s H vs Q E hr h => ?_)
  · obtain ⟨v, rfl, hk, k1, k2⟩ := h
    rfl
  · obtain ⟨v, rfl, hk, k1, k2⟩ := h
    refine ⟨_, (pss_one (ps_if (PW.pt (pw_or (pt_not (pt_val (pe_call (ok_is_between T) (hr.mono (by decide)) (by rfl) T.g_is_between T.F_is_between.choose_spec.kp (b_is_between T) .nil pX (pa_cons (pv 0) (pa_cons pe_int (pa_cons (ClX.pe_cval (pe_glob (v := .ref (He.ga K "Word")) rfl T.g_Word rfl)) pa_nil)))))) (pw_or1 (pt_cmpR op_eq (pe_op op_mod (pv 0) pe_int) pe_int (nomark _))))) (pss_one (ps_raise rfl pT (pmk_err (errI_BadWidth T) errS_BadWidth (errN_BadWidth T) (by decide) (by decide) (hr.mono (by decide)) rfl T.g_BadWidth (pa_cons (pv 0) pa_nil)))) pss_nil)), ?_⟩
    walk_at "z_in"
    have clW := T.clWord
    have nW := T.na_Word_width
    have nV := T.na_Word_value
    have cvM := T.mw_Word.choose_spec
    have crM : ClX.CRead K (He.ga K "Word") (.type "type") := ⟨T.rd_Word, T.ga_Word⟩
    walk_at "z_go"
    refine use_btwV hk ?_
    cases hb : btw v 2 64 with
    | false =>
      have e : evB v = false := by
        cases v with
        | int i =>
          have z : (decide (2 ≤ i) && decide (i ≤ 64)) = false := hb
          show (decide (2 ≤ i) && (decide (i ≤ 64) && decide (i % 2 = 0))) = false
          rw [← Bool.and_assoc, z]
          rfl
        | _ => rfl
      walk_at "z_go"
      exact k2 e
    | true =>
      obtain ⟨i, rfl, b1, b2⟩ := btw_int hb
      walk_at "z_go"
      refine f_2 (fun h => ?_) (fun h => ?_)
      · have e : evB (.int i) = false := by
          show (decide (2 ≤ i) && (decide (i ≤ 64) && decide (i % 2 = 0))) = false
          rw [decide_eq_false (show ¬ i % 2 = 0 by omega)]
          simp
        walk_at "z_go"
        exact k2 e
      · have e : evB (.int i) = true := by
          show (decide (2 ≤ i) && (decide (i ≤ 64) && decide (i % 2 = 0))) = true
          rw [decide_eq_true b1, decide_eq_true b2, decide_eq_true (show i % 2 = 0 by omega)]
          rfl
        walk_at "z_go"
        exact k1 e


theorem atI_getD {cs : List Int} {j : Nat} (h : j < cs.length) : atI (cs.map V.int) (j : Int) = some (.int (cs.getD j 0)) := by
  rw [atI_ints (by omega) (by omega)]
  simp only [Int.toNat_natCast]
  rw [List.getD_eq_getElem?_getD, List.getElem?_eq_getElem h]
  rfl
theorem getD_app0 (hs : List Int) (n j : Nat) : (hs ++ List.replicate n 0).getD j 0 = hs.getD j 0 := by
  rw [List.getD_eq_getElem?_getD, List.getD_eq_getElem?_getD]
  by_cases h : j < hs.length
  · rw [List.getElem?_append_left h]
  · rw [List.getElem?_append_right (by omega), List.getElem?_eq_none (l := hs) (by omega)]
    cases e : (List.replicate n (0 : Int))[j - hs.length]? with
    | none => rfl
    | some y =>
      have := List.eq_of_mem_replicate (List.mem_of_getElem? e)
      subst this
      rfl
theorem ok_packed (T : Txt K mg) : FnOk P w K mg base (L2.CX P w) 6 (He.ga K "packed") T.F_packed.choose ["width", "halves"] (spPk K (RPk (He.ga K "Word"))) := by
  refine T.F_packed.choose_spec.ok sc_packed (fun vs H Q E h => ?_) (fun cdv A outer s H vs Q E hr h => ?_)
  · obtain ⟨v, l, xs, rfl, hS, hl, hkv, hkx, kW, kV, kQ⟩ := h
    rfl
  · obtain ⟨v, l, xs, rfl, hS, hl, hkv, hkx, kW, kV, kQ⟩ := h
    refine ⟨_, (pss_cons (ps_expr (pe_call (ok_need_even T) (hr.mono (by decide)) (by rfl) T.g_need_even T.F_need_even.choose_spec.kp (b_need_even T) .nil pX (pa_cons (pv 0) pa_nil)))
    (pss_cons (ps_set (i := 2) sc_packed.nd rfl (Or.inr rfl) (pe_op op_fdivW (pv 0) pe_int))
    (pss_cons (ps_for pO rfl (pi_list (pv 1)) (pg_name (i := 3) sc_packed.nd rfl (Or.inl rfl))
    (pss_one (ps_if (pt_not (pt_val (pe_call (ok_is_between T) (hr.mono (by decide)) (by rfl) T.g_is_between T.F_is_between.choose_spec.kp (b_is_between T) .nil pX (pa_cons (pv 3) (pa_cons pe_int (pa_cons (pe_op op_sub (pe_op op_shl pe_int (pv 2)) pe_int) pa_nil)))))) (pss_one (ps_raise rfl pT (pmk_err (errI_BadWord T) errS_BadWord (errN_BadWord T) (by decide) (by decide) (hr.mono (by decide)) rfl T.g_BadWord (pa_cons (pv 3) pa_nil)))) pss_nil)))
    (pss_cons (ps_set (i := 4) sc_packed.nd rfl (Or.inr rfl) (pe_op op_cat (pe_callTy zc_list (by rfl) T.n_list (by decide +kernel) (pa_cons (pv 1) pa_nil)) (pe_op op_rep (pe_lst (pa_cons pe_int pa_nil)) (pe_op op_mod (pe_callB zc_len (by rfl) T.n_len PySem.boot_len (pa_cons (pv 1) pa_nil)) pe_int))))
    (pss_one (ps_ret (pe_lc (own := [("at", 5)]) (tt := tYes) (by rfl) sc_packed.nd (pi_range3 (by rfl) T.n_range (pa_cons pe_int (pa_cons (pe_callB zc_len (by rfl) T.n_len PySem.boot_len (pa_cons (pv 4) pa_nil)) (pa_cons pe_int pa_nil)))) (blkOk_by (own := [("at", 5)]) (N := ["width", "halves", "half", "value", "filled", "at"]) (sc := defScope s_packed) (by decide +kernel)) (fun _ _ _ _ _ => (pg_name (i := 5) sc_packed.nd rfl (Or.inl rfl))) (fun _ _ _ _ _ => pts_nil) (fun _ _ _ _ _ => (pe_make T.mkWord (ok_Word_DinitD T) (hr.mono (by decide)) (by rfl) T.g_Word (b_Word_DinitD T) .nil passL (pa_cons (pv 0) (pa_cons (pe_op op_add (pe_op op_shl (pe_ix (ixB (K := K) rfl) (pv 4) (pv 5) (fun _ _ => rfl)) (pv 2)) (pe_ix (ixB (K := K) rfl) (pv 4) (pe_op op_add (pv 5) pe_int) (fun _ _ => rfl))) pa_nil))))))))))), ?_⟩
    walk_at "z_in"
    have clW := T.clWord
    have nW := T.na_Word_width
    have nV := T.na_Word_value
    have cvM := T.mw_Word.choose_spec
    have crM : ClX.CRead K (He.ga K "Word") (.type "type") := ⟨T.rd_Word, T.ga_Word⟩
    walk_at "z_go"
    refine ⟨v, rfl, hkv, fun he => ?_, kW⟩
    obtain ⟨w, rfl, w1, w2, w3⟩ := evB_of he
    have kV' := kV w rfl he
    have kQ' := fun hs => kQ w hs rfl he
    clear kV kQ kW
    obtain ⟨hf, hhf⟩ : ∃ hf : Nat, hf = hfI w := ⟨_, rfl⟩
    have hw2 : w = 2 * (hf : Int) := by rw [hhf]; unfold hfI; omega
    have hd2 : w / 2 = (hf : Int) := by omega
    have p0 : (0 : Int) < 2 ^ hf := Int.pow_pos (by decide)
    have p1 : (2 : Int) ^ hf ≤ 2 ^ 32 := by
      have : (2 : Nat) ^ hf ≤ 2 ^ 32 := Nat.pow_le_pow_right (by decide) (by omega)
      exact_mod_cast this
    walk_at "z_go"
    rw [hd2]
    refine for_L hS (fun i σ H' => ∃ y, σ = [some (.int w), some (.ref l), some (.int hf), y, none, none] ∧ H' = H ∧ ∀ (j : Nat), j < i → ∀ y, xs[j]? = some y → okH w y = true) ⟨_, rfl, rfl, fun j hj => absurd hj (by omega)⟩ (fun i σ H' h => by obtain ⟨_, _, rfl, _⟩ := h; exact hS) ?_ ?_
    · rintro i x σ H' hx ⟨y, rfl, rfl, hall⟩
      have hxm := List.mem_of_getElem? hx
      walk_at "z_go"
      refine use_btwV (hkx x hxm) ?_
      rw [Int.toNat_natCast]
      have eb : okH w x = btw x 0 (1 * 2 ^ hf - 1) := by
        unfold okH
        rw [← hhf]
      cases hb : btw x 0 (1 * 2 ^ hf - 1) with
      | false =>
        walk_at "z_go"
        exact kV' i x hx hall (eb.trans hb)
      | true =>
        walk_at "z_go"
        intro j hj y hy
        by_cases hji : j = i
        · subst hji
          rw [hx] at hy
          cases hy
          exact eb.trans hb
        · exact hall j (by omega) y hy
    · rintro σ H' ⟨y, rfl, rfl, hall⟩
      obtain ⟨hs, rfl, hh⟩ := ints_of (P := fun n => 0 ≤ n ∧ n ≤ 2 ^ hfI w - 1) (xs := xs) (by
        intro x hx
        obtain ⟨j, hj⟩ := List.getElem?_of_mem hx
        have hlt := (List.getElem?_eq_some_iff.mp hj).1
        obtain ⟨n, rfl, h0, h1⟩ := btw_int (hall j hlt x hj)
        exact ⟨n, rfl, h0, by omega⟩)
      have kR := kQ' hs rfl hh
      rw [← hhf] at hh
      walk_at "z_go"
      rename_i l1 H1 f1 e1 h1 l2 H2 f2 e2 h2
      have hlen : hs.length < 40 := by simpa using hl
      have el : ((List.map V.int hs).length : Int) % 2 = ((hs.length % 2 : Nat) : Int) := by rw [List.length_map]; rfl
      rw [el]
      refine r_rep h2 (by omega) (by omega) (by rw [Int.toNat_natCast]; simp; omega) fun l3 H3 f3 e3 h3 => ?_
      rw [Int.toNat_natCast, rep_zero] at h3
      refine r_cat (by walk_at "z_hp") h3 (by simp; omega) fun l4 H4 f4 e4 h4 => ?_
      rw [← List.map_append] at h4
      obtain ⟨F, hF⟩ : ∃ F, F = hs ++ List.replicate (hs.length % 2) 0 := ⟨_, rfl⟩
      have gF : ∀ j, F.getD j 0 = hs.getD j 0 := fun j => by rw [hF]; exact getD_app0 _ _ _
      have lF : F.length = hs.length + hs.length % 2 := by rw [hF]; simp
      have bF : ∀ j, 0 ≤ hs.getD j 0 ∧ hs.getD j 0 ≤ 2 ^ hf - 1 := getD_all (P := fun y => 0 ≤ y ∧ y ≤ 2 ^ hf - 1) ⟨by omega, by omega⟩ hh
      rw [← hF] at h4
      clear hF h3 h2
      have e04 : Ex H' H4 := by walk_at "z_ex"
      walk_at "z_go"
      refine s_lc3 (m := F.length) (by omega) (fun R h => by (walk_at "z_go"); rw [List.length_map]; exact h) (fun L i H5 => ∃ as : List Addr, as.length = i ∧ H5 L = some (.lst (as.map V.ref)) ∧ Ws (He.ga K "Word") H5 w as ((List.range i).map (vp hf hs)) ∧ H5 l4 = some (.lst (F.map V.int)) ∧ Ex H4 H5) ?_ ?_ ?_
      · intro L H5 fL e5 h5
        exact ⟨[], rfl, h5, True.intro, e5.get h4, e5⟩
      · rintro L i H5 fL hi ⟨as, rfl, h5, w5, h54, e5⟩
        dsimp only [wipe, List.set, gName]
        refine ⟨rfl, ?_⟩
        refine s_yes (iteT ?_)
        obtain ⟨a0, a1⟩ := bF (2 * as.length)
        obtain ⟨c0, c1⟩ := bF (2 * as.length + 1)
        have aA := atI_getD (cs := F) (j := 2 * as.length) (by omega)
        have aB := atI_getD (cs := F) (j := 2 * as.length + 1) (by omega)
        rw [gF] at aA aB
        have ev : hs.getD (2 * as.length) 0 * 2 ^ (hf : Int).toNat + hs.getD (2 * as.length + 1) 0 = vp hf hs as.length := by rw [Int.toNat_natCast]; rfl
        walk_at "z_go"
        refine r_ixL (sql_of h54) aA ?_
        walk_at "z_go"
        have en : ((2 * as.length : Nat) : Int) + 1 = ((2 * as.length + 1 : Nat) : Int) := by omega
        rw [en]
        refine r_ixL (sql_of h54) aB ?_
        walk_at "z_go"
        rw [ev]
        refine make_w (vp_in hw2 (by omega) (by omega) hh _) fun x H6 e6 w6 => ?_
        refine lc_step (L := L) (acc := as.map V.ref) (e6.get h5) (by simp; omega) fun H7 e7 h7 => ?_
        have hl6 := e6.get h5
        refine ⟨as ++ [x], by simp, by rw [h7]; simp, ?_, e7.get (e6.get h54) (ne_of_none h4 fL), Ex.but (e5.trans e6) fL e7⟩
        rw [pk_succ]
        exact ((w5.ex e6).but e7 hl6).app ⟨w6.but e7 hl6, True.intro⟩
      · rintro L H5 fL ⟨as, hn, h5, w5, h54, e5⟩
        have en : (F.length + 1) / 2 = (hs.length + 1) / 2 := by omega
        rw [en] at w5
        refine kR L as H5 (e04.trans e5) h5 ?_
        rw [← hhf]
        exact w5

theorem ok_half_total (T : Txt K mg) : FnOk P w K mg base (L2.CX P w) 8 (He.ga K "half_total") T.F_half_total.choose ["width", "halves"] (spPk K (RTot (He.ga K "Word"))) := by
  refine T.F_half_total.choose_spec.ok sc_half_total (fun vs H Q E h => ?_) (fun cdv A outer s H vs Q E hr h => ?_)
  · obtain ⟨v, l, xs, rfl, hS, hl, hkv, hkx, kW, kV, kQ⟩ := h
    rfl
  · obtain ⟨v, l, xs, rfl, hS, hl, hkv, hkx, kW, kV, kQ⟩ := h
    refine ⟨_, (pss_cons (ps_set (i := 2) sc_half_total.nd rfl (Or.inl rfl) (pe_call (ok_packed T) (hr.mono (by decide)) (by rfl) T.g_packed T.F_packed.choose_spec.kp (b_packed T) .nil pX (pa_cons (pv 0) (pa_cons (pv 1) pa_nil))))
    (pss_cons (ps_set (i := 3) sc_half_total.nd rfl (Or.inl rfl) (pe_sm (pe_glob (v := .ref (He.ga K "Word")) rfl T.g_Word rfl) T.s_empty (ok_Word_empty T) (hr.mono (by decide)) (b_Word_empty T) pX (pa_cons (pv 0) pa_nil)))
    (pss_cons (ps_for pO rfl (pi_list (pv 2)) (pg_name (i := 4) sc_half_total.nd rfl (Or.inl rfl))
    (pss_one (ps_set (i := 3) sc_half_total.nd rfl (Or.inl rfl) (pe_op (op_oo (op := .Add) T.sf_Word T.wo_add T.i_Word_DaddD (ok_Word_DaddD T) (hr.mono (by decide)) (b_Word_DaddD T) pX) (pv 3) (pv 4)))))
    (pss_one (ps_ret (pv 3)))))), ?_⟩
    walk_at "z_in"
    have clW := T.clWord
    have nW := T.na_Word_width
    have nV := T.na_Word_value
    have cvM := T.mw_Word.choose_spec
    have crM : ClX.CRead K (He.ga K "Word") (.type "type") := ⟨T.rd_Word, T.ga_Word⟩
    walk_at "z_go"
    refine ⟨v, l, xs, rfl, hS, hl, hkv, hkx, kW, kV, fun w hs ew he exs hh => ?_⟩
    intro q as H1 e1 hq hW
    have kR := kQ w hs ew he exs hh
    unfold RTot at kR
    subst ew
    obtain ⟨w', e, w1, w2, w3⟩ := evB_of he
    cases e
    have hM := topI_pos (w := w) (by omega)
    walk_at "z_go"
    rename_i x0 H2 e2 hw0
    have hq2 := e2.get hq
    have hW2 := hW.ex e2
    have hin := hW2.in_
    have hla := hW2.len
    generalize pk (hfI w) hs = us at *
    refine for_L (sql_of hq2) (fun i σ H' => ∃ y x, σ = [some (.int w), some (.ref l), some (.ref q), some (.ref x), y] ∧ Ex H2 H' ∧ IsW (He.ga K "Word") H' x w (norm (topI w) (us.take i).sum)) ⟨_, _, rfl, Ex.refl _, by simpa [norm_zero] using hw0⟩ (fun i σ H' h => by obtain ⟨_, _, _, e, _⟩ := h; exact sql_of (e.get hq2)) ?_ ?_
    · rintro i z σ H3 hz ⟨y, x, rfl, e3, wx⟩
      rw [List.getElem?_map] at hz
      obtain ⟨a, ha, rfl⟩ := Option.map_eq_some_iff.mp hz
      obtain ⟨hi, ea⟩ := List.getElem?_eq_some_iff.mp ha
      obtain ⟨u, hu, wa⟩ := hW2.get i hi
      rw [ea] at wa
      have wa3 := wa.ex e3
      have uin := wa.1
      have s0 : 0 ≤ (us.take i).sum := sum_nn fun z hz => (hin z (List.mem_of_mem_take hz)).2.2.1
      walk_at "z_go"
      rename_i x4 H4 e4 w4
      refine ⟨_, _, rfl, e3.trans e4, ?_⟩
      have es : (us.take (i + 1)).sum = (us.take i).sum + u := by
        rw [List.take_succ, hu]
        simp
      rw [es, ← norm_addL (by omega) s0 uin.2.2.1, ← osum_norm wx.1 uin]
      exact w4
    · rintro σ H3 ⟨y, x, rfl, e3, wx⟩
      walk_at "z_go"
      rw [List.length_map, hla, List.take_length] at wx
      exact kR x H3 ((e1.trans e2).trans e3) wx


def spHalves (K : PySem.W.Frag) : Sp := fun vs H Q _ => ∃ (p : Addr) (w : Int) (n : Nat), vs = [.ref p, .int w] ∧ PenAt K H p (n + 40) ∧ evB (.int w) = true ∧ ∀ (l : Addr) (hs : List Int) (H' : Hp), Gr H H' → PenAt K H' p n → H' l = some (.lst (hs.map V.int)) → hs.length ≤ 9 → (∀ y ∈ hs, 0 ≤ y ∧ y ≤ 2 ^ hfI w - 1) → Q (.ref l) H'
def spVals : Sp := fun vs H Q _ => ∃ (w : Int) (l : Addr) (hs : List Int), vs = [.int w, .ref l] ∧ evB (.int w) = true ∧ H l = some (.lst (hs.map V.int)) ∧ hs.length ≤ 9 ∧ (∀ y ∈ hs, 0 ≤ y ∧ y ≤ 2 ^ hfI w - 1) ∧ ∀ q H', Ex H H' → H' q = some (.lst ((pk (hfI w) hs).map V.int)) → Q (.ref q) H'
def spTotal : Sp := fun vs H Q _ => ∃ (w : Int) (l : Addr) (us : List Int), vs = [.int w, .ref l] ∧ 1 ≤ w ∧ w ≤ 64 ∧ H l = some (.lst (us.map V.int)) ∧ Q (.int (norm (topI w) us.sum)) H
theorem ok__law_total (T : Txt K mg) : FnOk P w K mg base (L2.CX P w) 2 (He.ga K "_law_total") T.F__law_total.choose ["_law_width", "_law_values_here"] spTotal := by
  refine T.F__law_total.choose_spec.ok sc__law_total (fun vs H Q E h => ?_) (fun cdv A outer s H vs Q E hr h => ?_)
  · obtain ⟨w, l, us, rfl, h1, h2, hl, k⟩ := h
    rfl
  · obtain ⟨w, l, us, rfl, h1, h2, hl, k⟩ := h
    refine ⟨_, (pss_cons (ps_set (i := 2) sc__law_total.nd rfl (Or.inl rfl) (pe_callB (cr_sum rfl) (by rfl) T.n_sum (by decide +kernel) (pa_cons (pv 1) pa_nil)))
    (pss_one (ps_ret (pe_ifExp (pt_cmpR op_eq (pv 2) pe_int (nomark _)) pe_int (pe_op op_add (pe_op op_mod (pe_callTy zc_int (by rfl) T.n_int (by decide +kernel) (pa_cons (pe_op op_sub (pv 2) pe_int) pa_nil)) (pe_op op_sub (pe_op op_shl pe_int (pv 0)) pe_int)) pe_int))))), ?_⟩
    walk_at "z_in"
    have hM := topI_pos h1
    have te : (1 : Int) * 2 ^ w.toNat - 1 = topI w := by unfold topI; omega
    walk_at "z_go"
    unfold norm at k
    refine f_2 (fun h => ?_) (fun h => ?_)
    · rw [if_pos h] at k
      walk_at "z_go"
      exact k
    · rw [if_neg h] at k
      walk_at "z_go"
      rw [te]
      walk_at "z_go"
      exact k

theorem ok__law_values (T : Txt K mg) : FnOk P w K mg base (L2.CX P w) 2 (He.ga K "_law_values") T.F__law_values.choose ["_law_width", "_law_halves_here"] spVals := by
  refine T.F__law_values.choose_spec.ok sc__law_values (fun vs H Q E h => ?_) (fun cdv A outer s H vs Q E hr h => ?_)
  · obtain ⟨w, l, hs, rfl, he, hl, hlen, hh, k⟩ := h
    rfl
  · obtain ⟨w, l, hs, rfl, he, hl, hlen, hh, k⟩ := h
    refine ⟨_, (pss_cons (ps_par (i := 2) (j := 3) (by rfl) sc__law_values.nd rfl rfl (by decide) rfl rfl (pa_cons (pe_lst pa_nil) (pa_cons (pe_op op_fdivW (pv 0) pe_int) pa_nil)) (by rfl))
    (pss_cons (ps_for pO rfl (pi_range3 (by rfl) T.n_range (pa_cons pe_int (pa_cons (pe_callB zc_len (by rfl) T.n_len PySem.boot_len (pa_cons (pv 1) pa_nil)) (pa_cons pe_int pa_nil)))) (pg_name (i := 4) sc__law_values.nd rfl (Or.inl rfl))
    (pss_cons (ps_set (i := 5) sc__law_values.nd rfl (Or.inl rfl) (pe_ix ix_list (pe_op op_cat (pv 1) (pe_lst (pa_cons pe_int pa_nil))) (pe_op op_add (pv 4) pe_int) (fun _ _ => rfl)))
    (pss_one (ps_expr (pe_bm PySem.F.plainAttrs_list PySem.F.slot_list_append PySem.F.type_list_append mt_append (pv 2) (pa_cons (pe_op op_add (pe_op op_shl (pe_ix ix_list (pv 1) (pv 4) (fun _ _ => rfl)) (pv 3)) (pv 5)) pa_nil))))))
    (pss_one (ps_ret (pv 2))))), ?_⟩
    walk_at "z_in"
    obtain ⟨w', e, w1, w2, w3⟩ := evB_of he
    cases e
    obtain ⟨hf, hhf⟩ : ∃ hf : Nat, hf = hfI w := ⟨_, rfl⟩
    have hd2 : w / 2 = (hf : Int) := by rw [hhf]; unfold hfI; omega
    have p0 : (0 : Int) < 2 ^ hf := Int.pow_pos (by decide)
    have p1 : (2 : Int) ^ hf ≤ 2 ^ 32 := by
      have : (2 : Nat) ^ hf ≤ 2 ^ 32 := Nat.pow_le_pow_right (by decide) (by omega)
      exact_mod_cast this
    rw [← hhf] at hh k
    have bF : ∀ j, 0 ≤ hs.getD j 0 ∧ hs.getD j 0 ≤ 2 ^ hf - 1 := getD_all (P := fun y => 0 ≤ y ∧ y ≤ 2 ^ hf - 1) ⟨by omega, by omega⟩ hh
    walk_at "z_go"
    rename_i l1 H1 f1 e1 h1
    rw [hd2]
    refine s_for3 (m := hs.length) (by omega) (fun R h => by (walk_at "z_go"); rw [List.length_map]; exact h) (fun i σ H' => ∃ y z, σ = [some (.int w), some (.ref l), some (.ref l1), some (.int hf), y, z] ∧ H' l1 = some (.lst (((List.range i).map (vp hf hs)).map V.int)) ∧ H' l = some (.lst (hs.map V.int)) ∧ Ex H H') ⟨_, _, rfl, h1, e1.get hl, e1⟩ ?_ ?_
    · rintro i σ H2 hi ⟨y, z, rfl, h2, hl2, e2⟩
      obtain ⟨a0, a1⟩ := bF (2 * i)
      obtain ⟨c0, c1⟩ := bF (2 * i + 1)
      have aA := atI_getD (cs := hs) (j := 2 * i) (by omega)
      have aB := atI_getD (cs := hs ++ [0]) (j := 2 * i + 1) (by simp; omega)
      have g0 : (hs ++ [0]).getD (2 * i + 1) 0 = hs.getD (2 * i + 1) 0 := getD_app0 hs 1 _
      rw [g0] at aB
      have ev : hs.getD (2 * i) 0 * 2 ^ (hf : Int).toNat + hs.getD (2 * i + 1) 0 = vp hf hs i := by rw [Int.toNat_natCast]; rfl
      walk_at "z_go"
      rename_i l3 H3 f3 e3 h3
      refine r_cat (by walk_at "z_hp") h3 (by simp; omega) fun l4 H4 f4 e4 h4 => ?_
      have ea : hs.map V.int ++ [V.int 0] = (hs ++ [0]).map V.int := by rw [List.map_append]; rfl
      rw [ea] at h4
      walk_at "z_go"
      have en : ((2 * i : Nat) : Int) + 1 = ((2 * i + 1 : Nat) : Int) := by omega
      rw [en]
      refine r_ixL (sql_of h4) aB ?_
      walk_at "z_go"
      refine r_ixL (sql_of (e4.get (e3.get hl2))) aA ?_
      walk_at "z_go"
      rw [ev]
      have h24 := e4.get (e3.get h2)
      refine r_app h24 (by simp; omega) fun H5 e5 h5 => ?_
      walk_at "z_go"
      refine ⟨_, _, rfl, ?_, e5.get (e4.get (e3.get hl2)) (ne_of_none hl f1), Ex.but ((e2.trans e3).trans e4) f1 e5⟩
      rw [h5, pk_succ]
      simp
    · rintro σ H2 ⟨y, z, rfl, h2, hl2, e2⟩
      walk_at "z_go"
      exact k l1 H2 e2 h2

theorem ok__law_halves (T : Txt K mg) : FnOk P w K mg base (L2.CX P w) 2 (He.ga K "_law_halves") T.F__law_halves.choose ["_law_pen_here", "_law_width"] (spHalves K) := by
  refine T.F__law_halves.choose_spec.ok sc__law_halves (fun vs H Q E h => ?_) (fun cdv A outer s H vs Q E hr h => ?_)
  · obtain ⟨p, w, n, rfl, hp, he, k⟩ := h
    rfl
  · obtain ⟨p, w, n, rfl, hp, he, k⟩ := h
    refine ⟨_, (pss_cons (ps_par (i := 2) (j := 3) (by rfl) sc__law_halves.nd rfl rfl (by decide) rfl rfl (pa_cons (pe_op op_sub (pe_op op_shl pe_int (pe_op op_fdivW (pv 1) pe_int)) pe_int) (pa_cons (pe_call (ok__law_draw T) (hr.mono (by decide)) (by rfl) T.g__law_draw T.F__law_draw.choose_spec.kp (b__law_draw T) .nil pX (pa_cons (pv 0) (pa_cons pe_int pa_nil))) pa_nil)) (by rfl))
    (pss_cons (ps_set (i := 4) sc__law_halves.nd rfl (Or.inl rfl) (pe_lst pa_nil))
    (pss_cons (ps_for pO rfl (pi_range1 (by rfl) T.n_range (pa_cons (pe_call (ok__law_draw T) (hr.mono (by decide)) (by rfl) T.g__law_draw T.F__law_draw.choose_spec.kp (b__law_draw T) .nil pX (pa_cons (pv 0) (pa_cons pe_int pa_nil))) pa_nil)) (pg_name (i := 5) sc__law_halves.nd rfl (Or.inl rfl))
    (pss_cons (ps_set (i := 6) sc__law_halves.nd rfl (Or.inl rfl) (pe_op op_andM (pe_op op_add (pe_op op_mul (pe_call (ok__law_draw T) (hr.mono (by decide)) (by rfl) T.g__law_draw T.F__law_draw.choose_spec.kp (b__law_draw T) .nil pX (pa_cons (pv 0) (pa_cons pe_int pa_nil))) pe_int) (pe_call (ok__law_draw T) (hr.mono (by decide)) (by rfl) T.g__law_draw T.F__law_draw.choose_spec.kp (b__law_draw T) .nil pX (pa_cons (pv 0) (pa_cons pe_int pa_nil)))) (pv 2)))
    (pss_one (ps_expr (pe_bm PySem.F.plainAttrs_list PySem.F.slot_list_append PySem.F.type_list_append mt_append (pv 4) (pa_cons (pe_ix ix_list (pe_lst (pa_cons pe_int (pa_cons (pv 2) (pa_cons (pv 6) (pa_cons (pv 6) (pa_cons (pe_ix ix_list (pe_lst (pa_cons pe_int (pa_cons (pv 2) (pa_cons (pv 6) pa_nil)))) (pe_call (ok__law_draw T) (hr.mono (by decide)) (by rfl) T.g__law_draw T.F__law_draw.choose_spec.kp (b__law_draw T) .nil pX (pa_cons (pv 0) (pa_cons pe_int pa_nil))) (fun _ _ => rfl)) pa_nil)))))) (pv 3) (fun _ _ => rfl)) pa_nil))))))
    (pss_one (ps_ret (pv 4)))))), ?_⟩
    walk_at "z_in"
    obtain ⟨w', e, w1, w2, w3⟩ := evB_of he
    cases e
    obtain ⟨hf, hhf⟩ : ∃ hf : Nat, hf = hfI w := ⟨_, rfl⟩
    have hd2 : w / 2 = (hf : Int) := by rw [hhf]; unfold hfI; omega
    have p0 : (0 : Int) < 2 ^ hf := Int.pow_pos (by decide)
    have p1 : (2 : Int) ^ hf ≤ 2 ^ 32 := by
      have : (2 : Nat) ^ hf ≤ 2 ^ 32 := Nat.pow_le_pow_right (by decide) (by omega)
      exact_mod_cast this
    rw [← hhf] at k
    walk_at "z_go"
    rw [hd2]
    walk_at "z_go"
    refine use_draw (n := n + 39) hp (by decide) (by decide) fun way H1 g1 p1' d0 d1 => ?_
    walk_at "z_go"
    rename_i l2 H2 f2 e2 h2
    have e1 : (1 : Int) * 2 ^ (hf : Int).toNat = 2 ^ hf := by rw [Int.toNat_natCast, Int.one_mul]
    rw [e1]
    unfold tFor iRng1
    walk_at "z_go"
    refine use_draw (n := n + 38) (p1'.ex e2) (by decide) (by decide) fun many H3 g3 p3 m0 m1 => ?_
    have h3 : H3 l2 = some (.lst (([] : List Int).map V.int)) := g3.get h2 rfl
    obtain ⟨m, rfl⟩ : ∃ m : Nat, many = (m : Int) := ⟨many.toNat, by omega⟩
    have f2' : H l2 = none := by
      cases q : H l2 with
      | none => rfl
      | some o =>
        exfalso
        have z := g1 l2 o q
        unfold penTo at z
        split at z
        · obtain ⟨_, _, z⟩ := z
          rw [z] at f2
          cases f2
        · rw [z] at f2
          cases f2
    refine ⟨_, rfl, by omega, by omega, for_range (lo := 0) (n := m) (fun i σ H' => ∃ y z, ∃ hs : List Int, σ = [some (.ref p), some (.int w), some (.int (2 ^ hf - 1)), some (.int way), some (.ref l2), y, z] ∧ hs.length = i ∧ (∀ y ∈ hs, 0 ≤ y ∧ y ≤ 2 ^ hf - 1) ∧ H' l2 = some (.lst (hs.map V.int)) ∧ PenAt K H' p (n + 38 - 3 * i) ∧ Gr H H') ⟨_, _, [], rfl, rfl, by simp, h3, p3, (g1.trans e2.gr).trans g3⟩ ?_ ?_⟩
    · rintro i σ H4 hi ⟨y, z, hs, rfl, rfl, hh, h4, p4, g4⟩
      obtain ⟨c, hc⟩ : ∃ c, n + 38 - 3 * hs.length = c + 3 := ⟨n + 38 - 3 * hs.length - 3, by omega⟩
      rw [hc] at p4
      walk_at "z_go"
      refine use_draw (n := c + 2) p4 (by decide) (by decide) fun hi' H5 g5 p5 a0 a1 => ?_
      walk_at "z_go"
      refine use_draw (n := c + 1) p5 (by decide) (by decide) fun lo' H6 g6 p6 b0 b1 => ?_
      walk_at "z_go"
      refine ⟨_, hf, rfl, rfl, ?_⟩
      have s0 := Int.emod_nonneg (hi' * 65537 + lo') (show (2 : Int) ^ hf ≠ 0 by omega)
      have s1 := Int.emod_lt_of_pos (hi' * 65537 + lo') p0
      generalize (hi' * 65537 + lo') % 2 ^ hf = so at *
      walk_at "z_go"
      refine use_draw (n := c) (by walk_at "z_pe") (by decide) (by decide) fun th H8 g8 p8 t0 t1 => ?_
      rename_i l7 H7 f7 e7 h7
      have mm : ∀ (a b : Int), (0 ≤ a ∧ a ≤ 2 ^ hf - 1) → ∀ x ∈ [0, 2 ^ hf - 1, b, b, a], (0 ≤ b ∧ b ≤ 2 ^ hf - 1) → 0 ≤ x ∧ x ≤ 2 ^ hf - 1 := by
        intro a b ha x hx hb
        simp only [List.mem_cons, List.not_mem_nil, or_false] at hx
        omega
      obtain ⟨v1, hv1, q1, q2⟩ := ix_all (xs := [0, 2 ^ hf - 1, so]) (P := fun v => 0 ≤ v ∧ v ≤ 2 ^ hf - 1) (by intro x hx; simp only [List.mem_cons, List.not_mem_nil, or_false] at hx; omega) t0 t1
      refine r_ixL (sql_of (g8.get h7 rfl)) hv1 ?_
      walk_at "z_go"
      rename_i l9 H9 f9 e9 h9
      obtain ⟨v2, hv2, q3, q4⟩ := ix_all (xs := [0, 2 ^ hf - 1, so, so, v1]) (P := fun v => 0 ≤ v ∧ v ≤ 2 ^ hf - 1) (fun x hx => mm v1 so ⟨q1, q2⟩ x hx ⟨s0, by omega⟩) d0 d1
      refine r_ixL (sql_of h9) hv2 ?_
      walk_at "z_go"
      have h49 : H9 l2 = some (.lst (hs.map V.int)) := by walk_at "z_hp"
      have g9 : Gr H H9 := by walk_at "z_gr"
      have p9 : PenAt K H9 p c := by walk_at "z_pe"
      refine r_app h49 (by simp; omega) fun H10 e10 h10 => ?_
      walk_at "z_go"
      refine ⟨_, _, hs ++ [v2], rfl, by simp, ?_, by rw [h10]; simp, (hp.but g9 p9 f2' e10).mono (by simp; omega), g9.but f2' e10⟩
      intro u hu
      rcases List.mem_append.mp hu with hu | hu
      · exact hh u hu
      · rw [List.mem_singleton.mp hu]
        exact ⟨q3, q4⟩
    · rintro σ H4 ⟨y, z, hs, rfl, hn, hh, h4, p4, g4⟩
      walk_at "z_go"
      exact k l2 hs H4 g4 (p4.mono (by omega)) h4 (by omega) hh


theorem odd_but {C l : Addr} {H H' : Hp} {v : V} {t : Str} {xs : List V} (e : But l H H') (hl : H l = some (.lst xs)) (h : Odd C H v t) : Odd C H' v t := by
  cases h with
  | int h => exact .int h
  | bl => exact .bl
  | non => exact .non
  | str h => exact .str h
  | word h => exact .word (h.but e hl)
def AllOdd (C : Addr) (H : Hp) (xs : List V) : Prop := ∀ x ∈ xs, ∃ t, Odd C H x t
theorem AllOdd.tx {C : Addr} {H H' : Hp} {xs : List V} (e : Tx H H') (h : AllOdd C H xs) : AllOdd C H' xs := fun x hx => let ⟨t, o⟩ := h x hx; ⟨t, o.tx e⟩
theorem Txt.oki (T : Txt K mg) {H : Hp} {v : V} {t : Str} (h : Odd (He.ga K "Word") H v t) : KI K H v := by
  cases h with
  | int h => exact ki_int _
  | bl => exact ki_bl _
  | non => exact ki_non
  | str h => exact ki_str _
  | word h => exact T.ki h
theorem odd_shw {X : Cx} {CX : CXT} {k : Nat} {C f : Addr} {fd : FuncData} {ps : List Str} {E : XK} {H : Hp} {v : V} {t : Str} (O : Own X CX k C f fd ps (spWP C fun w v => .str (wT w v)) E) (h : Odd C H v t) : Shw X k [] H v t := by
  have big : 1000 ≤ sizeLine := by decide
  cases h with
  | int h => exact .int (log_100 h)
  | bl => exact .bl
  | non => exact .non
  | str h => exact .str (by omega)
  | word h => exact shw_words O h
theorem tupleText_le (ts : List Str) (h : ts ≠ []) : (tupleText ts).length ≤ piled ts + 1 := by
  have e := join_length_add ts h
  unfold tupleText
  rw [strLen_append, strLen_append]
  have e1 : ((("(" : String) : Str)).length = 1 := rfl
  have e3 : (((if ts.length == 1 then ",)" else ")" : String) : Str)).length ≤ 2 := by split <;> decide
  omega
/-- a tuple of a short text and a value, shown -/
theorem tell_shw {X : Cx} {CX : CXT} {k : Nat} {C f p : Addr} {fd : FuncData} {ps : List Str} {E : XK} {H : Hp} {v : V} {t z : Str} (hG : X.A.guards = some []) (hr : Room (k + 2) X.A) (O : Own X CX k C f fd ps (spWP C fun w v => .str (wT w v)) E) (h : Odd C H v t) (hz : (reprText z).length ≤ 100) (hp : H p = some (.tup [.str z, v])) : ShwT X H (.ref p) (tupleText [reprText z, t]) := by
  have big : 1000 ≤ sizeLine := by decide
  have l1 := h.len
  refine ShwT.tup (as := []) hG hr (sqt_of hp) (.cons (.str (by omega)) (.cons (odd_shw O h) .nil)) (by simp) ?_
  have := tupleText_le [reprText z, t] (by simp)
  simp only [piled, List.map_cons, List.map_nil, List.sum_cons, List.sum_nil] at this
  omega
theorem first_bad {P : V → Bool} {pre post : List V} {x0 : V} (hpre : ∀ y ∈ pre, P y = true) (h0 : P x0 = false) (i : Nat) (x : V) (hx : (pre ++ x0 :: post)[i]? = some x) (hall : ∀ (j : Nat), j < i → ∀ y, (pre ++ x0 :: post)[j]? = some y → P y = true) (hb : P x = false) : x = x0 := by
  have at0 : (pre ++ x0 :: post)[pre.length]? = some x0 := by simp
  by_cases h1 : i < pre.length
  · rw [List.getElem?_append_left h1] at hx
    have := hpre x (List.mem_of_getElem? hx)
    rw [hb] at this
    cases this
  · by_cases h2 : i = pre.length
    · rw [h2, at0] at hx
      exact (Option.some.inj hx).symm
    · have := hall pre.length (by omega) x0 at0
      rw [h0] at this
      cases this
theorem ix_any {xs : List V} {P : V → Prop} {k : Int} (h : ∀ x ∈ xs, P x) (h0 : 0 ≤ k) (h1 : k < xs.length) : ∃ v, atI xs k = some v ∧ P v :=
  ⟨_, atI_lt h0 h1, h _ (List.getElem_mem _)⟩
def spBentR (K : PySem.W.Frag) : Sp := fun vs H Q _ => ∃ (p : Addr) (w : Int) (l : Addr) (hs : List Int) (n : Nat), vs = [.ref p, .int w, .ref l] ∧ PenAt K H p (n + 4) ∧ evB (.int w) = true ∧ H l = some (.lst (hs.map V.int)) ∧ hs.length ≤ 9 ∧ (∀ y ∈ hs, 0 ≤ y ∧ y ≤ 2 ^ hfI w - 1) ∧ LamX.Tabs (lamT K) H ∧ ∀ H', PenAt K H' p n → LamX.Tabs (lamT K) H' → Q (.bl true) H'
theorem ok__law_bent_right (T : Txt K mg) (TB : TBs K mg base) : FnG P w K mg base 12 (He.ga K "_law_bent_right") T.F__law_bent_right.choose ["_law_pen_here", "_law_width", "_law_halves_here"] (spBentR K) := by
  refine okGL T.F__law_bent_right.choose_spec sc__law_bent_right T.cb__law_bent_right (fun vs H Q E h => ?_) (fun A outer s H vs Q E hr hG h => ?_)
  · obtain ⟨p, w, l, hs, n, rfl, hp, he, hl, hlen, hh, hT, k⟩ := h
    rfl
  · obtain ⟨p, w, l, hs, n, rfl, hp, he, hl, hlen, hh, hT, k⟩ := h
    refine ⟨_, (pss_cons (ps_set (i := 10) sc__law_bent_right.nd rfl (Or.inr rfl) (pe_ix ix_list (pe_lst (pa_cons pe_int (pa_cons pe_int (pa_cons pe_int (pa_cons pe_int (pa_cons pe_int (pa_cons pe_int (pa_cons pe_non (pa_cons pe_bl (pa_cons pe_str pa_nil)))))))))) (pe_call (ok__law_draw T) (hr.mono (by decide)) (by rfl) T.g__law_draw T.F__law_draw.choose_spec.kp (b__law_draw T) .nil pX (pa_cons (pv 0) (pa_cons pe_int pa_nil))) (fun _ _ => rfl)))
    (pss_cons (ps_set (i := 3) sc__law_bent_right.nd rfl (Or.inl rfl) (pe_lst (pa_cons (pe_op op_shl pe_int (pe_op op_fdivW (pv 1) pe_int)) (pa_cons (pe_un un_neg pe_int) (pa_cons pe_non (pa_cons pe_bl (pa_cons (pe_make T.mkWord (ok_Word_DinitD T) (hr.mono (by decide)) (by rfl) T.g_Word (b_Word_DinitD T) .nil pX (pa_cons (pv 1) (pa_cons pe_int pa_nil))) (pa_cons pe_str pa_nil))))))))
    (pss_cons (ps_set (i := 4) sc__law_bent_right.nd rfl (Or.inl rfl) (pe_ix ix_list (pv 3) (pe_call (ok__law_draw T) (hr.mono (by decide)) (by rfl) T.g__law_draw T.F__law_draw.choose_spec.kp (b__law_draw T) .nil pX (pa_cons (pv 0) (pa_cons pe_int pa_nil))) (fun _ _ => rfl)))
    (pss_cons (ps_set (i := 5) sc__law_bent_right.nd rfl (Or.inl rfl) (pe_call (ok__law_draw T) (hr.mono (by decide)) (by rfl) T.g__law_draw T.F__law_draw.choose_spec.kp (b__law_draw T) .nil pX (pa_cons (pv 0) (pa_cons (pe_op op_add (pe_callB zc_len (by rfl) T.n_len PySem.boot_len (pa_cons (pv 2) pa_nil)) pe_int) pa_nil))))
    (pss_cons (ps_set (i := 8) sc__law_bent_right.nd rfl (Or.inr rfl) (pe_op op_cat (pe_op op_cat (pe_slice sl_list (pv 2) po_none (po_some (pv 5))) (pe_lst (pa_cons (pv 4) pa_nil))) (pe_slice sl_list (pv 2) (po_some (pv 5)) po_none)))
    (pss_cons (ps_set (i := 8) sc__law_bent_right.nd rfl (Or.inr rfl) (pe_op op_cat (pv 8) (pe_op op_rep (pe_lst (pa_cons (pe_un un_neg pe_int) pa_nil)) (pe_call (ok__law_draw T) (hr.mono (by decide)) (by rfl) T.g__law_draw T.F__law_draw.choose_spec.kp (b__law_draw T) .nil pX (pa_cons (pv 0) (pa_cons pe_int pa_nil))))))
    (pss_cons (ps_set (i := 6) sc__law_bent_right.nd rfl (Or.inl rfl) (pe_lst (pa_cons (pe_tup (pa_cons (pe_tup (pa_cons pe_str (pa_cons (pv 10) pa_nil))) (pa_cons (pv 10) pa_nil))) pa_nil)))
    (pss_cons (ps_expr (pe_bm PySem.F.plainAttrs_list PySem.F.slot_list_append PySem.F.type_list_append mt_append (pv 6) (pa_cons (pe_tup (pa_cons (pe_tup (pa_cons pe_str (pa_cons (pv 4) pa_nil))) (pa_cons (pv 1) pa_nil))) pa_nil)))
    (pss_cons (ps_for pO rfl (pi_list (pv 6)) (pg_tup (by rfl) (pgs_cons (pg_name (i := 7) sc__law_bent_right.nd rfl (Or.inl rfl)) (pgs_cons (pg_name (i := 9) sc__law_bent_right.nd rfl (Or.inr rfl)) pgs_nil)))
    (pss_cons (ps_if (pt_cmpR op_ne (pe_callB call_reprS (by rfl) T.n_repr (by decide +kernel) (pa_cons (pe_lamF (k := 8) (T := lamT K) (c := codeAd K (He.ga K "_law_bent_right")) (P := tabAd K (He.ga K "_law_bent_right")) T.F__law_heard.choose_spec (b__law_heard T) (by rfl) T.g__law_heard sc__law_heard rfl (.inl rfl) (fun cdv => _law_heard_gives T) (TB _ (.head _)) rfl (.head _) (fun p hp _ => by rw [List.mem_singleton.mp hp]; rfl) (hr.mono (by decide)) (LamX.lamS_by (sc := defScope s__law_bent_right) (by decide +kernel)) rfl (fun _ _ _ _ _ => rfl) (fun A_ o_ s_ H_ E_ f_ c_ hr => (pe_call (ok_packed T) (hr.mono (by decide)) (by rfl) T.g_packed T.F_packed.choose_spec.kp (b_packed T) .nil lX (pa_cons (pv 9) (pa_cons (pv 8) pa_nil))))) pa_nil)) (pe_callB call_reprS (by rfl) T.n_repr (by decide +kernel) (pa_cons (pv 7) pa_nil)) (nomark _)) (pss_one (ps_ret pe_bl)) pss_nil)
    (pss_one (ps_if (pt_cmpR op_ne (pe_callB call_reprS (by rfl) T.n_repr (by decide +kernel) (pa_cons (pe_lamF (k := 8) (T := lamT K) (c := codeAd K (He.ga K "_law_bent_right")) (P := tabAd K (He.ga K "_law_bent_right")) T.F__law_heard.choose_spec (b__law_heard T) (by rfl) T.g__law_heard sc__law_heard rfl (.inl rfl) (fun cdv => _law_heard_gives T) (TB _ (.head _)) rfl (.head _) (fun p hp _ => by rw [List.mem_singleton.mp hp]; rfl) (hr.mono (by decide)) (LamX.lamS_by (sc := defScope s__law_bent_right) (by decide +kernel)) rfl (fun _ _ _ _ _ => rfl) (fun A_ o_ s_ H_ E_ f_ c_ hr => (pe_call (ok_half_total T) (hr.mono (by decide)) (by rfl) T.g_half_total T.F_half_total.choose_spec.kp (b_half_total T) .nil lX (pa_cons (pv 9) (pa_cons (pv 8) pa_nil))))) pa_nil)) (pe_callB call_reprS (by rfl) T.n_repr (by decide +kernel) (pa_cons (pv 7) pa_nil)) (nomark _)) (pss_one (ps_ret pe_bl)) pss_nil))))
    (pss_one (ps_ret (pe_cmpR op_eq (pe_callB call_reprS (by rfl) T.n_repr (by decide +kernel) (pa_cons (pe_lamF (k := 8) (T := lamT K) (c := codeAd K (He.ga K "_law_bent_right")) (P := tabAd K (He.ga K "_law_bent_right")) T.F__law_heard.choose_spec (b__law_heard T) (by rfl) T.g__law_heard sc__law_heard rfl (.inl rfl) (fun cdv => _law_heard_gives T) (TB _ (.head _)) rfl (.head _) (fun p hp _ => by rw [List.mem_singleton.mp hp]; rfl) (hr.mono (by decide)) (LamX.lamS_by (sc := defScope s__law_bent_right) (by decide +kernel)) rfl (fun _ _ _ _ _ => rfl) (fun A_ o_ s_ H_ E_ f_ c_ hr => (pe_call (ok_packed T) (hr.mono (by decide)) (by rfl) T.g_packed T.F_packed.choose_spec.kp (b_packed T) .nil lX (pa_cons (pv 10) (pa_cons (pv 2) pa_nil))))) pa_nil)) (pe_callB call_reprS (by rfl) T.n_repr (by decide +kernel) (pa_cons (pe_tup (pa_cons pe_str (pa_cons (pv 10) pa_nil))) pa_nil)) (nomark _))))))))))))), ?_⟩
    walk_at "z_in"
    have clW := T.clWord
    have nW := T.na_Word_width
    have nV := T.na_Word_value
    have cvM := T.mw_Word.choose_spec
    have crM : ClX.CRead K (He.ga K "Word") (.type "type") := ⟨T.rd_Word, T.ga_Word⟩
    obtain ⟨w', e, w1, w2, w3⟩ := evB_of he
    cases e
    obtain ⟨hf, hhf⟩ : ∃ hf : Nat, hf = hfI w := ⟨_, rfl⟩
    have hd2 : w / 2 = (hf : Int) := by rw [hhf]; unfold hfI; omega
    have p0 : (0 : Int) < 2 ^ hf := Int.pow_pos (by decide)
    have p1 : (2 : Int) ^ hf ≤ 2 ^ 32 := by
      have : (2 : Nat) ^ hf ≤ 2 ^ 32 := Nat.pow_le_pow_right (by decide) (by omega)
      exact_mod_cast this
    have hM := topI_pos (w := w) (by omega)
    walk_at "z_go"
    rename_i l1 H1 f1 e1 h1
    refine use_draw (n := n + 3) (hp.ex e1) (by decide) (by decide) fun r1 H2 g2 p2 a0 a1 => ?_
    obtain ⟨odd, hodd, ⟨to, oo⟩, eo⟩ := ix_any (xs := [V.int 0, V.int 1, V.int 3, V.int 63, V.int 65, V.int 66, V.non, V.bl true, V.str "8"]) (P := fun v => (∃ t, Odd (He.ga K "Word") H2 v t) ∧ evB v = false) (by
      intro x hx
      simp only [List.mem_cons, List.not_mem_nil, or_false] at hx
      rcases hx with rfl | rfl | rfl | rfl | rfl | rfl | rfl | rfl | rfl
      · exact ⟨⟨_, .int (by decide)⟩, by decide⟩
      · exact ⟨⟨_, .int (by decide)⟩, by decide⟩
      · exact ⟨⟨_, .int (by decide)⟩, by decide⟩
      · exact ⟨⟨_, .int (by decide)⟩, by decide⟩
      · exact ⟨⟨_, .int (by decide)⟩, by decide⟩
      · exact ⟨⟨_, .int (by decide)⟩, by decide⟩
      · exact ⟨⟨_, .non⟩, rfl⟩
      · exact ⟨⟨_, .bl⟩, rfl⟩
      · exact ⟨⟨_, .str (by decide +kernel)⟩, rfl⟩) a0 a1
    refine r_ixL (sql_of (g2.get h1 rfl)) hodd ?_
    walk_at "z_go"
    rw [hd2]
    have iw0 : InW w 0 := ⟨by omega, by omega, by omega, by omega⟩
    refine make_w iw0 fun x3 H3 e3 w3' => ?_
    walk_at "z_go"
    rename_i l4 H4 f4 e4 h4
    refine use_draw (n := n + 2) ((p2.ex e3).ex e4) (by decide) (by decide) fun r2 H5 g5 p5 b0 b1 => ?_
    have ok0 : ∀ x, okH w x = btw x 0 (1 * 2 ^ hf - 1) := fun x => by unfold okH; rw [← hhf]
    rw [Int.toNat_natCast] at h4
    obtain ⟨wr, hwr, ⟨tw, ow⟩, ew⟩ := ix_any (xs := [V.int (1 * 2 ^ hf), V.int (-1), V.non, V.bl true, V.ref x3, V.str "0"]) (P := fun v => (∃ t, Odd (He.ga K "Word") H5 v t) ∧ okH w v = false) (by
      intro x hx
      simp only [List.mem_cons, List.not_mem_nil, or_false] at hx
      rw [ok0]
      rcases hx with rfl | rfl | rfl | rfl | rfl | rfl
      · refine ⟨⟨_, .int (by omega)⟩, ?_⟩
        show (decide (0 ≤ (1 : Int) * 2 ^ hf) && decide ((1 : Int) * 2 ^ hf ≤ 1 * 2 ^ hf - 1)) = false
        rw [decide_eq_false (show ¬ (1 : Int) * 2 ^ hf ≤ 1 * 2 ^ hf - 1 by omega)]
        simp
      · exact ⟨⟨_, .int (by decide)⟩, by simp [btw]⟩
      · exact ⟨⟨_, .non⟩, rfl⟩
      · exact ⟨⟨_, .bl⟩, rfl⟩
      · exact ⟨⟨_, .word ((w3'.ex e4).gr g5)⟩, rfl⟩
      · exact ⟨⟨_, .str (by decide +kernel)⟩, rfl⟩) b0 b1
    refine r_ixL (sql_of (g5.get h4 rfl)) hwr ?_
    have hl5 : H5 l = some (.lst (hs.map V.int)) := by walk_at "z_hp"
    walk_at "z_go"
    have ell : ((List.map V.int hs).length : Int) = (hs.length : Int) := by rw [List.length_map]
    rw [ell]
    refine use_draw (n := n + 1) p5 (by omega) (log_small (by omega) (by omega)) fun at' H6 g6 p6 c0 c1 => ?_
    walk_at "z_go"
    rename_i l7 H7 f7 e7 h7 l8 H8 f8 e8 h8
    rw [cut_to c0] at h7
    refine r_cat (by walk_at "z_hp") h8 (by simp; omega) fun l9 H9 f9 e9 h9 => ?_
    walk_at "z_go"
    rename_i l10 H10 f10 e10 h10
    rw [cut_from c0] at h10
    refine r_cat (by walk_at "z_hp") h10 (by simp; omega) fun l11 H11 f11 e11 h11 => ?_
    walk_at "z_go"
    rename_i l12 H12 f12 e12 h12
    refine use_drawB (n := n) (by walk_at "z_pe") (by decide) (by decide) fun r4 H13 g13 p13 m0 m1 bt13 => ?_
    refine r_rep (g13.get h12 rfl) (by omega) (by omega) (by simp; omega) fun l14 H14 f14 e14 h14 => ?_
    have h11' : H14 l11 = some (.lst ((hs.map V.int).take at'.toNat ++ [wr] ++ (hs.map V.int).drop at'.toNat)) := by
      refine e14.get (bt13.get (e12.get h11) ?_)
      have hp10 : PenAt K H10 p (n + 1) := by walk_at "z_pe"
      obtain ⟨_, _, _, _, hpp, _⟩ := hp10
      exact (ne_of_none hpp f11).symm
    refine r_cat h11' h14 (by simp; omega) fun l15 H15 f15 e15 h15 => ?_
    have hb15 : H15 l15 = some (.lst ((hs.map V.int).take at'.toNat ++ wr :: ((hs.map V.int).drop at'.toNat ++ (List.replicate r4.toNat [V.int (-5)]).flatten))) := by
      rw [h15]
      simp [List.append_assoc]
    have hpost : ∀ x ∈ (hs.map V.int).drop at'.toNat ++ (List.replicate r4.toNat [V.int (-5)]).flatten, ∃ y : Int, x = .int y ∧ y.natAbs < 2 ^ 100 := by
      intro x hx
      rcases List.mem_append.mp hx with hx | hx
      · obtain ⟨y, hy, rfl⟩ := List.mem_map.mp (List.mem_of_mem_drop hx)
        have := hh y hy
        rw [← hhf] at this
        exact ⟨y, rfl, by omega⟩
      · simp only [List.mem_flatten, List.mem_replicate] at hx
        obtain ⟨l, ⟨_, rfl⟩, hx⟩ := hx
        rw [List.mem_singleton.mp hx]
        exact ⟨_, rfl, by decide⟩
    have hpre0 : ∀ x ∈ (hs.map V.int).take at'.toNat, ∃ y : Int, x = .int y ∧ 0 ≤ y ∧ y ≤ 2 ^ hf - 1 := by
      intro x hx
      obtain ⟨y, hy, rfl⟩ := List.mem_map.mp (List.mem_of_mem_take hx)
      have := hh y hy
      rw [← hhf] at this
      exact ⟨y, rfl, this⟩
    have hpl : ((hs.map V.int).drop at'.toNat ++ (List.replicate r4.toNat [V.int (-5)]).flatten).length ≤ 11 := by
      simp
      omega
    have hpl2 : ((hs.map V.int).take at'.toNat).length ≤ 9 := by
      simp
      omega
    generalize (hs.map V.int).drop at'.toNat ++ (List.replicate r4.toNat [V.int (-5)]).flatten = post at *
    generalize (hs.map V.int).take at'.toNat = pre at *
    clear h15 h14 h11' h11 h12 h10 h9 h8 h7
    walk_at "z_go"
    rename_i t16 H16 f16 e16 h16 t17 H17 f17 e17 h17 l18 H18 f18 e18 h18 t19 H19 f19 e19 h19 t20 H20 f20 e20 h20
    have h18' : H20 l18 = some (.lst [.ref t17]) := by walk_at "z_hp"
    have q16 : H20 t16 = some (.tup [.str "width", odd]) := by walk_at "z_hp"
    have q17 : H20 t17 = some (.tup [.ref t16, odd]) := by walk_at "z_hp"
    have q19 : H20 t19 = some (.tup [.str "word", wr]) := by walk_at "z_hp"
    have qb : H20 l15 = some (.lst (pre ++ wr :: post)) := e20.get (e19.get (e18.get (e17.get (e16.get hb15))))
    have ql : H20 l = some (.lst (hs.map V.int)) := by walk_at "z_hp"
    have g20 : Gr H5 H20 := by walk_at "z_gr"
    have g20' : Gr H2 H20 := Gr.trans (by walk_at "z_gr") g20
    have g20'' : Gr H H20 := Gr.trans (by walk_at "z_gr") g20'
    have pn20 : PenAt K H20 p n := by walk_at "z_pe"
    have pn17 : PenAt K H17 p n := by walk_at "z_pe"
    refine r_app h18' (by show 1 < 1000; decide) fun H21 e21 h21 => ?_
    have g17 : Gr H17 H20 := ((e18.trans e19).trans e20).gr
    have pn21 : PenAt K H21 p n := pn17.but g17 pn20 f18 e21
    have tb21 : LamX.Tabs (lamT K) H21 := tabs_but (tabs_gr hT g20'') e21 h18'
    have oo21 : Odd (He.ga K "Word") H21 odd to := odd_but e21 h18' (oo.gr g20')
    have ow21 : Odd (He.ga K "Word") H21 wr tw := odd_but e21 h18' (ow.gr g20)
    have ht16 : H21 t16 = some (.tup [.str "width", odd]) := e21.get q16 (ne_of q16 h18' (by intro z; cases z))
    have ht17 : H21 t17 = some (.tup [.ref t16, odd]) := e21.get q17 (ne_of q17 h18' (by intro z; cases z))
    have ht19 : H21 t19 = some (.tup [.str "word", wr]) := e21.get q19 (ne_of q19 h18' (by intro z; cases z))
    have ht20 : H21 t20 = some (.tup [.ref t19, .int w]) := e21.get h20 (ne_of h20 h18' (by intro z; cases z))
    have nb : l15 ≠ l18 := ne_of_none (e17.get (e16.get hb15)) f18
    have nl : l ≠ l18 := ne_of_none (show H17 l = some (.lst (hs.map V.int)) by walk_at "z_hp") f18
    have hb21 : H21 l15 = some (.lst (pre ++ wr :: post)) := e21.get qb nb
    have hl21 : H21 l = some (.lst (hs.map V.int)) := e21.get ql nl
    have h21' : H21 l18 = some (.lst [.ref t17, .ref t20]) := h21
    have hbl : (pre ++ wr :: post).length < 40 := by
      rw [List.length_append, List.length_cons]
      omega
    have hpre : ∀ y ∈ pre, okH w y = true := by
      intro x hx
      obtain ⟨y, rfl, y0, y1⟩ := hpre0 x hx
      rw [ok0]
      show (decide (0 ≤ y) && decide (y ≤ 1 * 2 ^ hf - 1)) = true
      rw [decide_eq_true y0, decide_eq_true (show y ≤ 1 * 2 ^ hf - 1 by omega)]
      rfl
    have noQ : ∀ hs' : List Int, pre ++ wr :: post = hs'.map V.int → (∀ y ∈ hs', 0 ≤ y ∧ y ≤ 2 ^ hfI w - 1) → False := by
      intro hs' e' hh'
      have hm : wr ∈ hs'.map V.int := by rw [← e']; simp
      obtain ⟨y, hy, rfl⟩ := List.mem_map.mp hm
      have q := hh' y hy
      rw [← hhf] at q
      rw [ok0] at ew
      have z : (decide (0 ≤ y) && decide (y ≤ 1 * 2 ^ hf - 1)) = false := ew
      rw [decide_eq_true q.1, decide_eq_true (show y ≤ 1 * 2 ^ hf - 1 by omega)] at z
      cases z
    have ab21 : AllOdd (He.ga K "Word") H21 (pre ++ wr :: post) := by
      intro x hx
      rcases List.mem_append.mp hx with hx | hx
      · obtain ⟨y, rfl, y0, y1⟩ := hpre0 x hx
        exact ⟨_, .int (by omega)⟩
      · rcases List.mem_cons.mp hx with rfl | hx
        · exact ⟨_, ow21⟩
        · obtain ⟨y, rfl, hy⟩ := hpost x hx
          exact ⟨_, .int hy⟩
    clear h18' q16 q17 q19 qb ql g20 g20' g20'' pn20 pn17 g17 oo ow h16 h17 h18 h19 h20 e21 h21
    walk_at "z_go"
    refine for_L (sql_of h21') (fun i σ H' => ∃ d b, σ = [some (.ref p), some (.int w), some (.ref l), some (.ref l4), some wr, some (.int at'), some (.ref l18), d, some (.ref l15), b, some odd] ∧ Tx H21 H' ∧ LamX.Tabs (lamT K) H') ⟨_, _, rfl, Tx.refl _, tb21⟩ (fun i σ H' h => by obtain ⟨_, _, _, e, _⟩ := h; exact sql_of (e.get h21' rfl)) ?_ ?_
    · rintro i z σ H' hz ⟨d0, b0', rfl, tx', tb'⟩
      rcases i with _ | _ | i
      · cases hz
        have s17 := sqt_of (K := K) (tx'.get ht17 rfl)
        walk_at "z_go"
        refine s_lam tb' fun HA txA tbA => ?_
        walk_at "z_go"
        have ttA := tx'.trans txA
        have oA := oo21.tx ttA
        refine ⟨_, _, _, rfl, sql_of (ttA.get hb21 rfl), hbl, T.oki oA, (fun x hx => let ⟨t, o⟩ := ab21.tx ttA x hx; T.oki o), fun _ d hd => ?_, (fun w' ew' he' => by rw [eo] at he'; cases he'), fun w' hs' ew' he' => by rw [eo] at he'; cases he'⟩
        refine Or.inl ⟨rfl, d, odd, rfl, upd_same, fun pA HB eB hB => ?_⟩
        have exA : Ex HA HB := (Ex.new hd).trans eB
        walk_at "z_go"
        refine r_reprS (tell_shw hG (hr.mono (by decide)) ⟨T.a_Word_DreprD, T.i_Word_DreprD, ok_Word_DreprD T, b_Word_DreprD T, pX⟩ (oA.ex exA) (by decide +kernel) hB) fun HC eC => ?_
        have exC := exA.trans eC
        walk_at "z_go"
        refine r_reprS (tell_shw hG (hr.mono (by decide)) ⟨T.a_Word_DreprD, T.i_Word_DreprD, ok_Word_DreprD T, b_Word_DreprD T, pX⟩ (oA.ex exC) (by decide +kernel) (exC.get (ttA.get ht16 rfl))) fun HD eD => ?_
        have tx' := (ttA.trans exC.tx).trans eD.tx
        have tb' := (tbA.ext exC).ext eD
        walk_at "z_go"
        refine s_lam tb' fun HA txA tbA => ?_
        walk_at "z_go"
        have ttA := tx'.trans txA
        have oA := oo21.tx ttA
        refine ⟨_, _, _, rfl, sql_of (ttA.get hb21 rfl), hbl, T.oki oA, (fun x hx => let ⟨t, o⟩ := ab21.tx ttA x hx; T.oki o), fun _ d hd => ?_, (fun w' ew' he' => by rw [eo] at he'; cases he'), fun w' hs' ew' he' => by rw [eo] at he'; cases he'⟩
        refine Or.inl ⟨rfl, d, odd, rfl, upd_same, fun pA HB eB hB => ?_⟩
        have exA : Ex HA HB := (Ex.new hd).trans eB
        walk_at "z_go"
        refine r_reprS (tell_shw hG (hr.mono (by decide)) ⟨T.a_Word_DreprD, T.i_Word_DreprD, ok_Word_DreprD T, b_Word_DreprD T, pX⟩ (oA.ex exA) (by decide +kernel) hB) fun HC eC => ?_
        have exC := exA.trans eC
        walk_at "z_go"
        refine r_reprS (tell_shw hG (hr.mono (by decide)) ⟨T.a_Word_DreprD, T.i_Word_DreprD, ok_Word_DreprD T, b_Word_DreprD T, pX⟩ (oA.ex exC) (by decide +kernel) (exC.get (ttA.get ht16 rfl))) fun HD eD => ?_
        have tx' := (ttA.trans exC.tx).trans eD.tx
        have tb' := (tbA.ext exC).ext eD
        walk_at "z_go"
        exact ⟨_, _, rfl, tx', tb'⟩
      · cases hz
        have s20 := sqt_of (K := K) (tx'.get ht20 rfl)
        walk_at "z_go"
        refine s_lam tb' fun HA txA tbA => ?_
        walk_at "z_go"
        have ttA := tx'.trans txA
        have oA := ow21.tx ttA
        refine ⟨_, _, _, rfl, sql_of (ttA.get hb21 rfl), hbl, ki_int _, (fun x hx => let ⟨t, o⟩ := ab21.tx ttA x hx; T.oki o), (fun e => by rw [he] at e; cases e), (fun w' ew' he' i x hx hall hb d hd => ?_), fun w' hs' ew' he' exs hh' => by cases ew'; exact (noQ hs' exs hh').elim⟩
        cases ew'
        have exw := first_bad (P := okH w) hpre ew i x hx hall hb
        subst exw
        refine Or.inr (Or.inl ⟨rfl, d, _, rfl, upd_same, fun pA HB eB hB => ?_⟩)
        have exA : Ex HA HB := (Ex.new hd).trans eB
        walk_at "z_go"
        refine r_reprS (tell_shw hG (hr.mono (by decide)) ⟨T.a_Word_DreprD, T.i_Word_DreprD, ok_Word_DreprD T, b_Word_DreprD T, pX⟩ (oA.ex exA) (by decide +kernel) hB) fun HC eC => ?_
        have exC := exA.trans eC
        walk_at "z_go"
        refine r_reprS (tell_shw hG (hr.mono (by decide)) ⟨T.a_Word_DreprD, T.i_Word_DreprD, ok_Word_DreprD T, b_Word_DreprD T, pX⟩ (oA.ex exC) (by decide +kernel) (exC.get (ttA.get ht19 rfl))) fun HD eD => ?_
        have tx' := (ttA.trans exC.tx).trans eD.tx
        have tb' := (tbA.ext exC).ext eD
        walk_at "z_go"
        refine s_lam tb' fun HA txA tbA => ?_
        walk_at "z_go"
        have ttA := tx'.trans txA
        have oA := ow21.tx ttA
        refine ⟨_, _, _, rfl, sql_of (ttA.get hb21 rfl), hbl, ki_int _, (fun x hx => let ⟨t, o⟩ := ab21.tx ttA x hx; T.oki o), (fun e => by rw [he] at e; cases e), (fun w' ew' he' i x hx hall hb d hd => ?_), fun w' hs' ew' he' exs hh' => by cases ew'; exact (noQ hs' exs hh').elim⟩
        cases ew'
        have exw := first_bad (P := okH w) hpre ew i x hx hall hb
        subst exw
        refine Or.inr (Or.inl ⟨rfl, d, _, rfl, upd_same, fun pA HB eB hB => ?_⟩)
        have exA : Ex HA HB := (Ex.new hd).trans eB
        walk_at "z_go"
        refine r_reprS (tell_shw hG (hr.mono (by decide)) ⟨T.a_Word_DreprD, T.i_Word_DreprD, ok_Word_DreprD T, b_Word_DreprD T, pX⟩ (oA.ex exA) (by decide +kernel) hB) fun HC eC => ?_
        have exC := exA.trans eC
        walk_at "z_go"
        refine r_reprS (tell_shw hG (hr.mono (by decide)) ⟨T.a_Word_DreprD, T.i_Word_DreprD, ok_Word_DreprD T, b_Word_DreprD T, pX⟩ (oA.ex exC) (by decide +kernel) (exC.get (ttA.get ht19 rfl))) fun HD eD => ?_
        have tx' := (ttA.trans exC.tx).trans eD.tx
        have tb' := (tbA.ext exC).ext eD
        walk_at "z_go"
        exact ⟨_, _, rfl, tx', tb'⟩
      · cases hz
    rintro σ H' ⟨d0, b0', rfl, tx', tb'⟩
    walk_at "z_go"
    refine s_lam tb' fun HA txA tbA => ?_
    walk_at "z_go"
    have ttA := tx'.trans txA
    have oA := oo21.tx ttA
    refine ⟨_, _, _, rfl, sql_of (ttA.get hl21 rfl), (by simp; omega), T.oki oA, (fun x hx => by obtain ⟨y, _, rfl⟩ := List.mem_map.mp hx; exact ki_int _), fun _ d hd => ?_, (fun w' ew' he' => by rw [eo] at he'; cases he'), fun w' hs' ew' he' => by rw [eo] at he'; cases he'⟩
    refine Or.inl ⟨rfl, d, odd, rfl, upd_same, fun pA HB eB hB => ?_⟩
    have exA : Ex HA HB := (Ex.new hd).trans eB
    walk_at "z_go"
    refine r_reprS (tell_shw hG (hr.mono (by decide)) ⟨T.a_Word_DreprD, T.i_Word_DreprD, ok_Word_DreprD T, b_Word_DreprD T, pX⟩ (oA.ex exA) (by decide +kernel) hB) fun HC eC => ?_
    have exC := exA.trans eC
    walk_at "z_go"
    rename_i pD HD fD eD hD
    refine r_reprS (tell_shw hG (hr.mono (by decide)) ⟨T.a_Word_DreprD, T.i_Word_DreprD, ok_Word_DreprD T, b_Word_DreprD T, pX⟩ (oA.ex (exC.trans eD)) (by decide +kernel) hD) fun HE eE => ?_
    walk_at "z_go"
    exact k HE (pn21.tx (((ttA.trans exC.tx).trans eD.tx).trans eE.tx)) (((tbA.ext exC).ext eD).ext eE)


theorem shw_ws {X : Cx} {CX : CXT} {k : Nat} {C f : Addr} {fd : FuncData} {ps : List Str} {E : XK} {H : Hp} {w : Int} (O : Own X CX k C f fd ps (spWP C fun w v => .str (wT w v)) E) : ∀ {as : List Addr} {vs : List Int}, Ws C H w as vs → ShwAll X k [] H (as.map V.ref) (vs.map (wT w))
  | [], [], _ => .nil
  | _ :: _, _ :: _, h => .cons (shw_words O h.1) (shw_ws O h.2)
theorem shwT_word {X : Cx} {CX : CXT} {k : Nat} {C f a : Addr} {fd : FuncData} {ps : List Str} {E : XK} {H : Hp} {w v : Int} (hr : Room (k + 1) X.A) (O : Own X CX k C f fd ps (spWP C fun w v => .str (wT w v)) E) (h : IsW C H a w v) : ShwT X H (.ref a) (wT w v) :=
  .own hr O h.2.choose_spec ⟨a, w, v, rfl, h, rfl, Ex.refl _⟩
theorem ws_text {C : Addr} {H : Hp} {w : Int} {as : List Addr} {vs : List Int} (h : Ws C H w as vs) (hl : vs.length ≤ 100) : (listText (vs.map (wT w))).length ≤ sizeLine := by
  have big : 10000 ≤ sizeLine := by decide
  have := listText_le (vs.map (wT w)) 60 (by
    intro t ht
    obtain ⟨v, hv, rfl⟩ := List.mem_map.mp ht
    exact wT_len (h.in_ v hv))
  rw [List.length_map] at this
  omega
theorem use_pkI {K : PySem.W.Frag} {R : VK → Int → List Int → Hp → Prop} {H : Hp} {Q : VK} {E : XK} {w : Int} {l : Addr} {hs : List Int} (ev : evB (.int w) = true) (hS : SqL K H l (hs.map V.int)) (hl : hs.length < 40) (hb6 : ∀ y ∈ hs, 0 ≤ y ∧ y ≤ 2 ^ hfI w - 1) (k : R Q w hs H) : spPk K R [.int w, .ref l] H Q E := by
  have hints : ∀ x ∈ hs.map V.int, KI K H x := fun x hx => by
    obtain ⟨y, _, rfl⟩ := List.mem_map.mp hx
    exact ki_int _
  refine ⟨.int w, l, hs.map V.int, rfl, hS, by simp; omega, ki_int _, hints, (fun e => by rw [ev] at e; cases e), (fun w' ew' he' i x hx hall hb => ?_), fun w' hs' ew' he' exs hh' => ?_⟩
  · cases ew'
    rw [List.getElem?_map] at hx
    obtain ⟨y, hy, rfl⟩ := Option.map_eq_some_iff.mp hx
    have q := hb6 y (List.mem_of_getElem? hy)
    have z : (decide (0 ≤ y) && decide (y ≤ 1 * 2 ^ hfI w - 1)) = false := hb
    rw [decide_eq_true q.1, decide_eq_true (show y ≤ 1 * 2 ^ hfI w - 1 by omega)] at z
    cases z
  · cases ew'
    have inj : ∀ {as bs : List Int}, as.map V.int = bs.map V.int → bs = as := by
      intro as
      induction as with
      | nil => intro bs h; cases bs with | nil => rfl | cons => cases h
      | cons x xs ih =>
        intro bs h
        cases bs with
        | nil => cases h
        | cons y ys =>
          injection h with h1 h2
          rw [ih h2, V.int.inj h1]
    rw [inj exs]
    exact k
def spLawT (K : PySem.W.Frag) : Sp := fun vs H Q _ => ∃ (a : Addr) (ns : List Int), vs = [.ref a] ∧ SqL K H a (ns.map V.int) ∧ ns.length ≤ 63 ∧ LamX.Tabs (lamT K) H ∧ ∀ H', Q (.bl true) H'
theorem ok_law (T : Txt K mg) (TB : TBs K mg base) : FnG P w K mg base 13 (He.ga K "law") T.F_law.choose ["_law_script"] (spLawT K) := by
  refine okG T.F_law.choose_spec sc_law (fun vs H Q E h => ?_) (fun cdv A outer s H vs Q E hr hG h => ?_)
  · obtain ⟨a, ns, rfl, hS, hlen, hT, k⟩ := h
    rfl
  · obtain ⟨a, ns, rfl, hS, hlen, hT, k⟩ := h
    refine ⟨_, (pss_cons (ps_set (i := 1) sc_law.nd rfl (Or.inl rfl) (pe_call (ok__law_pen T) (hr.mono (by decide)) (by rfl) T.g__law_pen T.F__law_pen.choose_spec.kp (b__law_pen T) .nil pX (pa_cons (pv 0) pa_nil)))
    (pss_cons (ps_for pO rfl (pi_range1 (by rfl) T.n_range (pa_cons pe_int pa_nil)) (pg_name (i := 2) sc_law.nd rfl (Or.inl rfl))
    (pss_cons (ps_set (i := 3) sc_law.nd rfl (Or.inr rfl) (pe_op op_mul pe_int (pe_ix ix_list (pe_lst (pa_cons pe_int (pa_cons pe_int (pa_cons pe_int (pa_cons pe_int (pa_cons pe_int (pa_cons pe_int (pa_cons (pe_op op_add pe_int (pe_call (ok__law_draw T) (hr.mono (by decide)) (by rfl) T.g__law_draw T.F__law_draw.choose_spec.kp (b__law_draw T) .nil pX (pa_cons (pv 1) (pa_cons pe_int pa_nil)))) pa_nil)))))))) (pe_call (ok__law_draw T) (hr.mono (by decide)) (by rfl) T.g__law_draw T.F__law_draw.choose_spec.kp (b__law_draw T) .nil pX (pa_cons (pv 1) (pa_cons pe_int pa_nil))) (fun _ _ => rfl))))
    (pss_cons (ps_set (i := 4) sc_law.nd rfl (Or.inl rfl) (pe_call (ok__law_halves T) (hr.mono (by decide)) (by rfl) T.g__law_halves T.F__law_halves.choose_spec.kp (b__law_halves T) .nil pX (pa_cons (pv 1) (pa_cons (pv 3) pa_nil))))
    (pss_cons (ps_set (i := 5) sc_law.nd rfl (Or.inl rfl) (pe_call (ok__law_values T) (hr.mono (by decide)) (by rfl) T.g__law_values T.F__law_values.choose_spec.kp (b__law_values T) .nil pX (pa_cons (pv 3) (pa_cons (pv 4) pa_nil))))
    (pss_cons (ps_set (i := 6) sc_law.nd rfl (Or.inl rfl) (pe_callTy zc_list (by rfl) T.n_list (by decide +kernel) (pa_cons (pv 4) pa_nil)))
    (pss_cons (ps_if (pt_cmpR op_ne (pe_callB call_reprS (by rfl) T.n_repr (by decide +kernel) (pa_cons (pe_call (ok_packed T) (hr.mono (by decide)) (by rfl) T.g_packed T.F_packed.choose_spec.kp (b_packed T) .nil pX (pa_cons (pv 3) (pa_cons (pv 6) pa_nil))) pa_nil)) (pe_callB call_reprS (by rfl) T.n_repr (by decide +kernel) (pa_cons (pe_lc (own := [("_law_worth", 8)]) (tt := tYes) (by rfl) sc_law.nd (pi_list (pv 5)) (blkOk_by (own := [("_law_worth", 8)]) (N := ["_law_script", "_law_pen_here", "_law_turn", "_law_width", "_law_halves_here", "_law_values_here", "_law_handed", "_law_whole", "_law_worth"]) (sc := defScope s_law) (by decide +kernel)) (fun _ _ _ _ _ => (pg_name (i := 8) sc_law.nd rfl (Or.inl rfl))) (fun _ _ _ _ _ => pts_nil) (fun _ _ _ _ _ => (pe_make T.mkWord (ok_Word_DinitD T) (hr.mono (by decide)) (by rfl) T.g_Word (b_Word_DinitD T) .nil passL (pa_cons (pv 3) (pa_cons (pv 8) pa_nil))))) pa_nil)) (nomark _)) (pss_one (ps_ret pe_bl)) pss_nil)
    (pss_cons (ps_set (i := 7) sc_law.nd rfl (Or.inl rfl) (pe_call (ok_half_total T) (hr.mono (by decide)) (by rfl) T.g_half_total T.F_half_total.choose_spec.kp (b_half_total T) .nil pX (pa_cons (pv 3) (pa_cons (pv 6) pa_nil))))
    (pss_cons (ps_if (PW.pt (pw_or (pt_cmpR op_ne (pe_callB call_reprS (by rfl) T.n_repr (by decide +kernel) (pa_cons (pv 7) pa_nil)) (pe_callB call_reprS (by rfl) T.n_repr (by decide +kernel) (pa_cons (pe_make T.mkWord (ok_Word_DinitD T) (hr.mono (by decide)) (by rfl) T.g_Word (b_Word_DinitD T) .nil pX (pa_cons (pv 3) (pa_cons (pe_call (ok__law_total T) (hr.mono (by decide)) (by rfl) T.g__law_total T.F__law_total.choose_spec.kp (b__law_total T) .nil pX (pa_cons (pv 3) (pa_cons (pv 5) pa_nil))) pa_nil))) pa_nil)) (nomark _)) (pw_or1 (pt_cmpR (op_neD hr.units) (pv 6) (pv 4) (nomark _))))) (pss_one (ps_ret pe_bl)) pss_nil)
    (pss_one (ps_if (pt_not (pt_val (Z.pe_callG (ok__law_bent_right T TB) (hr.mono (by decide)) hG (by rfl) T.g__law_bent_right T.F__law_bent_right.choose_spec.kp (b__law_bent_right T) pX (pa_cons (pv 1) (pa_cons (pv 3) (pa_cons (pv 4) pa_nil)))))) (pss_one (ps_ret pe_bl)) pss_nil))))))))))
    (pss_one (ps_ret pe_bl)))), ?_⟩
    walk_at "z_in"
    have clW := T.clWord
    have nW := T.na_Word_width
    have nV := T.na_Word_value
    have cvM := T.mw_Word.choose_spec
    have crM : ClX.CRead K (He.ga K "Word") (.type "type") := ⟨T.rd_Word, T.ga_Word⟩
    walk_at "z_go"
    refine use_pen hS fun p H1 e1 p1 => ?_
    walk_at "z_go"
    refine ⟨_, rfl, by decide, by decide, for_range (lo := 0) (n := 5) (fun i σ H' => ∃ a1 a2 a3 a4 a5 a6 a7, σ = [some (.ref a), some (.ref p), a1, a2, a3, a4, a5, a6, a7] ∧ PenAt K H' p (1000000 - 100 * i) ∧ LamX.Tabs (lamT K) H') ⟨_, _, _, _, _, _, _, rfl, p1, tabs_ex hT e1⟩ ?_ ?_⟩
    rotate_left
    · rintro σ H' ⟨a1, a2, a3, a4, a5, a6, a7, rfl, _, _⟩
      walk_at "z_go"
      exact k _
    rintro I σ H2 hi ⟨a1, a2, a3, a4, a5, a6, a7, rfl, p2, tb2⟩
    obtain ⟨n, hn⟩ : ∃ n, 1000000 - 100 * I = n + 100 := ⟨1000000 - 100 * I - 100, by omega⟩
    rw [hn] at p2
    walk_at "z_go"
    refine use_draw (n := n + 99) p2 (by decide) (by decide) fun d H3 g3 p3 d0 d1 => ?_
    walk_at "z_go"
    rename_i l4 H4 f4 e4 h4
    refine use_draw (n := n + 98) (p3.ex e4) (by decide) (by decide) fun r H5 g5 p5 r0 r1 => ?_
    obtain ⟨hw, hhw, q1, q2⟩ := ix_all (xs := [1, 1, 2, 4, 8, 32, 1 + d]) (P := fun v => 1 ≤ v ∧ v ≤ 32) (by intro x hx; simp only [List.mem_cons, List.not_mem_nil, or_false] at hx; omega) r0 r1
    refine r_ixL (sql_of (g5.get h4 rfl)) hhw ?_
    obtain ⟨w, hwe⟩ : ∃ w, w = 2 * hw := ⟨_, rfl⟩
    have ev : evB (.int w) = true := by
      show (decide (2 ≤ w) && (decide (w ≤ 64) && decide (w % 2 = 0))) = true
      rw [decide_eq_true (show 2 ≤ w by omega), decide_eq_true (show w ≤ 64 by omega), decide_eq_true (show w % 2 = 0 by omega)]
      rfl
    have tb5 : LamX.Tabs (lamT K) H5 := tabs_gr (tabs_ex (tabs_gr tb2 g3) e4) g5
    walk_at "z_go"
    rw [← hwe]
    refine ⟨p, w, n + 58, rfl, p5, ev, fun lh hs H6 g6 p6 h6 hl6 hb6 => ?_⟩
    have tb6 := tabs_gr tb5 g6
    walk_at "z_go"
    refine ⟨w, lh, hs, rfl, ev, h6, hl6, hb6, fun lv H7 e7 h7 => ?_⟩
    have h67 := e7.get h6
    have hvin : ∀ v ∈ pk (hfI w) hs, InW w v := by
      intro v hv
      obtain ⟨i, _, rfl⟩ := List.mem_map.mp hv
      exact vp_in (by unfold hfI; omega) (by unfold hfI; omega) (by unfold hfI; omega) hb6 i
    have hvl : (pk (hfI w) hs).length ≤ 10 := by
      unfold pk
      simp
      omega
    walk_at "z_go"
    rename_i l8 H8 f8 e8 h8
    refine use_pkI ev (sql_of h8) (by omega) hb6 ?_
    intro lq as H9 e9 h9 hW9
    walk_at "z_go"
    refine r_reprS (ShwT.list (k := 1) (as := []) hG (hr.mono (by decide)) (sql_of h9) (shw_ws ⟨T.a_Word_DreprD, T.i_Word_DreprD, ok_Word_DreprD T, b_Word_DreprD T, pX⟩ hW9) (by simp) (ws_text hW9 (by omega))) fun H10 e10 => ?_
    walk_at "z_go"
    have h7x : H10 lv = some (.lst ((pk (hfI w) hs).map V.int)) := by walk_at "z_hp"
    have h8x : H10 l8 = some (.lst (hs.map V.int)) := by walk_at "z_hp"
    have h6x : H10 lh = some (.lst (hs.map V.int)) := by walk_at "z_hp"
    have p10 : PenAt K H10 p (n + 58) := by walk_at "z_pe"
    have tb10 : LamX.Tabs (lamT K) H10 := by walk_at "z_tb"
    refine s_lcL (a := lv) (xs := (pk (hfI w) hs).map V.int) (fun R h => ⟨_, rfl, h⟩) (sql_of h7x) (fun L i H' => ∃ bs : List Addr, bs.length = i ∧ H' L = some (.lst (bs.map V.ref)) ∧ Ws (He.ga K "Word") H' w bs ((pk (hfI w) hs).take i) ∧ H' lv = some (.lst ((pk (hfI w) hs).map V.int)) ∧ Ex H10 H') ?_ ?_ ?_ ?_
    · intro L H11 fL e11 h11
      exact ⟨[], rfl, h11, True.intro, e11.get h7x, e11⟩
    · rintro L i H11 fL ⟨bs, _, _, _, h, _⟩
      exact sql_of h
    · rintro L i x H11 fL hx ⟨bs, rfl, hL, hW, hv, e11⟩
      dsimp only [wipe, List.set, gName]
      rw [List.getElem?_map] at hx
      obtain ⟨v, hv', rfl⟩ := Option.map_eq_some_iff.mp hx
      have hlt := (List.getElem?_eq_some_iff.mp hv').1
      refine ⟨rfl, ?_⟩
      refine s_yes (iteT ?_)
      walk_at "z_go"
      refine make_w (hvin v (List.mem_of_getElem? hv')) fun x H12 e12 w12 => ?_
      have hL12 := e12.get hL
      refine lc_step (L := L) (acc := bs.map V.ref) hL12 (by simp; omega) fun H13 e13 h13 => ?_
      refine ⟨bs ++ [x], by simp, by rw [h13]; simp, ?_, e13.get (e12.get hv) (ne_of_none h7x fL), Ex.but (e11.trans e12) fL e13⟩
      rw [List.take_succ, hv']
      exact ((hW.ex e12).but e13 hL12).app ⟨w12.but e13 hL12, True.intro⟩
    rintro L H11 fL ⟨bs, hn', hL, hW, _, e11⟩
    rw [List.length_map, List.take_length] at hW
    clear h9 hW9 h4 h6 h67 h7 h8
    walk_at "z_go"
    refine r_reprS (ShwT.list (k := 1) (as := []) hG (hr.mono (by decide)) (sql_of hL) (shw_ws ⟨T.a_Word_DreprD, T.i_Word_DreprD, ok_Word_DreprD T, b_Word_DreprD T, pX⟩ hW) (by simp) (ws_text hW (by omega))) fun H12 e12 => ?_
    walk_at "z_go"
    refine use_pkI ev (sql_of (e12.get (e11.get h8x))) (by omega) hb6 ?_
    intro x H13 e13 w13
    walk_at "z_go"
    refine r_reprS (shwT_word (hr.mono (by decide)) ⟨T.a_Word_DreprD, T.i_Word_DreprD, ok_Word_DreprD T, b_Word_DreprD T, pX⟩ w13) fun H14 e14 => ?_
    have h7y : H14 lv = some (.lst ((pk (hfI w) hs).map V.int)) := by walk_at "z_hp"
    walk_at "z_go"
    refine ⟨w, lv, pk (hfI w) hs, rfl, by omega, by omega, h7y, ?_⟩
    walk_at "z_go"
    refine make_w w13.1 fun y H15 e15 w15 => ?_
    walk_at "z_go"
    refine r_reprS (shwT_word (hr.mono (by decide)) ⟨T.a_Word_DreprD, T.i_Word_DreprD, ok_Word_DreprD T, b_Word_DreprD T, pX⟩ w15) fun H16 e16 => ?_
    have h8y : H16 l8 = some (.lst (hs.map V.int)) := by walk_at "z_hp"
    have h6y : H16 lh = some (.lst (hs.map V.int)) := by walk_at "z_hp"
    have p16 : PenAt K H16 p (n + 58) := by walk_at "z_pe"
    have tb16 : LamX.Tabs (lamT K) H16 := by walk_at "z_tb"
    walk_at "z_go"
    refine f_T rfl ?_
    walk_at "z_go"
    refine ⟨p, w, lh, hs, n + 54, rfl, p16, ev, h6y, hl6, hb6, tb16, fun H17 p17 tb17 => ?_⟩
    walk_at "z_go"
    exact ⟨_, _, _, _, _, _, _, rfl, p17.mono (by omega), tb17⟩

end
abbrev R : PySem.W.OpenRow := PySem.W.OpenLaw.row PySem.Challenge.rw_twozeros_k11_halves
abbrev hk : PySem.W.Hook := hookL 6 fns exs ls
def ob (s : PySem.W.SharedT) : AlL := obsL 6 fns exs ls (HandSHeadRun.getT s)
theorem ob_eq (s : PySem.W.SharedT) : ob s = hk.obs s.abs := obsL_eq (HandSHeadRun.getT_eq s)
def loose : List Str := (["_wall", "__name__", "is_integer", "is_between", "ZerosError", "BadWidth", "BadWord", "UnlikeWidths", "MOST_TIMES", "top_of", "sum_word", "multiple_word", "need_times", "operand_value", "need_comparable", "rest_of", "Word", "need_even", "packed", "half_total", "_law_pen", "_law_draw", "_law_heard", "_law_halves", "_law_values", "_law_total", "_law_bent_right"] : List Str)
theorem run (w : World) : HandSHeadRun.RunEq R (PySem.W.view R.prog [31]) hk ob 8000 loose w := by
  intro os
  kernel_rfl
theorem law_at {w : World} {K : PySem.W.Frag} {h : Heap} {mg : Str → Option Value} {f : Addr} (X : K.In h) (G : h.Ns mainGlobals mg) (hf : mg ("law" : Str) = some (.ref f)) (c : Says fns exs K) :
    ∃ fd : FuncData, (∀ (s : Shared) (v : Value), BindsTo s fd ⟨[v], []⟩ [("_law_script", v)]) ∧ (∀ p ∈ csOf ls K, K.lookup p.2 = none) ∧ (∀ p ∈ csOf ls K, PySem.W.CodeHd h p.1 p.2) ∧ (∀ base : Heap, K.In base → base.Ns mainGlobals mg → TBs K mg base → FnG P w K mg base 13 f fd ["_law_script"] (spLawT K)) := by
  have T := txt_mk X G c
  have e := hf.symm.trans T.g_law
  cases e
  have b := FunD.bindsA (ps := ["_law_script"]) T.F_law.choose_spec fun _ _ _ _ _ _ us hl => match us, hl with | [_], _ => rfl
  exact ⟨T.F_law.choose, fun s v => b s [v] rfl, List.forall_mem_cons.mpr ⟨(Option.isNone_iff_eq_none.mp T.nt__law_bent_right), List.forall_mem_nil _⟩, List.forall_mem_cons.mpr ⟨(PySem.W.codeHd_of_K X T.ch__law_bent_right), List.forall_mem_nil _⟩, fun base _ _ TB => ok_law T TB⟩
theorem tabs_of {K : PySem.W.Frag} {H : Hp} (h : ∀ p ∈ csOf ls K, H p.2 = some (.tbl #[])) : LamX.Tabs (lamT K) H := by
  have z := h
  simp only [csOf, ls, List.map_cons, List.map_nil, List.forall_mem_cons] at z
  refine List.forall_mem_cons.mpr ⟨LamX.TabS.nil z.1, List.forall_mem_nil _⟩
end L
open PySem PySem.W PySem.Calls PyProof.Rows
set_option maxRecDepth 100000 in
set_option maxHeartbeats 0 in
theorem PySem.Challenge.cw_twozeros_k11_halves_holds : PySem.Challenge.rw_twozeros_k11_halves.Holds := by
  w_on; o_law
  refine HandSHeadRun.head_any (r := L.R) (q := view L.R.prog [31]) (H := L.hk) (ob := L.ob) (M := 8000) (loose := L.loose) (d := HandSHeadRun.topDef L.R.prog 31) (kwd := []) L.ob_eq
    (by kernel_rfl) (fun s => by kernel_rfl) L.run (by kernel_rfl) (by kernel_rfl) (by kernel_rfl) (by rfl) (by first | assumption | decide +kernel) (by decide +kernel) ⟨rfl, rfl, rfl, rfl, rfl, by decide +kernel⟩ ?hw ?hc
  case hw => w_witness2
  case hc =>
    refine Z.walk_endGT (l := PySem.Challenge.rw_twozeros_k11_halves) (n := 63) (k := 13) (x := "_law_script") rfl (by decide) (by kernel_rfl) ⟨rfl, by decide, by decide⟩ ?F
    intro w mg fa h Y G hm0
    obtain ⟨K, KX, c, hT⟩ := Y
    have hm : mg ("law" : PySem.Str) = some (.ref fa) := by
      have e : (HandSHeadRun.topDef L.R.prog 31).name = ("law" : PySem.Str) := by kernel_rfl
      rw [← e]
      exact hm0
    obtain ⟨fd, hb, nT, cH, hF⟩ := L.law_at (w := w) KX G hm c
    exact ⟨K, fd, Z.csOf L.ls K, L.spLawT K, KX, hT, nT, cH, hb, fun H a ns hl hH hS => ⟨a, ns, rfl, hS, hl, L.tabs_of hH, fun _ => rfl⟩, hF⟩
