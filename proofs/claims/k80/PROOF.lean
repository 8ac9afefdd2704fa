import PyProof.Rows.All
import Wide.All
import OpenK.AllK
import Wide.FinOn
import KE.KStateDown
import Lean
import HandS.ForMost
import HandS.Exc
import HandS.WordsExc
import HandS.Defaults
import HandS.Flow
import HandS.Style
import HandS.Wide
import HandS.WideBits
import HandS.ClsMeth
import HandS.Property
import HandS.IsInst
import KE.KOpsOwn
import HandS.Head0
import HandS.Head1
import HandS.Head2
import HandS.HeadEnd
import HandS.HeadHook1
import HandS.HeadHook2
import PyProof.ReprLen
import KE.KExcSuper
import HandS.ExcInit
import HandS.ExcField
import HandS.TryMany
import HandS.RaiseMore
import KE.KExcIs
import KE.KIsAll
import HandS.FStr
import HandS.Lambda
import HandS.MakeKwOnly
import KE.KNestM
import HandS.Walk
import PyProof.Rows.StrDigitsNeg
import HandS.TupAny
import HandS.TupLe
import HandS.TupMul
import HandS.TupSets
import HandS.Deep
import HandS.Dict
import HandS.DictComp
import HandS.DictTup
import HandS.AnyAll
import HandS.MapJoin
import HandS.Sort
import HandS.SortInts
import HandS.Strs
import HandS.StrMore
import HandS.Zip
import HandS.Rev
import HandS.Star
import HandS.Finally
import HandS.WideMore
import HandS.Small
import PySem.Challenge.RW_twozeros_k80_what_rings_refuse
set_option Elab.async false
set_option linter.all false
set_option maxRecDepth 100000
set_option maxHeartbeats 4000000
/-! Z: own layer over HandS: heap relations, readings step by step. -/
namespace Z
open PySem PySem.Spec PyProof.Rows L2

/-! ### heaps -/
/-- all that was told stays -/
def Ex (H H' : Hp) : Prop := ∀ a o, H a = some o → H' a = some o
/-- a pen: its cells, the next one's index, what is left of a great one -/
def isPen : HO → Bool
  | .lst [.ref _, .int _, .int _] => true
  | _ => false
/-- what a pen may become: its cells stay the same ones -/
def penTo (o : HO) (x : Option HO) : Prop := match o with
  | .lst [.ref l, .int _, .int _] => ∃ i j, x = some (.lst [.ref l, .int i, .int j])
  | o => x = some o
theorem penTo_no {o : HO} {x : Option HO} (n : isPen o = false) (h : penTo o x) : x = some o := by
  unfold penTo at h
  split at h
  · cases n
  · exact h
theorem penTo_self (o : HO) : penTo o (some o) := by
  unfold penTo
  split
  · exact ⟨_, _, rfl⟩
  · rfl
/-- all but pens stays -/
def Gr (H H' : Hp) : Prop := ∀ a o, H a = some o → penTo o (H' a)
/-- all but what stands at l stays -/
def But (l : Addr) (H H' : Hp) : Prop := ∀ a o, a ≠ l → H a = some o → H' a = some o
theorem Ex.refl (H : Hp) : Ex H H := fun _ _ h => h
theorem Ex.trans {H H1 H2 : Hp} (a : Ex H H1) (b : Ex H1 H2) : Ex H H2 := fun x o h => b x o (a x o h)
theorem Ex.new {H : Hp} {p : Addr} {o : HO} (h : H p = none) : Ex H (upd H p o) := fun a u e => by
  rw [upd_ne (ne_of_none e h)]
  exact e
theorem Ex.gr {H H' : Hp} (a : Ex H H') : Gr H H' := fun x o h => by
  rw [a x o h]
  exact penTo_self o
theorem Gr.refl (H : Hp) : Gr H H := (Ex.refl H).gr
theorem Gr.trans {H H1 H2 : Hp} (a : Gr H H1) (b : Gr H1 H2) : Gr H H2 := fun x o h => by
  have h1 := a x o h
  unfold penTo at h1
  split at h1
  · obtain ⟨i, j, h2⟩ := h1
    obtain ⟨i', j', h3⟩ := b x _ h2
    exact ⟨i', j', h3⟩
  · exact b x _ h1
theorem Ex.get {H H' : Hp} {a : Addr} {o : HO} (e : Ex H H') (h : H a = some o) : H' a = some o := e a o h
theorem Gr.get {H H' : Hp} {a : Addr} {o : HO} (e : Gr H H') (h : H a = some o) (n : isPen o = false) : H' a = some o := penTo_no n (e a o h)
theorem But.get {l : Addr} {H H' : Hp} {a : Addr} {o : HO} (e : But l H H') (h : H a = some o) (n : a ≠ l) : H' a = some o := e a o n h
theorem But.upd {l : Addr} {H : Hp} {o : HO} : But l H (upd H l o) := fun a u n h => by
  rw [upd_ne n]
  exact h
theorem Ex.free {H H' : Hp} {a : Addr} (e : Ex H H') (h : H' a = none) : H a = none := by
  cases q : H a with
  | none => rfl
  | some o =>
    rw [e a o q] at h
    cases h
/-- fresh behind Gr: either fresh before, or a pen -/
theorem Ex.sql {K : PySem.W.Frag} {H H' : Hp} {a : Addr} {xs : List V} (e : Ex H H') (h : SqL K H a xs) : SqL K H' a xs := by
  rcases h with (h | ⟨o, h⟩) | h
  · exact .inl (.inl (e _ _ h))
  · exact .inl (.inr ⟨o, e _ _ h⟩)
  · exact .inr h
theorem Ex.sqt {K : PySem.W.Frag} {H H' : Hp} {a : Addr} {xs : List V} (e : Ex H H') (h : SqT K H a xs) : SqT K H' a xs := by
  rcases h with (h | ⟨o, h⟩) | h
  · exact .inl (.inl (e _ _ h))
  · exact .inl (.inr ⟨o, e _ _ h⟩)
  · exact .inr h
theorem Gr.sql {K : PySem.W.Frag} {H H' : Hp} {a : Addr} {xs : List V} (e : Gr H H') (h : SqL K H a xs) (n : isPen (.lst xs) = false) : SqL K H' a xs := by
  rcases h with (h | ⟨o, h⟩) | h
  · exact .inl (.inl (e.get h n))
  · exact .inl (.inr ⟨o, e.get h rfl⟩)
  · exact .inr h
theorem Gr.sqt {K : PySem.W.Frag} {H H' : Hp} {a : Addr} {xs : List V} (e : Gr H H') (h : SqT K H a xs) : SqT K H' a xs := by
  rcases h with (h | ⟨o, h⟩) | h
  · exact .inl (.inl (e.get h rfl))
  · exact .inl (.inr ⟨o, e.get h rfl⟩)
  · exact .inr h
theorem But.sql {K : PySem.W.Frag} {l : Addr} {H H' : Hp} {a : Addr} {xs : List V} (e : But l H H') (h : SqL K H a xs) (n : a ≠ l) : SqL K H' a xs := by
  rcases h with (h | ⟨o, h⟩) | h
  · exact .inl (.inl (e _ _ n h))
  · exact .inl (.inr ⟨o, e _ _ n h⟩)
  · exact .inr h
theorem sql_of {K : PySem.W.Frag} {H : Hp} {a : Addr} {xs : List V} (h : H a = some (.lst xs)) : SqL K H a xs := .inl (.inl h)
theorem sqt_of {K : PySem.W.Frag} {H : Hp} {a : Addr} {xs : List V} (h : H a = some (.tup xs)) : SqT K H a xs := .inl (.inl h)
theorem pen_ints (ns : List Int) : isPen (.lst (ns.map V.int)) = false := by
  cases ns with
  | nil => rfl
  | cons a r => rfl
theorem pen_refs (ns : List Addr) : isPen (.lst (ns.map V.ref)) = false := by
  cases ns with
  | nil => rfl
  | cons a r =>
    cases r with
    | nil => rfl
    | cons b r => rfl

/-! ### readings, one step each -/
/-- what is wanted of an object's attribute -/
def FldP (K : PySem.W.Frag) (f : Str) (Q : VK) (x : V) (H : Hp) : Prop := ∃ a C dx fs v, x = .ref a ∧ H a = some (.ins C dx fs) ∧ Cls K C ∧ NoAttr K C f ∧ fs.lookup f = some v ∧ Q v H
/-- what is wanted of a new object -/
def NewO (Q : VK) (o : HO) (H : Hp) : Prop := ∀ p, H p = none → Q (.ref p) (upd H p o)
section
variable {K : PySem.W.Frag} {σ : L2.St} {H : Hp} {Q : VK} {QT : Bool → Hp → Prop} {QA : List V → Hp → Prop} {D : Ends} {E : XK}
variable {ta tb tc te tv : TE} {tt tu tw : TT} {t u : TS} {tr : TA} {r r' : R2} {v x y z : V} {i j : Nat}
theorem s_var (h : σ[i]? = some (some v)) (k : Q v H) : tVar i σ H Q := ⟨v, h, k⟩
theorem s_c (k : Q v H) : tC v σ H Q := k
theorem s_op (k : ta σ H fun x H1 => tb σ H1 fun y H2 => r x y H2 Q) : tOp r ta tb σ H Q := k
theorem s_un {r : V → Hp → VK → Prop} (k : ta σ H fun x H1 => r x H1 Q) : tUn r ta σ H Q := k
theorem s_test (k : te σ H fun x H' => ∃ k, x = .bl k ∧ QT k H') : tTest te σ H QT := k
theorem s_tb (k : te σ H fun x H' => ∃ k, x = .bl k ∧ QT k H') : tB te σ H QT := k
theorem s_not (k : tt σ H fun c H1 => QT (!c) H1) : tNot tt σ H QT := k
theorem s_and (k : tt σ H fun c H1 => if c = true then tu σ H1 QT else QT false H1) : tAnd tt tu σ H QT := k
theorem s_or (k : tt σ H fun c H1 => if c = true then QT true H1 else tu σ H1 QT) : tOr tt tu σ H QT := k
theorem s_andV (k : ta σ H fun x H1 => ∃ c, x = .bl c ∧ if c = true then tb σ H1 Q else Q (.bl false) H1) : tAndV ta tb σ H Q := k
theorem s_orV (k : ta σ H fun x H1 => ∃ c, x = .bl c ∧ if c = true then Q (.bl true) H1 else tb σ H1 Q) : tOrV ta tb σ H Q := k
theorem s_notV (k : ta σ H fun x H1 => ∃ c, x = .bl c ∧ Q (.bl (!c)) H1) : tNotV ta σ H Q := k
theorem s_ifE (k : tt σ H fun c H1 => if c = true then ta σ H1 Q else tb σ H1 Q) : tIf tt ta tb σ H Q := k
theorem s_chain (k : ta σ H fun x H1 => tb σ H1 fun y H2 => r x y H2 fun z H3 => ∃ k, z = .bl k ∧ (if k = true then tc σ H3 fun w' H4 => r' y w' H4 Q else Q (.bl false) H3)) : tChain r r' ta tb tc σ H Q := k
theorem s_seq (k : t { D with nx := u D } σ H) : tSeq t u D σ H := k
theorem s_next (k : D.nx σ H) : tNext D σ H := k
theorem s_drop (k : te σ H fun _ H1 => D.nx σ H1) : tDrop te D σ H := k
theorem s_ret (k : te σ H D.rt) : tRet te D σ H := k
theorem s_retN (k : D.rt .non H) : tRetN D σ H := k
theorem s_if (k : tt σ H fun b H1 => if b = true then t D σ H1 else u D σ H1) : tIfS tt t u D σ H := k
theorem s_asg {g : TG} (k : te σ H fun x H1 => g x σ H1 D.nx) : tAsg te g D σ H := k
theorem s_name {N : L2.St → Hp → Prop} (k : N (σ.set i (some v)) H) : gName i v σ H N := k
theorem s_sub {ts : TSet} {N : L2.St → Hp → Prop} (k : ta σ H fun o H1 => tb σ H1 fun i H2 => ts o i v H2 fun H3 => N σ H3) : gSub ta tb ts v σ H N := k
theorem s_par (k : tr σ H fun vs H1 => ∃ v w, vs = [v, w] ∧ D.nx ((σ.set i (some v)).set j (some w)) H1) : tPar i j tr D σ H := k
theorem s_nil (k : QA [] H) : tNil σ H QA := k
theorem s_cons (k : ta σ H fun x H1 => tr σ H1 fun xs H2 => QA (x :: xs) H2) : tCons ta tr σ H QA := k
theorem s_cb {r : List V → Hp → VK → Prop} (k : tr σ H fun vs H1 => r vs H1 Q) : tCB r tr σ H Q := k
theorem s_call {sp : Sp} (k : tr σ H fun vs H1 => sp vs H1 Q E) : tCall sp [] E tr σ H Q := by
  have e : (fun (vs : List V) (H1 : Hp) => sp (vs ++ []) H1 Q E) = fun vs H1 => sp vs H1 Q E := by
    funext vs H1
    rw [List.append_nil]
  unfold tCall
  rw [e]
  exact k
theorem s_lst0 (k : tr σ H fun xs H1 => xs.length ≤ sizeLine ∧ NewO Q (.lst xs) H1) : tLst tr σ H Q := k
theorem s_tup0 (k : tr σ H fun xs H1 => xs.length ≤ sizeLine ∧ NewO Q (.tup xs) H1) : tTup tr σ H Q := k
/-- a new object -/
theorem s_new {o : HO} (k : ∀ p H', H p = none → Ex H H' → H' p = some o → Q (.ref p) H') : ∀ p, H p = none → Q (.ref p) (upd H p o) := fun p hp => k p _ hp (Ex.new hp) upd_same
theorem s_len {xs : List V} {P : Prop} (h : xs.length ≤ 1000) (k : P) : xs.length ≤ sizeLine ∧ P := ⟨Nat.le_trans h (by decide), k⟩
theorem s_fld {f : Str} (k : ta σ H fun x H1 => FldP K f Q x H1) : tFld K ta f σ H Q := k
/-! values -/
theorem v_bl {b : Bool} (k : QT b H) : ∃ k, V.bl b = .bl k ∧ QT k H := ⟨b, rfl, k⟩
theorem r_i0 {g : Int → Int → V} {a b : Int} (k : Q (g a b) H) : rI0 g (.int a) (.int b) H Q := ⟨a, b, rfl, rfl, k⟩
theorem r_i {C : Int → Int → Prop} {g : Int → Int → V} {a b : Int} (c : C a b) (k : Q (g a b) H) : rI C g (.int a) (.int b) H Q := ⟨a, b, rfl, rfl, c, k⟩
theorem r_u {g : Int → V} {a : Int} (k : Q (g a) H) : rU g (.int a) H Q := ⟨a, rfl, k⟩
theorem r_eqI {a b : Int} (k : Q (.bl (decide (a = b))) H) : rEq (.int a) (.int b) H Q := ⟨rfl, by
  have e : decide (V.int a = V.int b) = decide (a = b) := by
    by_cases h : a = b
    · subst h
      simp
    · rw [decide_eq_false h, decide_eq_false (fun q => h (V.int.inj q))]
  rw [e]
  exact k⟩
theorem r_neI {a b : Int} (k : Q (.bl (!decide (a = b))) H) : rNe (.int a) (.int b) H Q := ⟨rfl, by
  have e : decide (V.int a = V.int b) = decide (a = b) := by
    by_cases h : a = b
    · subst h
      simp
    · rw [decide_eq_false h, decide_eq_false (fun q => h (V.int.inj q))]
  rw [e]
  exact k⟩
theorem r_eqB {a b : Bool} (k : Q (.bl (decide (a = b))) H) : rEq (.bl a) (.bl b) H Q := ⟨rfl, by
  have e : decide (V.bl a = V.bl b) = decide (a = b) := by cases a <;> cases b <;> decide
  rw [e]
  exact k⟩
theorem r_neB {a b : Bool} (k : Q (.bl (!decide (a = b))) H) : rNe (.bl a) (.bl b) H Q := ⟨rfl, by
  have e : decide (V.bl a = V.bl b) = decide (a = b) := by cases a <;> cases b <;> decide
  rw [e]
  exact k⟩
theorem r_ixL {p : Addr} {xs : List V} {n : Int} (h : SqL K H p xs) (ha : atI xs n = some v) (k : Q v H) : rIxL K (.ref p) (.int n) H Q := ⟨p, xs, n, v, rfl, rfl, h, ha, k⟩
theorem r_ixT {p : Addr} {xs : List V} {n : Int} (h : SqT K H p xs) (ha : atI xs n = some v) (k : Q v H) : rIxT K (.ref p) (.int n) H Q := ⟨p, xs, n, v, rfl, rfl, h, ha, k⟩
end
/-! tests -/
section
variable {A B : Prop}
theorem f_T {c : Prop} {dc : Decidable c} (h : c) (k : A) : if decide c = true then A else B := by
  rw [if_pos (decide_eq_true h)]
  exact k
theorem f_F {c : Prop} {dc : Decidable c} (h : ¬ c) (k : B) : if decide c = true then A else B := by
  rw [if_neg (by rw [decide_eq_false h]; decide)]
  exact k
theorem f_2 {c : Prop} {dc : Decidable c} (h1 : c → A) (h2 : ¬ c → B) : if decide c = true then A else B := by
  by_cases h : c
  · exact f_T h (h1 h)
  · exact f_F h (h2 h)
theorem f_b {b : Bool} (h1 : b = true → A) (h2 : b = false → B) : if b = true then A else B := by
  cases b with
  | true => exact iteT (h1 rfl)
  | false => exact iteF (h2 rfl)
theorem f_not {b : Bool} (k : if b = true then B else A) : if (!b) = true then A else B := by
  cases b with
  | true => exact k
  | false => exact k
theorem f_bT {b : Bool} (h : b = true) (k : A) : if b = true then A else B := by
  rw [if_pos h]
  exact k
theorem f_bF {b : Bool} (h : b = false) (k : B) : if b = true then A else B := by
  rw [h]
  exact iteF k
end
end Z
namespace Z
open PySem PySem.Spec PyProof.Rows L2
/-! ### bodies that may raise: what a call lets out leaves the body -/
section
variable {P : Program} {w : World} {K : PySem.W.Frag} {mg : Str → Option Value} {base : Heap} {N : List Str} {ql : Str} {sc : Scope} {f : Addr} {cd : Value} {A : Around} {outer : List Env} {s : Shared} {H : Hp} {E : XK}
theorem pT : Takes (cxOf (L2.CX P w) P w K mg base N ql sc f cd A outer s H E) (fun cls d _ H => E cls d H) := takes_of rfl rfl rfl rfl
theorem pX : Passes (L2.CX P w) (cxOf (L2.CX P w) P w K mg base N ql sc f cd A outer s H E) E := passes_call pT fun _ _ _ _ h => h
theorem pO : PassesOwn (model P w) (cxOf (L2.CX P w) P w K mg base N ql sc f cd A outer s H E).A (cxOf (L2.CX P w) P w K mg base N ql sc f cd A outer s H E).env (cxOf (L2.CX P w) P w K mg base N ql sc f cd A outer s H E).xe := passes_of rfl
end
/-! ### the pen -/
/-- a pen that may draw n times more -/
def PenAt (K : PySem.W.Frag) (H : Hp) (p : Addr) (n : Nat) : Prop := ∃ (l : Addr) (cs : List Int) (i j : Int), H p = some (.lst [.ref l, .int i, .int j]) ∧ H l = some (.lst (cs.map V.int)) ∧ 0 ≤ i ∧ i + n ≤ 1000000 ∧ cs.length ≤ 1000
theorem PenAt.ex {K : PySem.W.Frag} {H H' : Hp} {p : Addr} {n : Nat} (e : Ex H H') (h : PenAt K H p n) : PenAt K H' p n := by
  obtain ⟨l, cs, i, j, h1, h2, h3, h4, h5⟩ := h
  exact ⟨l, cs, i, j, e _ _ h1, e _ _ h2, h3, h4, h5⟩
theorem PenAt.mono {K : PySem.W.Frag} {H : Hp} {p : Addr} {n m : Nat} (h : PenAt K H p n) (hm : m ≤ n) : PenAt K H p m := by
  obtain ⟨l, cs, i, j, h1, h2, h3, h4, h5⟩ := h
  exact ⟨l, cs, i, j, h1, h2, h3, by omega, h5⟩
def spPen (K : PySem.W.Frag) : Sp := fun vs H Q _ => ∃ (a : Addr) (ns : List Int), vs = [.ref a] ∧ SqL K H a (ns.map V.int) ∧ ∀ p H', Ex H H' → PenAt K H' p 1000000 → Q (.ref p) H'
def spDraw (K : PySem.W.Frag) : Sp := fun vs H Q _ => ∃ (p : Addr) (m : Int) (n : Nat), vs = [.ref p, .int m] ∧ PenAt K H p (n + 1) ∧ 0 < m ∧ m.natAbs.log2 < 9000 ∧ ∀ r H', Gr H H' → PenAt K H' p n → 0 ≤ r → r < m → But p H H' → Q (.int r) H'
theorem Ex.bt {p : Addr} {H H' : Hp} (e : Ex H H') : But p H H' := fun a o _ h => e a o h
end Z
namespace Z
open PySem PySem.Spec PyProof.Rows L2
/-! ### readings with names -/
abbrev RC := List V → Hp → VK → Prop
def rInt1 : RC := fun xs H Q => (∃ i, xs = [.int i] ∧ Q (.int i) H) ∨ ∃ k, xs = [.bl k] ∧ Q (.int (if k then 1 else 0)) H
def rBool1 : RC := fun xs H Q => (∃ i, xs = [.int i] ∧ Q (.bl (i != 0)) H) ∨ ∃ k, xs = [.bl k] ∧ Q (.bl k) H
def rAbs : RC := fun xs H Q => ∃ i, xs = [.int i] ∧ Q (.int (if i < 0 then -i else i)) H
def rLenS (K : PySem.W.Frag) : RC := fun xs H Q => ∃ p ys, xs = [.ref p] ∧ (SqL K H p ys ∨ SqT K H p ys) ∧ Q (.int ys.length) H
def rListOf (K : PySem.W.Frag) : RC := fun xs H Q => ∃ p ys, xs = [.ref p] ∧ (SqL K H p ys ∨ SqT K H p ys) ∧ ∀ l, H l = none → Q (.ref l) (upd H l (.lst ys))
section
variable {X : Cx}
theorem zc_int : CallR X (.type "int") rInt1 := call_int1
theorem zc_bool : CallR X (.type "bool") rBool1 := call_bool1
theorem zc_abs : CallR X (.builtin "abs") rAbs := call_abs
theorem zc_len : CallR X (.builtin "len") (rLenS X.K) := call_len_seq
theorem zc_list : CallR X (.type "list") (rListOf X.K) := call_list_of
end
section
variable {K : PySem.W.Frag} {σ : L2.St} {H : Hp} {Q : VK} {QT : Bool → Hp → Prop} {QA : List V → Hp → Prop} {D : Ends} {E : XK} {te : TE} {tl th : TO} {tr : TA}
theorem r_intI {a : Int} (k : Q (.int a) H) : rInt1 [.int a] H Q := Or.inl ⟨a, rfl, k⟩
theorem r_intB {b : Bool} (k : Q (.int (if b then 1 else 0)) H) : rInt1 [.bl b] H Q := Or.inr ⟨b, rfl, k⟩
theorem r_boolI {a : Int} (k : Q (.bl (a != 0)) H) : rBool1 [.int a] H Q := Or.inl ⟨a, rfl, k⟩
theorem r_boolB {b : Bool} (k : Q (.bl b) H) : rBool1 [.bl b] H Q := Or.inr ⟨b, rfl, k⟩
theorem r_abs {a : Int} (k : Q (.int (if a < 0 then -a else a)) H) : rAbs [.int a] H Q := ⟨a, rfl, k⟩
theorem r_lenL {p : Addr} {ys : List V} (h : SqL K H p ys) (k : Q (.int ys.length) H) : rLenS K [.ref p] H Q := ⟨p, ys, rfl, Or.inl h, k⟩
theorem r_lenT {p : Addr} {ys : List V} (h : SqT K H p ys) (k : Q (.int ys.length) H) : rLenS K [.ref p] H Q := ⟨p, ys, rfl, Or.inr h, k⟩
theorem r_listL {p : Addr} {ys : List V} (h : SqL K H p ys) (k : ∀ l H', H l = none → Ex H H' → H' l = some (.lst ys) → Q (.ref l) H') : rListOf K [.ref p] H Q := ⟨p, ys, rfl, Or.inl h, s_new k⟩
theorem r_listT {p : Addr} {ys : List V} (h : SqT K H p ys) (k : ∀ l H', H l = none → Ex H H' → H' l = some (.lst ys) → Q (.ref l) H') : rListOf K [.ref p] H Q := ⟨p, ys, rfl, Or.inr h, s_new k⟩
theorem s_slc {r : V → Option Int → Option Int → Hp → VK → Prop} (k : te σ H fun x H1 => tl σ H1 fun l H2 => th σ H2 fun u H3 => r x l u H3 Q) : tSl r te tl th σ H Q := k
theorem s_noPart {QO : Option Int → Hp → Prop} (k : QO none H) : tNoPart σ H QO := k
theorem s_part {QO : Option Int → Hp → Prop} (k : te σ H fun x H1 => ∃ i, x = .int i ∧ QO (some i) H1) : tPart te σ H QO := k
theorem v_int {QO : Option Int → Hp → Prop} {a : Int} (k : QO (some a) H) : ∃ i, V.int a = .int i ∧ QO (some i) H := ⟨a, rfl, k⟩
theorem r_slL {p : Addr} {ys : List V} {lo hi : Option Int} (h : SqL K H p ys) (k : ∀ l H', H l = none → Ex H H' → H' l = some (.lst (cutV ys lo hi)) → Q (.ref l) H') : rSlL K (.ref p) lo hi H Q := ⟨p, ys, rfl, h, s_new k⟩
theorem v_pair {N : V → V → Hp → Prop} {a b : V} (k : N a b H) : ∃ v w, [a, b] = [v, w] ∧ N v w H := ⟨a, b, rfl, k⟩
theorem r_setL {p : Addr} {xs : List V} {n : Int} {j : Nat} {v : V} {N : Hp → Prop} (h : H p = some (.lst xs)) (hj : ixN xs.length n = some j) (k : ∀ H', But p H H' → H' p = some (.lst (xs.set j v)) → N H') : rSetL (.ref p) (.int n) v H N :=
  ⟨p, xs, n, j, rfl, rfl, h, hj, k _ But.upd upd_same⟩
theorem s_newN {xs : List V} {o : HO} (h : xs.length ≤ 1000) (k : ∀ p H', H p = none → Ex H H' → H' p = some o → Q (.ref p) H') : xs.length ≤ sizeLine ∧ NewO Q o H := ⟨Nat.le_trans h (by decide), s_new k⟩
end
end Z
namespace Z
open PySem PySem.Spec PyProof.Rows L2
theorem cut_upto {ns : List Int} {m : Nat} : cutV (ns.map V.int) none (some (m : Int)) = (ns.take m).map V.int := by
  unfold cutV
  have e1 : HT.sIx (ns.map V.int).length 0 none = 0 := rfl
  rw [e1]
  have e2 : HT.sIx (ns.map V.int).length (ns.map V.int).length (some (m : Int)) = min m ns.length := by
    simp [HT.sIx]
    omega
  rw [e2, List.drop_zero, Nat.sub_zero, List.map_take]
  by_cases h : m ≤ ns.length
  · rw [Nat.min_eq_left h]
  · rw [Nat.min_eq_right (by omega), List.take_of_length_le (by simp), List.take_of_length_le (by simp; omega)]
end Z
namespace Z
open PySem PySem.Spec PyProof.Rows L2
theorem But.gr {p l : Addr} {H H' : Hp} {i j i' j' : Int} (e : But p H H') (h : H p = some (.lst [.ref l, .int i, .int j])) (h' : H' p = some (.lst [.ref l, .int i', .int j'])) : Gr H H' := fun a u ha => by
  by_cases z : a = p
  · subst z
    rw [h] at ha
    cases ha
    exact ⟨_, _, h'⟩
  · rw [e a u z ha]
    exact penTo_self u
theorem PenAt.set {K : PySem.W.Frag} {H H' : Hp} {p l : Addr} {cs : List Int} {i j i' j' : Int} {n' : Nat} (h : H p = some (.lst [.ref l, .int i, .int j])) (hl : H l = some (.lst (cs.map V.int))) (hc : cs.length ≤ 1000) (e : But p H H')
    (h' : H' p = some (.lst [.ref l, .int i', .int j'])) (h1 : 0 ≤ i') (h2 : i' + n' ≤ 1000000) : Gr H H' ∧ PenAt K H' p n' := by
  have g := e.gr h h'
  exact ⟨g, l, cs, i', j', h', g.get hl (pen_ints _), h1, h2, hc⟩
/-- something that was not there when the pen was is changed -/
theorem PenAt.but {K : PySem.W.Frag} {H H1 H2 : Hp} {p q : Addr} {n0 n : Nat} (h0 : PenAt K H p n0) (g : Gr H H1) (h1 : PenAt K H1 p n) (hq : H q = none) (e : But q H1 H2) : PenAt K H2 p n := by
  obtain ⟨l, cs, i, j, a1, a2, _, _, _⟩ := h0
  obtain ⟨l', cs', i', j', b1, b2, b3, b4, b5⟩ := h1
  obtain ⟨i2, j2, c1⟩ := g p _ a1
  rw [b1] at c1
  have el : l' = l := by
    injection c1 with c2
    injection c2 with c3
    injection c3 with c4
    injection c4
  subst el
  exact ⟨l', cs', i', j', e _ _ (ne_of_none a1 hq) b1, e _ _ (ne_of_none a2 hq) b2, b3, b4, b5⟩
/-- .. and all else is as it was -/
theorem Gr.but {H H1 H2 : Hp} {q : Addr} (g : Gr H H1) (hq : H q = none) (e : But q H1 H2) : Gr H H2 := fun a o h => by
  have h1 := g a o h
  have ne : a ≠ q := ne_of_none h hq
  unfold penTo at h1 ⊢
  split at h1
  · obtain ⟨i, j, h2⟩ := h1
    exact ⟨i, j, e a _ ne h2⟩
  · exact e a _ ne h1
theorem pow_bound {x : Int} {a : Nat} (h0 : 0 ≤ x) (h1 : x < 2 ^ a) : x.natAbs < 2 ^ a := by
  have := Int.natAbs_of_nonneg h0
  have h2 : (x.natAbs : Int) < ((2 ^ a : Nat) : Int) := by rw [this]; simpa using h1
  exact Int.ofNat_lt.mp h2
end Z
namespace Z
open PySem PySem.Spec PyProof.Rows L2
theorem dp_ints {K : PySem.W.Frag} {H : Hp} : ∀ ns : List Int, DpAll K H (ns.map V.int) (ns.map PyData.int)
  | [] => .nil
  | a :: r => .cons (.int a) (dp_ints r)
theorem lay_ints : ∀ ns : List Int, PyData.canLayAll0 (ns.map PyData.int) = true
  | [] => rfl
  | a :: r => by
    show (true && PyData.canLayAll0 (r.map PyData.int)) = true
    rw [lay_ints r]
    rfl
theorem deep_ints : ∀ ns : List Int, PyData.depthAll (ns.map PyData.int) = 0
  | [] => rfl
  | a :: r => by
    show max 0 (PyData.depthAll (r.map PyData.int)) = 0
    rw [deep_ints r]
    rfl
theorem shaped_ints (ns : List Int) : SeqAt.shaped (.list (ns.map PyData.int)) = true := by
  unfold SeqAt.shaped
  have e1 : (PyData.list (ns.map PyData.int)).canLay0 = true := lay_ints ns
  have e2 : (PyData.list (ns.map PyData.int)).depth = 1 := by
    show PyData.depthAll (ns.map PyData.int) + 1 = 1
    rw [deep_ints]
  rw [e1, e2]
  rfl
theorem eqvAll_ints : ∀ as bs : List Int, PyData.eqvAll (as.map PyData.int) (bs.map PyData.int) = decide (as = bs)
  | [], [] => by simp [PyData.eqvAll]
  | [], b :: s => by simp [PyData.eqvAll]
  | a :: r, [] => by simp [PyData.eqvAll]
  | a :: r, b :: s => by
    have ih := eqvAll_ints r s
    simp only [List.map_cons, PyData.eqvAll, PyData.eqv, ih, List.cons.injEq]
    by_cases h1 : a = b <;> by_cases h2 : r = s <;> simp [h1, h2]
theorem eqv_ints (as bs : List Int) : PyData.eqv (.list (as.map PyData.int)) (.list (bs.map PyData.int)) = decide (as = bs) := by
  have h := eqvAll_ints as bs
  simp only [PyData.eqv]
  exact h
section
variable {K : PySem.W.Frag} {H : Hp} {Q : VK} {p q : Addr} {as bs : List Int}
theorem r_eqL (h1 : SqL K H p (as.map V.int)) (h2 : SqL K H q (bs.map V.int)) (k : Q (.bl (decide (as = bs))) H) : rEqD K (.ref p) (.ref q) H Q :=
  ⟨_, _, .lst h1 (dp_ints as), .lst h2 (dp_ints bs), shaped_ints as, shaped_ints bs, by rw [eqv_ints]; exact k⟩
theorem r_neL (h1 : SqL K H p (as.map V.int)) (h2 : SqL K H q (bs.map V.int)) (k : Q (.bl (!decide (as = bs))) H) : rNeD K (.ref p) (.ref q) H Q :=
  ⟨_, _, .lst h1 (dp_ints as), .lst h2 (dp_ints bs), shaped_ints as, shaped_ints bs, by rw [eqv_ints]; exact k⟩
end
end Z
namespace Z
open PySem PySem.Spec PyProof.Rows L2
section
variable {K : PySem.W.Frag} {H : Hp} {Q : VK} {p q : Addr} {as bs : List Int}
theorem r_eqL0 (h1 : SqL K H p (as.map V.int)) (h2 : SqL K H q []) (k : Q (.bl (decide (as = []))) H) : rEqD K (.ref p) (.ref q) H Q := r_eqL (bs := []) h1 h2 k
theorem r_neL0 (h1 : SqL K H p (as.map V.int)) (h2 : SqL K H q []) (k : Q (.bl (!decide (as = []))) H) : rNeD K (.ref p) (.ref q) H Q := r_neL (bs := []) h1 h2 k
end
theorem atI_lt {xs : List V} {k : Int} (h0 : 0 ≤ k) (h1 : k < xs.length) : atI xs k = some (xs[k.toNat]'(by omega)) := by
  unfold atI ixN
  rw [if_pos (by omega), if_pos (by omega)]
  simp only [Option.bind_some]
  exact List.getElem?_eq_getElem _
theorem atI_ints {cs : List Int} {k : Int} (h0 : 0 ≤ k) (h1 : k < cs.length) : atI (cs.map V.int) k = some (.int (cs[k.toNat]'(by omega))) := by
  rw [atI_lt h0 (by simpa using h1)]
  simp
end Z

/-! Z: what the head tells: function objects by paths, and a list of truths. -/
namespace Z
open PySem PySem.Spec PyProof.Rows L2 He

/-- a def of the text: where its function object stands, its names, its statement, its defaults -/
structure Fn where
  ad : PySem.W.Frag → Addr
  nm : Str
  ql : Str
  st : Stmt
  df : List Dv := []
  kd : List (Str × Dv) := []
  er : Bool := false
def fnAt (K : PySem.W.Frag) (a : Addr) : FnW :=
  (K.lookup a).bind fun o => match o.data with
    | .func d => some (d.name, d.qualname, d.params, d.body, d.scope, d.globals, d.closure, d.builtins)
    | _ => none
/-- the same without the closure (an error's __init__) -/
def fnAtE (K : PySem.W.Frag) (a : Addr) : FnW := (K.lookup a).bind fun o => match o.data with
  | .func d => some (d.name, d.qualname, d.params, d.body, d.scope, d.globals, [], d.builtins)
  | _ => none
def Fn.at_ (f : Fn) (K : PySem.W.Frag) : FnW := if f.er then fnAtE K (f.ad K) else fnAt K (f.ad K)
def Fn.due (f : Fn) : FnW := some (f.nm, f.ql, defArgs f.st, .stmts (defBody f.st), defScope f.st, mainGlobals, [], builtinsNs)
def Fn.vs (f : Fn) (K : PySem.W.Frag) : List V := f.df.map (Dv.v K)
def Fn.ks (f : Fn) (K : PySem.W.Frag) : List (Str × V) := f.kd.map fun q => (q.1, q.2.v K)
def Fn.good (f : Fn) (K : PySem.W.Frag) : Bool := f.er || PySem.W.keepIn K (.ref (f.ad K)) && match (K.lookup (f.ad K)).map (fun o : Obj => o.data) with
  | some (PySem.Data.func d) => PySem.W.codeIn K d.code f.ql && (dflB K d.defaults (f.vs K) && kwdB K d.kwdefaults (f.ks K))
  | _ => false
theorem Fn.fun (f : Fn) {K : PySem.W.Frag} (e : fnAt K (f.ad K) = f.due) (c : f.good K = true) (he : f.er = false) :
    ∃ d, FunD K f.nm f.ql (defArgs f.st) (defBody f.st) (defScope f.st) (f.vs K) (f.ks K) (f.ad K) d := by
  unfold Fn.good at c
  rw [he, Bool.false_or] at c
  obtain ⟨kp, c⟩ := Bool.and_eq_true_iff.mp c
  unfold fnAt at e
  cases q : K.lookup (f.ad K) with
  | none =>
    rw [q] at c
    cases c
  | some o =>
    obtain ⟨oc, od, dt, osl⟩ := o
    rw [q] at c e
    cases dt with
    | func d =>
      obtain ⟨n1, n2, n3, n4, n5, n6, n7, n8, n9, n10, n11, n12, n13, n14, n15⟩ := d
      have e2 : some (n1, n2, n3, n4, n5, n6, n7, n15) = f.due := e
      unfold Fn.due at e2
      simp only [Option.some.injEq, Prod.mk.injEq] at e2
      obtain ⟨h1, h2, h3, h4, h5, h6, h7, h8⟩ := e2
      subst h1 h2 h3 h4 h5 h6 h7 h8
      obtain ⟨k1, k2⟩ := Bool.and_eq_true_iff.mp (show (PySem.W.codeIn K n13 f.ql && (dflB K n8 (f.vs K) && kwdB K n9 (f.ks K))) = true from c)
      obtain ⟨k3, k4⟩ := Bool.and_eq_true_iff.mp k2
      exact ⟨_, ⟨oc, od, n8, n9, n10, n11, n12, n13, n14, osl, rfl, q, k1, dflB_ok k3, kwdB_ok k4⟩, kp⟩
    | _ => cases c
/-- what is told of the written part -/
structure Says (fs : List Fn) (ex : PySem.W.Frag → List Bool) (K : PySem.W.Frag) : Prop where
  fn : fs.map (fun f => f.at_ K) = fs.map Fn.due
  ok : (fs.all fun f => f.good K) = true
  ex : ((ex K).all fun b => b) = true
theorem Says.def_ {fs : List Fn} {ex : PySem.W.Frag → List Bool} {K : PySem.W.Frag} (c : Says fs ex K) (i : Nat) {f : Fn} (h : fs[i]? = some f := by rfl) (he : f.er = false := by rfl) :
    ∃ d, FunD K f.nm f.ql (defArgs f.st) (defBody f.st) (defScope f.st) (f.vs K) (f.ks K) (f.ad K) d := by
  have e := congrArg (fun l => l[i]?) c.fn
  simp only [List.getElem?_map, h, Option.map_some, Option.some.injEq] at e
  unfold Fn.at_ at e
  rw [he] at e
  exact f.fun e (List.all_eq_true.mp c.ok f (List.mem_of_getElem? h)) he
theorem Says.err_ {fs : List Fn} {ex : PySem.W.Frag → List Bool} {K : PySem.W.Frag} (c : Says fs ex K) (i : Nat) {f : Fn} (h : fs[i]? = some f := by rfl) (he : f.er = true := by rfl) : fnAtE K (f.ad K) = f.due := by
  have e := congrArg (fun l => l[i]?) c.fn
  simp only [List.getElem?_map, h, Option.map_some, Option.some.injEq] at e
  unfold Fn.at_ at e
  rw [he] at e
  exact e
theorem Says.at_ {fs : List Fn} {ex : PySem.W.Frag → List Bool} {K : PySem.W.Frag} (c : Says fs ex K) (i : Nat) {b : Bool} (h : (ex K)[i]? = some b := by rfl) : b = true :=
  List.all_eq_true.mp c.ex b (List.mem_of_getElem? h)
theorem Says.dec {fs : List Fn} {ex : PySem.W.Frag → List Bool} {K : PySem.W.Frag} (c : Says fs ex K) (i : Nat) {p : Prop} {dp : Decidable p} (h : (ex K)[i]? = some (@decide p dp) := by rfl) : p :=
  of_decide_eq_true (c.at_ i h)
abbrev Al : Type := List FnW × (Bool × Bool)
def obs (n : Nat) (fs : List Fn) (ex : PySem.W.Frag → List Bool) (g : Addr → Option Obj) : Al :=
  (fs.map (fun f => f.at_ (frG g (PySem.cStatics :: asD g n))), (fs.all fun f => f.good (frG g (PySem.cStatics :: asD g n))), (ex (frG g (PySem.cStatics :: asD g n))).all fun b => b)
def val (fs : List Fn) : Al := (fs.map Fn.due, true, true)
def hook (n : Nat) (fs : List Fn) (ex : PySem.W.Frag → List Bool) : PySem.W.Hook where
  α := Al
  obs := fun s => obs n fs ex s.heap.get?
  val := fun _ => val fs
  says := fun _ h => ∃ K : PySem.W.Frag, K.In h ∧ Says fs ex K
  of := fun _ _ e => ⟨_, frG_in, ⟨congrArg (·.1) e, congrArg (·.2.1) e, congrArg (·.2.2) e⟩⟩
  keeps := fun _ _ _ ⟨K, hK, c⟩ k => ⟨K, PySem.W.Frag.In.keeps hK k, c⟩
theorem obs_eq {n : Nat} {fs : List Fn} {ex : PySem.W.Frag → List Bool} {g : Addr → Option Obj} {s : Shared} (h : ∀ a, g a = s.heap.get? a) : obs n fs ex g = (hook n fs ex).obs s := by
  have e : g = s.heap.get? := funext h
  rw [e]
  rfl
/-- the object that a record names first -/
def recAd (K : PySem.W.Frag) (p : Addr) (T : String) : Addr := match PySem.W.recIn K p T with
  | some (.ref g :: _) => g
  | _ => 0
end Z

/-! Z: operators of own classes, by their methods' promises. -/
namespace Z
open PySem PySem.Spec PyProof.Rows L2
section
variable {X : Cx} {CX : CXT} {k : Nat} {C f : Addr} {fd : FuncData} {ps : List Str} {sp : Sp} {E : XK}
/-- the instance at a, as the library sees it -/
theorem ins_look {pins : List (Addr × Obj)} {σ : L2.St} {H : Hp} {s : Shared} {a dx : Addr} {fs : List (Str × V)} (I : Inv X pins σ H s) (e : H a = some (.ins C dx fs)) :
    ∃ ox od, PySem.W.InstAt s.heap a ox C od := by
  obtain ⟨mA, o, _⟩ := ins_get I.hok e
  obtain ⟨od, h, _⟩ := o.look
  exact ⟨_, _, h⟩
theorem back_of {pins : List (Addr × Obj)} {σ : L2.St} {Q : VK} {v : Value} {s : Shared} (h : EP X pins σ Q v s) : PySem.W.CmpBack (EP X pins σ Q) v s := by
  cases v with
  | notImplemented =>
    obtain ⟨x, H', _, r, _⟩ := h
    cases x <;> first | exact nomatch r | (obtain ⟨_, r⟩ := r; exact nomatch r)
  | _ => exact h
/-- a op b, two instances of the class at C -/
def rOO (C : Addr) (sp : Sp) (E : XK) : R2 := fun x y H Q => ∃ a b dx dy fs gs, x = .ref a ∧ y = .ref b ∧ H a = some (.ins C dx fs) ∧ H b = some (.ins C dy gs) ∧ sp [.ref a, .ref b] H Q E
theorem op_oo {op : Operator} (hc : PySem.W.selfFirst X.K C = true) (hs : PySem.W.findIn X.K (.ref C) (PySem.dunder op.info.2) = some (some (.ref f))) (hf : PySem.W.isFn X.K (.ref f) = true)
    (F : FnOk X.prog X.w X.K X.mg X.base CX k f fd ps sp) (hr : Room k X.A) (hb : Binds X.K fd ps []) (hx : Passes CX X E) : OpR X (binaryOp op) (rOO C sp E) := by
  intro pins s σ H x y v u Q I rx ry h
  obtain ⟨a, b, dx, dy, fs, gs, rfl, rfl, ha, hb2, hsp⟩ := h
  obtain rfl : v = Value.ref a := rx
  obtain rfl : u = Value.ref b := ry
  obtain ⟨ox, od, i1⟩ := ins_look I ha
  obtain ⟨oy, oe, i2⟩ := ins_look I hb2
  obtain ⟨m, fr⟩ := I.fr
  refine PySem.W.binop_K fr I.ok.mod.kin i1 i2.type hc hs hf (wpAny_mono (run_fn (vs := [.ref a, .ref b]) F hr hb .nil hx I (.cons rfl (.cons rfl .nil)) (by simpa using hsp)) (fun _ _ q => back_of q) fun _ _ q => q)
/-- a op n, an instance and an int -/
def rOI (C : Addr) (sp : Sp) (E : XK) : R2 := fun x y H Q => ∃ a n dx fs, x = .ref a ∧ y = .int n ∧ H a = some (.ins C dx fs) ∧ sp [.ref a, .int n] H Q E
theorem op_oi {op : Operator} {rc : Option Value} (hc : PySem.W.selfFirst X.K C = true) (hs : PySem.W.findIn X.K (.ref C) (PySem.dunder op.info.2) = some (some (.ref f))) (hf : PySem.W.isFn X.K (.ref f) = true)
    (hr2 : PySem.W.findIn X.K (.ref C) (dunderR op.info.2) = some rc) (hp : rc = none ∨ ∃ g : Addr, rc = some (.ref g)) (h1 : (PySem.W.findIn X.K (.type "int") (PySem.dunder op.info.2)).isSome = true) (h2 : (PySem.W.findIn X.K (.type "int") (dunderR op.info.2)).isSome = true)
    (hsub : PySem.W.subIn X.K (.type "int") (.ref C) = some false)
    (F : FnOk X.prog X.w X.K X.mg X.base CX k f fd ps sp) (hr : Room k X.A) (hb : Binds X.K fd ps []) (hx : Passes CX X E) : OpR X (binaryOp op) (rOI C sp E) := by
  intro pins s σ H x y v u Q I rx ry h
  obtain ⟨a, n, dx, fs, rfl, rfl, ha, hsp⟩ := h
  obtain rfl : v = Value.ref a := rx
  obtain ⟨t, rfl⟩ : ∃ t, u = Value.int n t := ry
  obtain ⟨ox, od, i1⟩ := ins_look I ha
  obtain ⟨m, fr⟩ := I.fr
  refine PySem.W.ksp_binT fr I.ok.mod.kin i1 rfl hc hs hf hr2 hp (Option.isSome_iff_exists.mp h1).choose_spec (Option.isSome_iff_exists.mp h2).choose_spec hsub (wpAny_mono (run_fn (vs := [.ref a, .int n]) F hr hb .nil hx I (.cons rfl (.cons ⟨t, rfl⟩ .nil)) (by simpa using hsp)) (fun _ _ q => back_of q) fun _ _ q => q)
/-- a cmp b, two instances -/
theorem op_cc {op : CmpOp} (hop : ∀ a b, compareOp op a b = richCompare op a b) (hs : PySem.W.findIn X.K (.ref C) (cmpInfo op).2.1 = some (some (.ref f))) (hf : PySem.W.isFn X.K (.ref f) = true)
    (F : FnOk X.prog X.w X.K X.mg X.base CX k f fd ps sp) (hr : Room k X.A) (hb : Binds X.K fd ps []) (hx : Passes CX X E) : OpR X (compareOp op) (rOO C sp E) := by
  intro pins s σ H x y v u Q I rx ry h
  obtain ⟨a, b, dx, dy, fs, gs, rfl, rfl, ha, hb2, hsp⟩ := h
  obtain rfl : v = Value.ref a := rx
  obtain rfl : u = Value.ref b := ry
  obtain ⟨ox, od, i1⟩ := ins_look I ha
  obtain ⟨oy, oe, i2⟩ := ins_look I hb2
  obtain ⟨m, fr⟩ := I.fr
  rw [hop]
  have hu := hr.un
  refine PySem.W.cmp_K (by omega) fr I.ok.mod.kin i1 i2.type (by unfold PySem.W.notFirst; simp) hs hf (wpAny_mono (run_fn (vs := [.ref a, .ref b]) F hr hb .nil hx I (.cons rfl (.cons rfl .nil)) (by simpa using hsp)) (fun _ _ q => back_of q) fun _ _ q => q)
/-- ~a -/
def rO1 (C : Addr) (sp : Sp) (E : XK) : V → Hp → VK → Prop := fun x H Q => ∃ a dx fs, x = .ref a ∧ H a = some (.ins C dx fs) ∧ sp [.ref a] H Q E
theorem un_inv_o (hs : PySem.W.findIn X.K (.ref C) "__invert__" = some (some (.ref f))) (hf : PySem.W.isFn X.K (.ref f) = true)
    (F : FnOk X.prog X.w X.K X.mg X.base CX k f fd ps sp) (hr : Room k X.A) (hb : Binds X.K fd ps []) (hx : Passes CX X E) : UnR X (unaryOp .Invert) (rO1 C sp E) := by
  intro pins s σ H x v Q I rx h
  obtain ⟨a, dx, fs, rfl, ha, hsp⟩ := h
  obtain rfl : v = Value.ref a := rx
  obtain ⟨ox, od, i1⟩ := ins_look I ha
  obtain ⟨m, fr⟩ := I.fr
  exact PySem.W.ksp_inv fr I.ok.mod.kin i1 hs hf (run_fn (vs := [.ref a]) F hr hb .nil hx I (.cons rfl .nil) (by simpa using hsp))
end
end Z
namespace Z
open PySem PySem.Spec PyProof.Rows L2
open AutoSeq1 (wpAny_loadPart')
abbrev Declines (B : Builtin) : Prop := ∀ (b : Int) (u : Tok) (l C : Addr) (dx : Option Addr) (sl : Array (Option Value)),
    Meets (B ⟨[.int b u, .ref l], []⟩) (fun _ R s => s.heap.get? l = some { cls := .ref C, dict := dx, data := .plain, slots := sl } ∧ R (.ok (.ret .notImplemented)) s)
theorem no_mul : Declines Builtin.«int.__mul__» := fun b u l C dx sl => .of_wp fun prog w A R s h => by
  obtain ⟨hp, g, d, tk, os⟩ := s
  obtain ⟨hl, h⟩ := h
  wp_walk using wpAny_loadPart' hl, wpAny_load hl
  exact ⟨_, rfl, h⟩
theorem no_add : Declines Builtin.«int.__add__» := fun b u l C dx sl => .of_wp fun prog w A R s h => by
  obtain ⟨hp, g, d, tk, os⟩ := s
  obtain ⟨hl, h⟩ := h
  wp_walk using wpAny_loadPart' hl, wpAny_load hl
  exact ⟨_, rfl, h⟩
theorem no_sub : Declines Builtin.«int.__sub__» := fun b u l C dx sl => .of_wp fun prog w A R s h => by
  obtain ⟨hp, g, d, tk, os⟩ := s
  obtain ⟨hl, h⟩ := h
  wp_walk using wpAny_loadPart' hl, wpAny_load hl
  exact ⟨_, rfl, h⟩
theorem no_xor : Declines Builtin.«int.__xor__» := fun b u l C dx sl => .of_wp fun prog w A R s h => by
  obtain ⟨hp, g, d, tk, os⟩ := s
  obtain ⟨hl, h⟩ := h
  wp_walk using wpAny_loadPart' hl, wpAny_load hl
  exact ⟨_, rfl, h⟩

/-- n op b, an int and an instance: the instance's reflected method -/
def rIO (C : Addr) (sp : Sp) (E : XK) : R2 := fun x y H Q => ∃ n b dx fs, x = .int n ∧ y = .ref b ∧ H b = some (.ins C dx fs) ∧ sp [.ref b, .int n] H Q E
section
variable {X : Cx} {CX : CXT} {k : Nat} {C f f0 : Addr} {fd : FuncData} {ps : List Str} {sp : Sp} {E : XK}
theorem op_io {op : Operator} {idl : String} {B : Builtin} (slot : Slot "int" (PySem.dunder op.info.2) idl) (entry : entryFor table idl = some B) (args : ∀ a b, argsOk idl ⟨[a, b], []⟩) (no : Declines B)
    (fi : fillsNumberSlot (.type "int") op.info.2 = pure true) (hc : PySem.W.selfFirst X.K C = true)
    (hs : PySem.W.findIn X.K (.ref C) (dunderR op.info.2) = some (some (.ref f))) (h0 : PySem.W.findIn X.K (.ref C) (PySem.dunder op.info.2) = some (some (.ref f0))) (hf : PySem.W.isFn X.K (.ref f) = true)
    (hsub : PySem.W.subIn X.K (.ref C) (.type "int") = some false)
    (F : FnOk X.prog X.w X.K X.mg X.base CX k f fd ps sp) (hr : Room k X.A) (hb : Binds X.K fd ps []) (hx : Passes CX X E) : OpR X (binaryOp op) (rIO C sp E) := by
  intro pins s σ H x y v u Q I rx ry h
  obtain ⟨n, b, dx, fs, rfl, rfl, hb1, hsp⟩ := h
  obtain rfl : u = Value.ref b := ry
  obtain ⟨t, rfl⟩ : ∃ t, v = Value.int n t := rx
  obtain ⟨mA, o, _⟩ := ins_get I.hok hb1
  obtain ⟨od, i1, _⟩ := o.look
  have X1 : X.K.In s.heap := I.kIn
  obtain ⟨cd, rest, hcd, hm⟩ := PySem.W.ksp_first hc
  have two := wpAny_mono (run_fn (vs := [.ref b, .int n]) F hr hb .nil hx I (.cons rfl (.cons ⟨t, rfl⟩ .nil)) (by simpa using hsp)) (fun _ _ q => back_of q) fun _ _ q => q
  rcases hi : op.info with ⟨sym, nm⟩
  rw [hi] at slot fi hs h0
  dsimp only at slot fi hs h0
  have one := PySem.W.ksp_try X1 i1 hs hf two
  obtain ⟨hh, g, d, tt, os⟩ := s
  have L2' : PySem.W.Looks (model X.prog X.w) hh (typeOf (.ref b)) (.ref C) := i1.type
  have L4 : PySem.W.Looks (model X.prog X.w) hh (fillsNumberSlot (.ref C) nm) true := PySem.W.fills_K X1 hcd hm h0
  have L5 : PySem.W.Looks (model X.prog X.w) hh (isSubtype (.ref C) (.type "int")) false := PySem.W.looks_subIn X1 hsub
  have L7 : PySem.W.Looks (model X.prog X.w) hh (numberSlotInPython (.type "int") nm) false := PySem.W.Looks.of_pure rfl
  have hne : (Value.type "int" == Value.ref C) = false := Bool.eq_false_iff.mpr fun q => by cases beq_iff_eq.mp q
  simp only [binaryOp, hi]
  refine wpAny_holding (wpAny_bind ?_)
  unfold binaryOp1
  refine wpAny_bind (wpAny_of_eq (show typeOf (.int n t) = pure (.type "int") from rfl) (wpAny_bind (L2'.at (wpAny_bind (wpAny_of_eq fi ?_)))))
  simp only [hne, Bool.false_eq_true, if_false]
  refine wpAny_bind (L4.at ?_)
  simp only [Bool.and_true, if_true, Bool.true_and]
  refine wpAny_bind (L5.at ?_)
  simp only [Bool.false_eq_true, if_false, Bool.not_false, if_true]
  refine wpAny_bind (L7.at ?_)
  simp only [Bool.false_eq_true, if_false]
  refine wpAny_bind (wpAny_tryMethod_declines (typeIs_int _ n t) slot (call_meets slot (typeIs_int _ n t) entry (args _ _) (no n t b C (some dx) #[]) ⟨o.obj, rfl, ?_⟩))
  simp only []
  refine wpAny_bind (wpAny_mono one (fun r s' hr' => ?_) fun _ _ e => e)
  obtain ⟨v, rfl, hq⟩ := hr'
  ksp_lk
  exact hq
end
end Z

namespace Z
open PySem PySem.Spec PyProof.Rows L2
/-! ### C.m(..), m a static method -/
structure SMet (K : PySem.W.Frag) (C : Addr) (m : Str) (p g : Addr) : Prop where
  rd : PySem.W.readsIn K C (.type "type") = true
  ga : PySem.W.specialIn K (.ref C) "__getattribute__" = some (some (.builtin "type.__getattribute__"))
  to : PySem.W.findCls K (.ref C) (.type "type") m = some (.get (.builtin "staticmethod.__get__") (.ref p) .none (.ref C))
  rc : (PySem.W.recIn K p "staticmethod").bind List.head? = some (.ref g)
  kp : PySem.W.keepIn K (.ref g) = true
def tSM (C : Addr) (sp : Sp) (E : XK) (ta : TE) (t : TA) : TE := fun σ H Q => ta σ H fun x H1 => x = .ref C ∧ t σ H1 fun vs H2 => sp vs H2 Q E
section
variable {X : Cx} {CX : CXT} {k : Nat} {C p g : Addr} {fd : FuncData} {ps : List Str} {sp : Sp} {E : XK} {o e : Expr} {es : List Expr} {m : Str} {pos apos : Pos} {ta : TE} {t : TA} {pl : Sem Bool}
theorem pe_sm (he : PE X o ta) (c : SMet X.K C m p g) (F : FnOk X.prog X.w X.K X.mg X.base CX k g fd ps sp) (hr : Room k X.A) (hb : Binds X.K fd ps []) (hx : Passes CX X E) (ha : PA X (e :: es) t)
    (hst : starEach (e :: es) X.env = (false, eval e X.env) :: starEach es X.env := by rfl) (hpl : (backTo pos (starEach es X.env)).any (·.1) = false := by rfl)
    (ht : eval (.Call (.Attribute o m apos) (e :: es) [] pos) X.env = (eval o X.env >>= fun ov => standAt apos.atName >>= fun _ => holding [ov] (getMethod ov m pl) >>= fun q => callWith pos q.1 q.2 (backTo pos (starEach (e :: es) X.env)) (backToKw pos (keywordEach [] X.env))) := by rfl) :
    PE X (.Call (.Attribute o m apos) (e :: es) [] pos) (tSM C sp E ta t) := by
  refine ⟨fun pins s σ H Q I h => ?_⟩
  refine PySem.W.methodCall_KW (pl := pl) (thn (he.run pins s σ H _ I h) fun u s1 ⟨x, H1, I1, rx, ex, q⟩ => ?_) ht
  subst ex
  obtain rfl : u = Value.ref C := rx
  have hrc := c.rc
  cases hq : PySem.W.recIn X.K p "staticmethod" with
  | none =>
    rw [hq] at hrc
    cases hrc
  | some l =>
    cases l with
    | nil =>
      rw [hq] at hrc
      cases hrc
    | cons a r =>
      rw [hq] at hrc
      obtain rfl : a = Value.ref g := Option.some.inj hrc
      refine PySem.W.method_cls I1.kIn c.ga (PySem.W.cls_bind I1.kIn c.rd c.to (wpAny_call (PySem.W.sm_get (s := { s1 with toks := s1.toks + 1 }) I1.kIn hq (PySem.W.handed_on rfl ?_))))
      refine PySem.W.callWith_K (h₀ := X.base) I1.ok.mod.kin c.kp (thn (ha.run pos pins _ σ H1 _ (I1.tok _) q) fun us s3 ⟨vs, H2, I3, rv, q2⟩ => ⟨I3.kIn, ?_⟩) hst hpl
      exact run_fn F hr hb .nil hx I3 rv (by simpa using q2)
end
/-! ### what isinstance tells of values -/
def isI : V → Bool
  | .int _ => true
  | _ => false
/-- the class of v is known, and it is that of ints just if v is one -/
def KI (K : PySem.W.Frag) (H : Hp) (v : V) : Prop := ∃ t b1 b2, TyX K H v t ∧ PySem.W.kitOne K t (.type "int") = some b1 ∧ PySem.W.kitOne K t (.type "bool") = some b2 ∧ isI v = (b1 && !b2)
theorem ki_int {K : PySem.W.Frag} {H : Hp} (i : Int) : KI K H (.int i) := ⟨_, true, false, .base (.int i), kit_ty (by decide +kernel), kit_ty (by decide +kernel), rfl⟩
theorem ki_bl {K : PySem.W.Frag} {H : Hp} (i : Bool) : KI K H (.bl i) := ⟨_, true, true, .base (.bl i), kit_ty (by decide +kernel), kit_ty (by decide +kernel), rfl⟩
theorem ki_non {K : PySem.W.Frag} {H : Hp} : KI K H .non := ⟨_, false, false, .base .non, kit_ty (by decide +kernel), kit_ty (by decide +kernel), rfl⟩
theorem ki_str {K : PySem.W.Frag} {H : Hp} (i : Str) : KI K H (.str i) := ⟨_, false, false, .base (.str i), kit_ty (by decide +kernel), kit_ty (by decide +kernel), rfl⟩
def btw (v : V) (lo hi : Int) : Bool := match v with
  | .int i => decide (lo ≤ i) && decide (i ≤ hi)
  | _ => false
def spIsI (K : PySem.W.Frag) : Sp := fun vs H Q _ => ∃ v, vs = [v] ∧ KI K H v ∧ Q (.bl (isI v)) H
def spBtw (K : PySem.W.Frag) : Sp := fun vs H Q _ => ∃ v lo hi, vs = [v, .int lo, .int hi] ∧ KI K H v ∧ Q (.bl (btw v lo hi)) H
theorem r_isi {K : PySem.W.Frag} {H : Hp} {Q : VK} {x : V} {n : String} {t : Value} {b : Bool} (h : TyX K H x t) (hk : PySem.W.kitOne K t (.type n) = some b) (k : Q (.bl b) H) : rIsi K [x, .ty n] H Q := ⟨x, .ty n, t, .type n, b, rfl, .ty n, h, hk, k⟩
theorem r_isiC {K : PySem.W.Frag} {H : Hp} {Q : VK} {x : V} {C : Addr} {t : Value} {b : Bool} (h : TyX K H x t) (hk : PySem.W.kitOne K t (.ref C) = some b) (k : Q (.bl b) H) : rIsi K [x, .ref C] H Q := ⟨x, .ref C, t, .ref C, b, rfl, .own C, h, hk, k⟩
end Z

namespace Z
open PySem PySem.Spec PyProof.Rows L2
def rNeNil : R2 := fun x y H Q => ∃ l b xs, x = .ref l ∧ y = .ref b ∧ H l = some (.lst xs) ∧ H b = some (.lst []) ∧ Q (.bl (!xs.isEmpty)) H
theorem op_neNil {X : Cx} (hu : X.A.units < cLine) : OpR X (compareOp .NotEq) rNeNil := by
  intro pins s σ H x y v u Q I rx ry h
  obtain ⟨l, b, xs, rfl, rfl, hl, hb, q⟩ := h
  obtain rfl : v = Value.ref l := rx
  obtain rfl : u = Value.ref b := ry
  obtain ⟨_, its, n, r, e1⟩ := I.hok l _ hl
  obtain ⟨_, its2, n2, r2, e2⟩ := I.hok b _ hb
  cases r2
  show wpAny _ _ (richCompare .NotEq (.ref l) (.ref b)) _ _ _
  cases r with
  | nil =>
    refine wpAny_richCompare_same_room (op := .NotEq) ⟨_, e1, rfl⟩ ⟨_, e2, rfl⟩ F.slot_list_ne (call_meets F.slot_list_ne ⟨_, e1, rfl⟩ F.entry_list_ne (F.args_list_ne_2 _ _) (SeqAt.list_neAt l b #[] #[] n n2 none none #[] #[] rfl (fun _ => true)) ⟨e1, e2, fun j h1 _ => absurd h1 (by simp), ?_⟩) hu
    exact ⟨nofun, .bl false, H, I, rfl, q⟩
  | cons r0 rs =>
    refine wpAny_richCompare_same_room (op := .NotEq) ⟨_, e1, rfl⟩ ⟨_, e2, rfl⟩ F.slot_list_ne (call_meets F.slot_list_ne ⟨_, e1, rfl⟩ F.entry_list_ne (F.args_list_ne_2 _ _) (SeqAt.list_ne_lengthsAt l b _ #[] n n2 none none #[] #[] (by simp)) ⟨e1, e2, ?_⟩) hu
    exact ⟨nofun, .bl true, H, I, rfl, q⟩
theorem r_neNil {H : Hp} {Q : VK} {l b : Addr} {xs : List V} (h1 : H l = some (.lst xs)) (h2 : H b = some (.lst [])) (k : Q (.bl (!xs.isEmpty)) H) : rNeNil (.ref l) (.ref b) H Q := ⟨l, b, xs, rfl, rfl, h1, h2, k⟩
end Z

/-! Z: words: the values, the promises of words.py -/
namespace Z
open PySem PySem.Spec PyProof.Rows L2
def topI (w : Int) : Int := 2 ^ w.toNat - 1
def osum (w a b : Int) : Int := if a + b ≤ topI w then a + b else a + b - topI w
def omul (w v t : Int) : Int := if t = 0 ∨ v = 0 then 0 else (t * v - 1) % topI w + 1
def orest (w v : Int) : Int := if v = topI w then 0 else v
/-- a width and a value of a word -/
def InW (w v : Int) : Prop := 1 ≤ w ∧ w ≤ 64 ∧ 0 ≤ v ∧ v ≤ topI w
theorem pow64 {n : Nat} (h : n ≤ 64) : (2 : Int) ^ n ≤ 2 ^ 64 := by
  have : (2 : Nat) ^ n ≤ 2 ^ 64 := Nat.pow_le_pow_right (by decide) h
  exact_mod_cast this
theorem topI_pos {w : Int} (h : 1 ≤ w) : 1 ≤ topI w := by
  unfold topI
  have h1 : (2 : Nat) ^ 1 ≤ 2 ^ w.toNat := Nat.pow_le_pow_right (by decide) (by omega)
  have h2 : (2 : Int) ^ 1 ≤ 2 ^ w.toNat := by exact_mod_cast h1
  omega
theorem topI_lt {w : Int} (h : w ≤ 64) : topI w < 2 ^ 64 := by
  unfold topI
  have := pow64 (n := w.toNat) (by omega)
  omega
theorem osum_in {w a b : Int} (ha : InW w a) (hb : InW w b) : InW w (osum w a b) := by
  obtain ⟨h1, h2, h3, h4⟩ := ha
  obtain ⟨_, _, h5, h6⟩ := hb
  have := topI_pos h1
  unfold osum
  refine ⟨h1, h2, ?_, ?_⟩ <;> split <;> omega
theorem omul_in {w v t : Int} (h : InW w v) (ht : 0 ≤ t) : InW w (omul w v t) := by
  obtain ⟨h1, h2, h3, h4⟩ := h
  have hp := topI_pos h1
  have e1 := Int.emod_nonneg (t * v - 1) (show topI w ≠ 0 by omega)
  have e2 := Int.emod_lt_of_pos (t * v - 1) (show 0 < topI w by omega)
  unfold omul
  refine ⟨h1, h2, ?_, ?_⟩ <;> split <;> omega
theorem comp_in {w v : Int} (h : InW w v) : InW w (topI w - v) := by
  obtain ⟨h1, h2, h3, h4⟩ := h
  exact ⟨h1, h2, by omega, by omega⟩
/-- the attributes of a word -/
def wf (w v : Int) : List (Str × V) := [("width", .int w), ("value", .int v)]
theorem wf_ne : ¬ (("width" : Str) = "value") := by decide +kernel
theorem wf_put (w v : Int) : putF "value" (.int v) (putF "width" (.int w) []) = wf w v := by
  show (if ("width" : Str) = "value" then _ else (("width" : Str), V.int w) :: putF "value" (V.int v) []) = wf w v
  rw [if_neg wf_ne]
  rfl
theorem wf_e1 : (("width" : Str) == "width") = true := by decide +kernel
theorem wf_e2 : (("value" : Str) == "width") = false := by decide +kernel
theorem wf_e3 : (("value" : Str) == "value") = true := by decide +kernel
theorem wf_width (w v : Int) : (wf w v).lookup ("width" : Str) = some (.int w) := by
  unfold wf
  simp only [List.lookup, wf_e1]
theorem wf_value (w v : Int) : (wf w v).lookup ("value" : Str) = some (.int v) := by
  unfold wf
  simp only [List.lookup, wf_e2, wf_e3]
theorem wf_no {w v : Int} {m : Str} (h1 : (m == "width") = false) (h2 : (m == "value") = false) : (wf w v).lookup m = none := by
  show (match (m == "width") with | true => some (V.int w) | false => (match (m == "value") with | true => some (V.int v) | false => none)) = _
  rw [h1, h2]
/-- a word stands at a -/
def IsW (C : Addr) (H : Hp) (a : Addr) (w v : Int) : Prop := InW w v ∧ ∃ dx, H a = some (.ins C dx (wf w v))
theorem IsW.ex {C : Addr} {H H' : Hp} {a : Addr} {w v : Int} (e : Ex H H') (h : IsW C H a w v) : IsW C H' a w v := ⟨h.1, h.2.choose, e _ _ h.2.choose_spec⟩
theorem IsW.gr {C : Addr} {H H' : Hp} {a : Addr} {w v : Int} (e : Gr H H') (h : IsW C H a w v) : IsW C H' a w v := ⟨h.1, h.2.choose, e.get h.2.choose_spec rfl⟩
theorem IsW.but {C l : Addr} {H H' : Hp} {a : Addr} {w v : Int} {xs : List V} (e : But l H H') (hl : H l = some (.lst xs)) (h : IsW C H a w v) : IsW C H' a w v :=
  ⟨h.1, h.2.choose, e _ _ (ne_of h.2.choose_spec hl (by intro z; cases z)) h.2.choose_spec⟩
/-- a new word is handed back -/
abbrev RetW (C : Addr) (H : Hp) (Q : VK) (w v : Int) : Prop := ∀ x H', Ex H H' → IsW C H' x w v → Q (.ref x) H'
def spTop : Sp := fun vs H Q _ => ∃ w, vs = [.int w] ∧ 0 ≤ w ∧ w ≤ 1000 ∧ Q (.int (topI w)) H
def spInitW (C : Addr) : Sp := fun vs H Q _ => ∃ x dx w v, vs = [.ref x, .int w, .int v] ∧ InW w v ∧ H x = some (.ins C dx []) ∧ ∀ H', But x H H' → H' x = some (.ins C dx (wf w v)) → Q .non H'
def spSum (C : Addr) : Sp := fun vs H Q _ => ∃ w a b, vs = [.int w, .int a, .int b] ∧ InW w a ∧ InW w b ∧ RetW C H Q w (osum w a b)
def spMul (C : Addr) : Sp := fun vs H Q _ => ∃ w v t, vs = [.int w, .int v, .int t] ∧ InW w v ∧ 0 ≤ t ∧ t < 2 ^ 200 ∧ RetW C H Q w (omul w v t)
def spNeed : Sp := fun vs H Q _ => ∃ t, vs = [.int t] ∧ 0 ≤ t ∧ t ≤ 10 ^ 30 ∧ Q .non H
/-- an operand beside a word of the width w, and what it is worth -/
def Opd (C : Addr) (H : Hp) (w : Int) (y : V) (n : Int) : Prop := (∃ b, y = .ref b ∧ IsW C H b w n) ∨ (y = .int n ∧ InW w n)
theorem Opd.in_ {C : Addr} {H : Hp} {w n : Int} {y : V} (h : Opd C H w y n) : InW w n := by
  rcases h with ⟨b, _, h⟩ | ⟨_, h⟩
  · exact h.1
  · exact h
theorem Opd.ex {C : Addr} {H H' : Hp} {w n : Int} {y : V} (e : Ex H H') (h : Opd C H w y n) : Opd C H' w y n := by
  rcases h with ⟨b, q, h⟩ | h
  · exact .inl ⟨b, q, h.ex e⟩
  · exact .inr h
def spOpd (C : Addr) : Sp := fun vs H Q _ => ∃ a y w v n, vs = [.ref a, y] ∧ IsW C H a w v ∧ Opd C H w y n ∧ Q (.int n) H
def spRest : Sp := fun vs H Q _ => ∃ w v, vs = [.int w, .int v] ∧ InW w v ∧ Q (.int (orest w v)) H
def spW1 (C : Addr) (f : Int → Int) : Sp := fun vs H Q _ => ∃ w, vs = [.int w] ∧ 1 ≤ w ∧ w ≤ 64 ∧ RetW C H Q w (f w)
/-- a property of a word -/
def spWP (C : Addr) (f : Int → Int → V) : Sp := fun vs H Q _ => ∃ a w v, vs = [.ref a] ∧ IsW C H a w v ∧ Q (f w v) H
/-- ~a and its like -/
def spWW (C : Addr) (f : Int → Int → Int) : Sp := fun vs H Q _ => ∃ a w v, vs = [.ref a] ∧ IsW C H a w v ∧ RetW C H Q w (f w v)
/-- a op b, b an operand -/
def spWO (C : Addr) (f : Int → Int → Int → Int) : Sp := fun vs H Q _ => ∃ a y w v n, vs = [.ref a, y] ∧ IsW C H a w v ∧ Opd C H w y n ∧ RetW C H Q w (f w v n)
/-- a op t, t a number of times -/
def spWT (C : Addr) (f : Int → Int → Int → Int) : Sp := fun vs H Q _ => ∃ a w v t, vs = [.ref a, .int t] ∧ IsW C H a w v ∧ 0 ≤ t ∧ t ≤ 10 ^ 30 ∧ RetW C H Q w (f w v t)
def spEqW (C : Addr) : Sp := fun vs H Q _ => ∃ a b w v w' v', vs = [.ref a, .ref b] ∧ IsW C H a w v ∧ IsW C H b w' v' ∧ Q (.bl (decide (w = w' ∧ v = v'))) H
def spLike (C : Addr) : Sp := fun vs H Q _ => ∃ a y w v n, vs = [.ref a, y] ∧ IsW C H a w v ∧ Opd C H w y n ∧ Q (.bl (decide (orest w v = orest w n))) H
/-- an instance without an attribute m | an instance -/
def InsP (C : Addr) (m : Str) (N : V → Hp → Prop) (x : V) (H : Hp) : Prop := ∃ a dx fs, x = .ref a ∧ H a = some (.ins C dx fs) ∧ fs.lookup m = none ∧ N x H
def InsQ (C : Addr) (N : V → Hp → Prop) (x : V) (H : Hp) : Prop := ∃ a dx fs, x = .ref a ∧ H a = some (.ins C dx fs) ∧ N x H
/-- C(..): what is wanted of a new instance -/
def MakeO (C : Addr) (sp : Sp) (E : XK) (Q : VK) (vs : List V) (H : Hp) : Prop := ∀ x dx, H x = none → H dx = none → dx ≠ x → sp (.ref x :: vs) (upd (upd H dx (.own x)) x (.ins C dx [])) (fun v H2 => v = .non ∧ Q (.ref x) H2) E
section
variable {K : PySem.W.Frag} {σ : L2.St} {H : Hp} {Q : VK} {E : XK} {C : Addr} {ta : TE} {tr : TA} {f : Str}
theorem s_make {sp : Sp} (k : tr σ H fun vs H1 => MakeO C sp E Q vs H1) : tMake C sp [] E tr σ H Q := by
  have e : (fun (vs : List V) (H1 : Hp) => ∀ x dx, H1 x = none → H1 dx = none → dx ≠ x → sp (.ref x :: (vs ++ [])) (upd (upd H1 dx (.own x)) x (.ins C dx [])) (fun v H2 => v = .non ∧ Q (.ref x) H2) E) = fun vs H1 => MakeO C sp E Q vs H1 := by
    funext vs H1
    unfold MakeO
    rw [List.append_nil]
  unfold tMake
  rw [e]
  exact k
theorem make_w {w v : Int} (h : InW w v) (k : RetW C H Q w v) : MakeO C (spInitW C) E Q [.int w, .int v] H := fun x dx hx hd ne =>
  ⟨x, dx, w, v, rfl, h, upd_same, fun H' e h' => ⟨rfl, k x H' (fun a o ha => e a o (ne_of_none ha hx) (by rw [upd_ne (ne_of_none ha hx), upd_ne (ne_of_none ha hd)]; exact ha)) ⟨h, dx, h'⟩⟩⟩
theorem s_meth {m : Str} {sp : Sp} (k : ta σ H fun x H1 => InsP C m (fun x H1 => tr σ H1 fun vs H2 => sp (x :: vs) H2 Q E) x H1) : tMeth C m sp [] E ta tr σ H Q := by
  have e : (fun (x : V) (H1 : Hp) => ∃ a dx fs, x = .ref a ∧ H1 a = some (.ins C dx fs) ∧ fs.lookup m = none ∧ tr σ H1 fun vs H2 => sp (x :: (vs ++ [])) H2 Q E) = fun x H1 => InsP C m (fun x H1 => tr σ H1 fun vs H2 => sp (x :: vs) H2 Q E) x H1 := by
    funext x H1
    have e2 : (fun (vs : List V) (H2 : Hp) => sp (x :: (vs ++ [])) H2 Q E) = fun vs H2 => sp (x :: vs) H2 Q E := by
      funext vs H2
      rw [List.append_nil]
    rw [e2]
    rfl
  unfold tMeth
  rw [e]
  exact k
theorem s_sm {sp : Sp} (k : ta σ H fun x H1 => x = .ref C ∧ tr σ H1 fun vs H2 => sp vs H2 Q E) : tSM C sp E ta tr σ H Q := k
theorem s_prop {sp : Sp} (k : ta σ H fun x H1 => InsQ C (fun x H1 => sp [x] H1 Q E) x H1) : tProp C sp [] E ta σ H Q := by
  have e : (fun (x : V) (H1 : Hp) => ∃ a dx fs, x = .ref a ∧ H1 a = some (.ins C dx fs) ∧ sp (.ref a :: []) H1 Q E) = fun x H1 => InsQ C (fun x H1 => sp [x] H1 Q E) x H1 := by
    funext x H1
    apply propext
    constructor
    · rintro ⟨a, dx, fs, rfl, h, k⟩
      exact ⟨a, dx, fs, rfl, h, k⟩
    · rintro ⟨a, dx, fs, rfl, h, k⟩
      exact ⟨a, dx, fs, rfl, h, k⟩
  unfold tProp
  rw [e]
  exact k
theorem v_fldw {a : Addr} {w v : Int} (c : Cls K C) (n : NoAttr K C "width") (h : IsW C H a w v) (k : Q (.int w) H) : FldP K "width" Q (.ref a) H :=
  ⟨a, C, h.2.choose, wf w v, .int w, rfl, h.2.choose_spec, c, n, wf_width w v, k⟩
theorem v_fldv {a : Addr} {w v : Int} (c : Cls K C) (n : NoAttr K C "value") (h : IsW C H a w v) (k : Q (.int v) H) : FldP K "value" Q (.ref a) H :=
  ⟨a, C, h.2.choose, wf w v, .int v, rfl, h.2.choose_spec, c, n, wf_value w v, k⟩
end
end Z

namespace Z
open PySem PySem.Spec PyProof.Rows L2
def mwB (K : PySem.W.Frag) (C : Addr) (f : Str) (i : Int) : Bool := match PySem.W.findCls K (.ref C) (.type "type") f with
  | some (.val (.int j _)) => decide (j = i)
  | _ => false
theorem mw_ok {K : PySem.W.Frag} {C : Addr} {f : Str} {i : Int} (h : mwB K C f i = true) : ∃ u, ClX.CVal K C (.type "type") f (.int i) u := by
  unfold mwB at h
  cases e : PySem.W.findCls K (.ref C) (.type "type") f with
  | none =>
    rw [e] at h
    cases h
  | some r =>
    rw [e] at h
    cases r with
    | val u =>
      cases u with
      | int j t =>
        have := of_decide_eq_true h
        subst this
        exact ⟨_, e, ⟨t, rfl⟩⟩
      | _ => cases h
    | _ => cases h
theorem rec_of {K : PySem.W.Frag} {p g : Addr} {T : String} (h : (PySem.W.recIn K p T).bind List.head? = some (.ref g)) : ∃ rest, PySem.W.recIn K p T = some (.ref g :: rest) := by
  cases q : PySem.W.recIn K p T with
  | none =>
    rw [q] at h
    cases h
  | some l =>
    cases l with
    | nil =>
      rw [q] at h
      cases h
    | cons a r =>
      rw [q] at h
      obtain rfl : a = Value.ref g := Option.some.inj h
      exact ⟨r, rfl⟩
end Z

namespace Z
open PySem PySem.Spec PyProof.Rows L2
def smB (K : PySem.W.Frag) (C p : Addr) (m : Str) (id : String) : Bool := match PySem.W.findCls K (.ref C) (.type "type") m with
  | some (.get (.builtin i) (.ref q) .none (.ref D)) => decide (i = id) && (decide (q = p) && decide (D = C))
  | _ => false
theorem sm_ok {K : PySem.W.Frag} {C p : Addr} {m : Str} {id : String} (h : smB K C p m id = true) : PySem.W.findCls K (.ref C) (.type "type") m = some (.get (.builtin id) (.ref p) .none (.ref C)) := by
  unfold smB at h
  split at h
  · rename_i i q D e
    obtain ⟨h1, h2⟩ := Bool.and_eq_true_iff.mp h
    obtain ⟨h2, h3⟩ := Bool.and_eq_true_iff.mp h2
    rw [e, of_decide_eq_true h1, of_decide_eq_true h2, of_decide_eq_true h3]
  · cases h
end Z

namespace Z
open PySem PySem.Spec PyProof.Rows L2
section
variable {K : PySem.W.Frag} {σ : L2.St} {H : Hp} {Q : VK} {E : XK} {C : Addr} {ta tv : TE} {tr : TA} {f : Str} {D : Ends}
theorem use_btw {i lo hi : Int} (h : lo ≤ i ∧ i ≤ hi) (k : Q (.bl true) H) : spBtw K [.int i, .int lo, .int hi] H Q E := ⟨.int i, lo, hi, rfl, ki_int i, by
  have e : btw (.int i) lo hi = true := by simp [btw, h.1, h.2]
  rw [e]
  exact k⟩
theorem use_top {w : Int} (h : 0 ≤ w ∧ w ≤ 1000) (k : Q (.int (topI w)) H) : spTop [.int w] H Q E := ⟨w, rfl, h.1, h.2, k⟩
theorem s_cval (k : ta σ H fun x H1 => ∃ C mc v u, x = .ref C ∧ ClX.CRead K C mc ∧ ClX.CVal K C mc f v u ∧ Q v H1) : ClX.tCVal K ta f σ H Q := k
def SetF (K : PySem.W.Frag) (f : Str) (D : Ends) (σ : L2.St) (y x : V) (H : Hp) : Prop := ∃ a C dx fs, x = .ref a ∧ H a = some (.ins C dx fs) ∧ Cls K C ∧ NoAttr K C f ∧ fs.length < 1000 ∧ D.nx σ (upd H a (.ins C dx (putF f y fs)))
theorem s_sfld (k : tv σ H fun y H1 => ta σ H1 fun x H2 => SetF K f D σ y x H2) : sFld K ta tv f D σ H := k
theorem v_setF {a dx : Addr} {fs : List (Str × V)} {y : V} (h : H a = some (.ins C dx fs)) (c : Cls K C) (n : NoAttr K C f) (hl : fs.length < 1000) (k : ∀ H', But a H H' → H' a = some (.ins C dx (putF f y fs)) → D.nx σ H') : SetF K f D σ y (.ref a) H :=
  ⟨a, C, dx, fs, rfl, h, c, n, hl, k _ But.upd upd_same⟩
theorem But.trans {a : Addr} {H1 H2 H3 : Hp} (x : But a H1 H2) (y : But a H2 H3) : But a H1 H3 := fun b o n h => y b o n (x b o n h)
theorem use_retW {w v w' v' : Int} (k : RetW C H Q w v) (e1 : w = w') (e2 : v = v') : RetW C H Q w' v' := by
  subst e1 e2
  exact k
theorem RetW.here {H' : Hp} {w v : Int} (k : RetW C H Q w v) (e : Ex H H') : RetW C H' Q w v := fun x H2 e2 h => k x H2 (e.trans e2) h
/-- an instance's field -/
theorem ins_of {a : Addr} {w v : Int} (h : IsW C H a w v) : ∃ dx, H a = some (.ins C dx (wf w v)) := h.2
theorem use_sum {w a b : Int} (ha : InW w a) (hb : InW w b) (k : RetW C H Q w (osum w a b)) : spSum C [.int w, .int a, .int b] H Q E := ⟨w, a, b, rfl, ha, hb, k⟩
theorem use_mul {w v t : Int} (hv : InW w v) (h0 : 0 ≤ t) (h1 : t < 2 ^ 200) (k : RetW C H Q w (omul w v t)) : spMul C [.int w, .int v, .int t] H Q E := ⟨w, v, t, rfl, hv, h0, h1, k⟩
theorem use_opd {a : Addr} {y : V} {w v n : Int} (h : IsW C H a w v) (o : Opd C H w y n) (k : Q (.int n) H) : spOpd C [.ref a, y] H Q E := ⟨a, y, w, v, n, rfl, h, o, k⟩
theorem use_rest {w v : Int} (h : InW w v) (k : Q (.int (orest w v)) H) : spRest [.int w, .int v] H Q E := ⟨w, v, rfl, h, k⟩
theorem use_need {t : Int} (h0 : 0 ≤ t) (h1 : t ≤ 10 ^ 30) (k : Q .non H) : spNeed [.int t] H Q E := ⟨t, rfl, h0, h1, k⟩
theorem r_oo {a b dx dy : Addr} {fs gs : List (Str × V)} {sp : Sp} (ha : H a = some (.ins C dx fs)) (hb : H b = some (.ins C dy gs)) (k : sp [.ref a, .ref b] H Q E) : rOO C sp E (.ref a) (.ref b) H Q := ⟨a, b, dx, dy, fs, gs, rfl, rfl, ha, hb, k⟩
theorem r_ooW {a b : Addr} {w v w' v' : Int} {sp : Sp} (ha : IsW C H a w v) (hb : IsW C H b w' v') (k : sp [.ref a, .ref b] H Q E) : rOO C sp E (.ref a) (.ref b) H Q := r_oo ha.2.choose_spec hb.2.choose_spec k
theorem r_oiW {a : Addr} {w v n : Int} {sp : Sp} (ha : IsW C H a w v) (k : sp [.ref a, .int n] H Q E) : rOI C sp E (.ref a) (.int n) H Q := ⟨a, n, _, _, rfl, rfl, ha.2.choose_spec, k⟩
theorem r_ioW {a : Addr} {w v n : Int} {sp : Sp} (ha : IsW C H a w v) (k : sp [.ref a, .int n] H Q E) : rIO C sp E (.int n) (.ref a) H Q := ⟨n, a, _, _, rfl, rfl, ha.2.choose_spec, k⟩
theorem r_o1W {a : Addr} {w v : Int} {sp : Sp} (ha : IsW C H a w v) (k : sp [.ref a] H Q E) : rO1 C sp E (.ref a) H Q := ⟨a, _, _, rfl, ha.2.choose_spec, k⟩
end
end Z

/-! Z: sums that carry round, plain mathematics -/
namespace Z
/-- the word from 1 to M with the rest of s; 0 of 0 -/
def norm (M s : Int) : Int := if s = 0 then 0 else (s - 1) % M + 1
theorem norm_zero (M : Int) : norm M 0 = 0 := if_pos rfl
theorem norm_small {M s : Int} (h0 : 0 ≤ s) (h1 : s ≤ M) : norm M s = s := by
  unfold norm
  split
  · omega
  · rw [Int.emod_eq_of_lt (by omega) (by omega)]
    omega
theorem norm_sub {M s : Int} (h : M < s) (hM : 0 < M) : norm M (s - M) = norm M s := by
  unfold norm
  rw [if_neg (by omega), if_neg (by omega)]
  have e : s - M - 1 = s - 1 + M * (-1) := by omega
  rw [e, Int.add_mul_emod_self_left]
theorem norm_add_mul {M s : Int} (k : Nat) (h : 0 < s) (hM : 0 < M) : norm M (s + M * k) = norm M s := by
  unfold norm
  have h1 : 0 ≤ M * (k : Int) := Int.mul_nonneg (by omega) (by omega)
  rw [if_neg (by omega), if_neg (by omega)]
  have e : s + M * k - 1 = s - 1 + M * k := by omega
  rw [e, Int.add_mul_emod_self_left]
theorem norm_range {M s : Int} (hM : 0 < M) : 0 ≤ norm M s ∧ norm M s ≤ M := by
  have e1 := Int.emod_nonneg (s - 1) (show M ≠ 0 by omega)
  have e2 := Int.emod_lt_of_pos (s - 1) hM
  unfold norm
  split <;> omega
theorem norm_pos {M s : Int} (hM : 0 < M) (h : s ≠ 0) : 1 ≤ norm M s := by
  have e1 := Int.emod_nonneg (s - 1) (show M ≠ 0 by omega)
  unfold norm
  rw [if_neg h]
  omega
/-- s and its norm differ by a multiple -/
theorem norm_dvd {M s : Int} (hM : 0 < M) : ∃ k : Int, s = norm M s + M * k := by
  unfold norm
  split
  · exact ⟨0, by omega⟩
  · have := Int.emod_add_mul_ediv (s - 1) M
    exact ⟨(s - 1) / M, by omega⟩
theorem norm_eq {M s t : Int} (hM : 0 < M) (hs : 0 ≤ s) (ht : 0 ≤ t) (hz : s = 0 ↔ t = 0) (k : Int) (h : s = t + M * k) : norm M s = norm M t := by
  by_cases h0 : s = 0
  · rw [h0, hz.mp h0]
  · have h1 : t ≠ 0 := fun z => h0 (hz.mpr z)
    unfold norm
    rw [if_neg h0, if_neg h1]
    have e : s - 1 = t - 1 + M * k := by omega
    rw [e, Int.add_mul_emod_self_left]
theorem norm_norm_add {M a b : Int} (hM : 0 < M) (ha : 0 ≤ a) (hb : 0 ≤ b) : norm M (norm M a + norm M b) = norm M (a + b) := by
  obtain ⟨k, hk⟩ := norm_dvd (s := a) hM
  obtain ⟨j, hj⟩ := norm_dvd (s := b) hM
  have r1 := norm_range (s := a) hM
  have r2 := norm_range (s := b) hM
  refine norm_eq hM (by omega) (by omega) ⟨fun z => ?_, fun z => ?_⟩ (-(k + j)) ?_
  · by_cases h1 : a = 0
    · by_cases h2 : b = 0
      · omega
      · have := norm_pos hM h2
        omega
    · have := norm_pos hM h1
      omega
  · have h1 : a = 0 := by omega
    have h2 : b = 0 := by omega
    rw [h1, h2, norm_zero]
    rfl
  · rw [Int.mul_neg, Int.mul_add]
    omega
theorem norm_mul_norm {M t a : Int} (hM : 0 < M) (ht : 0 ≤ t) (ha : 0 ≤ a) : norm M (t * norm M a) = norm M (t * a) := by
  obtain ⟨k, hk⟩ := norm_dvd (s := a) hM
  have r1 := norm_range (s := a) hM
  refine norm_eq hM (Int.mul_nonneg ht r1.1) (Int.mul_nonneg ht ha) ⟨fun z => ?_, fun z => ?_⟩ (-(t * k)) ?_
  · rcases Int.mul_eq_zero.mp z with h | h
    · rw [h, Int.zero_mul]
    · by_cases h1 : a = 0
      · rw [h1, Int.mul_zero]
      · have := norm_pos hM h1
        omega
  · rcases Int.mul_eq_zero.mp z with h | h
    · rw [h, Int.zero_mul]
    · rw [h, norm_zero, Int.mul_zero]
  · have e : t * a = t * norm M a + t * (M * k) := by
      rw [← Int.mul_add, ← hk]
    have e2 : t * (M * k) = M * (t * k) := by rw [← Int.mul_assoc, Int.mul_comm t M, Int.mul_assoc]
    rw [Int.mul_neg]
    omega
end Z

/-! Z: laws of words -/
namespace Z
theorem osum_norm {w a b : Int} (ha : InW w a) (hb : InW w b) : osum w a b = norm (topI w) (a + b) := by
  obtain ⟨h1, h2, h3, h4⟩ := ha
  obtain ⟨_, _, h5, h6⟩ := hb
  have hp := topI_pos h1
  unfold osum
  split
  · rw [norm_small (by omega) (by omega)]
  · rw [← norm_sub (by omega) (by omega), norm_small (by omega) (by omega)]
theorem omul_norm {w v t : Int} : omul w v t = norm (topI w) (t * v) := by
  unfold omul norm
  by_cases h : t = 0 ∨ v = 0
  · rw [if_pos h, if_pos (Int.mul_eq_zero.mpr h)]
  · rw [if_neg h, if_neg (fun z => h (Int.mul_eq_zero.mp z))]
theorem omul_osum {w a b t : Int} (ha : InW w a) (hb : InW w b) (ht : 0 ≤ t) : omul w (osum w a b) t = osum w (omul w a t) (omul w b t) := by
  have hp := topI_pos ha.1
  have a0 := ha.2.2.1
  have b0 := hb.2.2.1
  rw [osum_norm (omul_in ha ht) (omul_in hb ht), omul_norm, omul_norm, omul_norm, osum_norm ha hb,
    norm_mul_norm (by omega) ht (by omega), norm_norm_add (by omega) (Int.mul_nonneg ht a0) (Int.mul_nonneg ht b0), Int.mul_add]
theorem like_comp {w a b : Int} (ha : InW w a) (hb : InW w b) : orest w (topI w - osum w a b) = orest w (osum w (topI w - a) (topI w - b)) := by
  obtain ⟨h1, h2, h3, h4⟩ := ha
  obtain ⟨_, _, h5, h6⟩ := hb
  have hp := topI_pos h1
  unfold orest osum
  generalize topI w = M at *
  split <;> split <;> split <;> split <;> omega
theorem pow_split {w k : Nat} (h : k ≤ w) : (2 : Int) ^ (w - k) * 2 ^ k = 2 ^ w := by
  rw [← Int.pow_add, Nat.sub_add_cancel h]
theorem turn_zero {w : Int} {k : Nat} {a j : Int} (h1 : 1 ≤ w) (hk : (k : Int) ≤ w) (h : 2 ^ k * a = topI w * j) : ∃ i, a = topI w * i := by
  have e := pow_split (w := w.toNat) (k := k) (by omega)
  have e1 : (2 : Int) ^ (w.toNat - k) * (2 ^ k * a) = 2 ^ w.toNat * a := by rw [← Int.mul_assoc, e]
  have e2 : (2 : Int) ^ w.toNat = topI w + 1 := by unfold topI; omega
  rw [e2, Int.add_mul, Int.one_mul, h] at e1
  have e3 : (2 : Int) ^ (w.toNat - k) * (topI w * j) = topI w * (2 ^ (w.toNat - k) * j) := by
    rw [← Int.mul_assoc, Int.mul_comm _ (topI w), Int.mul_assoc]
  rw [e3] at e1
  exact ⟨2 ^ (w.toNat - k) * j - a, by rw [Int.mul_sub]; omega⟩
theorem turn_comp {w a : Int} {k : Nat} (ha : InW w a) (hk : (k : Int) ≤ w) : topI w - omul w a (2 ^ k) = omul w (topI w - a) (2 ^ k) := by
  obtain ⟨h1, h2, h3, h4⟩ := ha
  have hp := topI_pos h1
  have hpow : (0 : Int) < 2 ^ k := Int.pow_pos (by decide)
  have full : norm (topI w) (2 ^ k * topI w) = topI w := by
    have e : norm (topI w) (2 ^ k * topI w) = norm (topI w) (topI w) := norm_eq (by omega) (Int.mul_nonneg (by omega) (by omega)) (by omega) ⟨fun z => by
      rcases Int.mul_eq_zero.mp z with q | q <;> omega, fun z => by omega⟩ (2 ^ k - 1) (by rw [Int.mul_sub, Int.mul_one, Int.mul_comm (2 ^ k) (topI w)]; omega)
    rw [e, norm_small (by omega) (by omega)]
  rw [omul_norm, omul_norm]
  by_cases z0 : a = 0
  · rw [z0, Int.mul_zero, norm_zero, Int.sub_zero, full]
  by_cases zM : a = topI w
  · rw [zM, full, Int.sub_self, Int.mul_zero, norm_zero]
  have r := norm_range (M := topI w) (s := 2 ^ k * a) (by omega)
  have rp := norm_pos (M := topI w) (s := 2 ^ k * a) (by omega) (fun q => by rcases Int.mul_eq_zero.mp q with q | q <;> omega)
  obtain ⟨j, hj⟩ := norm_dvd (M := topI w) (s := 2 ^ k * a) (by omega)
  have rM : norm (topI w) (2 ^ k * a) ≠ topI w := fun q => by
    rw [q] at hj
    obtain ⟨i, hi⟩ := turn_zero (w := w) (k := k) (a := a) (j := 1 + j) h1 hk (by rw [Int.mul_add, Int.mul_one]; exact hj)
    rcases Int.lt_or_le i 1 with hi1 | hi1
    · have : topI w * i ≤ topI w * 0 := Int.mul_le_mul_of_nonneg_left (by omega) (by omega)
      omega
    · have : topI w * 1 ≤ topI w * i := Int.mul_le_mul_of_nonneg_left hi1 (by omega)
      omega
  have e : norm (topI w) (2 ^ k * (topI w - a)) = norm (topI w) (topI w - norm (topI w) (2 ^ k * a)) := norm_eq (by omega) (Int.mul_nonneg (by omega) (by omega)) (by omega)
    ⟨fun q => by rcases Int.mul_eq_zero.mp q with q | q <;> omega, fun q => by omega⟩ (2 ^ k - 1 - j) (by
      rw [Int.mul_sub, Int.mul_sub, Int.mul_sub, Int.mul_one, Int.mul_comm (2 ^ k) (topI w)]
      omega)
  rw [e]
  exact (norm_small (by omega) (by omega)).symm
theorem osum_comp {w a : Int} (ha : InW w a) : osum w a (topI w - a) = topI w := by
  obtain ⟨h1, h2, h3, h4⟩ := ha
  unfold osum
  split <;> omega
theorem osum_full {w a : Int} (ha : InW w a) : osum w (topI w) a = if a = 0 then topI w else a := by
  obtain ⟨h1, h2, h3, h4⟩ := ha
  unfold osum
  split <;> split <;> omega
theorem osum_zero {w a : Int} (ha : InW w a) : osum w 0 a = a := by
  obtain ⟨h1, h2, h3, h4⟩ := ha
  unfold osum
  split <;> omega
end Z

/-! Z: promises of the laws' own small helpers -/
namespace Z
open PySem PySem.Spec PyProof.Rows L2
def spWidth (K : PySem.W.Frag) : Sp := fun vs H Q _ => ∃ (p : Addr) (n : Nat), vs = [.ref p] ∧ PenAt K H p (n + 2) ∧ ∀ r H', Gr H H' → PenAt K H' p n → 1 ≤ r → r ≤ 64 → Q (.int r) H'
def spValue (K : PySem.W.Frag) : Sp := fun vs H Q _ => ∃ (p : Addr) (w : Int) (n : Nat), vs = [.ref p, .int w] ∧ PenAt K H p (n + 3) ∧ 1 ≤ w ∧ w ≤ 64 ∧ ∀ r H', Gr H H' → PenAt K H' p n → InW w r → Q (.int r) H'
section
variable {K : PySem.W.Frag} {H : Hp} {Q : VK} {E : XK} {p : Addr} {n : Nat}
theorem use_pen {a : Addr} {ns : List Int} (h : SqL K H a (ns.map V.int)) (k : ∀ p H', Ex H H' → PenAt K H' p 1000000 → Q (.ref p) H') : spPen K [.ref a] H Q E := ⟨a, ns, rfl, h, k⟩
theorem use_draw {m : Int} (h : PenAt K H p (n + 1)) (h0 : 0 < m) (h1 : m.natAbs.log2 < 9000) (k : ∀ r H', Gr H H' → PenAt K H' p n → 0 ≤ r → r < m → Q (.int r) H') : spDraw K [.ref p, .int m] H Q E := ⟨p, m, n, rfl, h, h0, h1, fun r H' g q a b _ => k r H' g q a b⟩
theorem use_drawB {m : Int} (h : PenAt K H p (n + 1)) (h0 : 0 < m) (h1 : m.natAbs.log2 < 9000) (k : ∀ r H', Gr H H' → PenAt K H' p n → 0 ≤ r → r < m → But p H H' → Q (.int r) H') : spDraw K [.ref p, .int m] H Q E := ⟨p, m, n, rfl, h, h0, h1, k⟩
theorem use_width (h : PenAt K H p (n + 2)) (k : ∀ r H', Gr H H' → PenAt K H' p n → 1 ≤ r → r ≤ 64 → Q (.int r) H') : spWidth K [.ref p] H Q E := ⟨p, n, rfl, h, k⟩
theorem use_value {w : Int} (h : PenAt K H p (n + 3)) (h0 : 1 ≤ w) (h1 : w ≤ 64) (k : ∀ r H', Gr H H' → PenAt K H' p n → InW w r → Q (.int r) H') : spValue K [.ref p, .int w] H Q E := ⟨p, w, n, rfl, h, h0, h1, k⟩
end
theorem ix_all {xs : List Int} {P : Int → Prop} {k : Int} (h : ∀ x ∈ xs, P x) (h0 : 0 ≤ k) (h1 : k < xs.length) : ∃ v, atI (xs.map V.int) k = some (.int v) ∧ P v :=
  ⟨_, atI_ints h0 h1, h _ (List.getElem_mem _)⟩
theorem log_small {m : Int} (h0 : 0 ≤ m) (h : m < 2 ^ 64) : m.natAbs.log2 < 9000 := by
  have h1 : m.natAbs < 2 ^ 64 := by omega
  by_cases hz : m.natAbs = 0
  · rw [hz]
    decide
  · have := (Nat.log2_lt hz).mpr h1
    omega
/-- words of one width at these places -/
def Ws (C : Addr) (H : Hp) (w : Int) : List Addr → List Int → Prop
  | [], [] => True
  | a :: as, v :: vs => IsW C H a w v ∧ Ws C H w as vs
  | _, _ => False
section
variable {C : Addr} {H H' : Hp} {w : Int}
theorem Ws.gr (e : Gr H H') : ∀ {as : List Addr} {vs : List Int}, Ws C H w as vs → Ws C H' w as vs
  | [], [], _ => True.intro
  | _ :: _, _ :: _, h => ⟨h.1.gr e, Ws.gr e h.2⟩
theorem Ws.ex (e : Ex H H') {as : List Addr} {vs : List Int} (h : Ws C H w as vs) : Ws C H' w as vs := h.gr e.gr
theorem Ws.len : ∀ {as : List Addr} {vs : List Int}, Ws C H w as vs → as.length = vs.length
  | [], [], _ => rfl
  | _ :: _, _ :: _, h => congrArg Nat.succ (Ws.len h.2)
theorem Ws.app : ∀ {as bs : List Addr} {vs us : List Int}, Ws C H w as vs → Ws C H w bs us → Ws C H w (as ++ bs) (vs ++ us)
  | [], _, [], _, _, h => h
  | _ :: _, _, _ :: _, _, h, h' => ⟨h.1, Ws.app h.2 h'⟩
theorem Ws.take (n : Nat) : ∀ {as : List Addr} {vs : List Int}, Ws C H w as vs → Ws C H w (as.take n) (vs.take n) := by
  induction n with
  | zero => intro as vs _; simp only [List.take_zero]; exact True.intro
  | succ n ih =>
    intro as vs h
    match as, vs, h with
    | [], [], _ => exact True.intro
    | a :: as, v :: vs, h => exact ⟨h.1, ih h.2⟩
theorem Ws.drop (n : Nat) : ∀ {as : List Addr} {vs : List Int}, Ws C H w as vs → Ws C H w (as.drop n) (vs.drop n) := by
  induction n with
  | zero => intro as vs h; simp only [List.drop_zero]; exact h
  | succ n ih =>
    intro as vs h
    match as, vs, h with
    | [], [], _ => exact True.intro
    | a :: as, v :: vs, h => exact ih h.2
theorem Ws.get : ∀ {as : List Addr} {vs : List Int} (i : Nat) (h : Ws C H w as vs) (hi : i < as.length), ∃ v, vs[i]? = some v ∧ IsW C H (as[i]'hi) w v
  | [], [], i, _, hi => by simp at hi
  | a :: as, v :: vs, 0, h, _ => ⟨v, rfl, h.1⟩
  | a :: as, v :: vs, i + 1, h, hi => Ws.get i h.2 (by simpa using hi)
theorem Ws.in_ : ∀ {as : List Addr} {vs : List Int}, Ws C H w as vs → ∀ v ∈ vs, InW w v
  | [], [], _ => by simp
  | a :: as, v :: vs, h => by
    intro u hu
    rcases List.mem_cons.mp hu with rfl | hu
    · exact h.1.1
    · exact Ws.in_ h.2 u hu
end
end Z
namespace Z
open PySem PySem.Spec PyProof.Rows L2
theorem cut_to {xs : List V} {k : Int} (h : 0 ≤ k) : cutV xs none (some k) = xs.take k.toNat := by
  obtain ⟨m, rfl⟩ : ∃ m : Nat, k = m := ⟨k.toNat, by omega⟩
  unfold cutV
  rw [HT.sIx_none, HT.sIx_nat, List.drop_zero, Nat.sub_zero, Int.toNat_natCast]
  by_cases hm : m ≤ xs.length
  · rw [Nat.min_eq_left hm]
  · rw [Nat.min_eq_right (by omega), List.take_of_length_le (by omega), List.take_of_length_le (by omega)]
theorem cut_from {xs : List V} {k : Int} (h : 0 ≤ k) : cutV xs (some k) none = xs.drop k.toNat := by
  obtain ⟨m, rfl⟩ : ∃ m : Nat, k = m := ⟨k.toNat, by omega⟩
  unfold cutV
  rw [HT.sIx_none, HT.sIx_nat, Int.toNat_natCast]
  by_cases hm : m ≤ xs.length
  · rw [Nat.min_eq_left hm, List.take_of_length_le (by simp)]
  · rw [Nat.min_eq_right (by omega), List.drop_of_length_le (by omega), List.drop_of_length_le (by omega)]
    simp
theorem atI_refs {cs : List Addr} {k : Int} (h0 : 0 ≤ k) (h1 : k < cs.length) : atI (cs.map V.ref) k = some (.ref (cs[k.toNat]'(by omega))) := by
  rw [atI_lt h0 (by simpa using h1)]
  simp
section
variable {K : PySem.W.Frag} {C : Addr} {H : Hp} {Q : VK} {E : XK}
theorem r_cat {l b : Addr} {xs ys : List V} (h1 : H l = some (.lst xs)) (h2 : H b = some (.lst ys)) (h3 : xs.length + ys.length ≤ 1000) (k : ∀ p H', H p = none → Ex H H' → H' p = some (.lst (xs ++ ys)) → Q (.ref p) H') : rCat (.ref l) (.ref b) H Q :=
  ⟨l, b, xs, ys, rfl, rfl, h1, h2, Nat.le_trans h3 (by decide), s_new k⟩
theorem use_wo {f : Int → Int → Int → Int} {a : Addr} {y : V} {w v n : Int} (h : IsW C H a w v) (o : Opd C H w y n) (k : RetW C H Q w (f w v n)) : spWO C f [.ref a, y] H Q E := ⟨a, y, w, v, n, rfl, h, o, k⟩
theorem use_wt {f : Int → Int → Int → Int} {a : Addr} {w v t : Int} (h : IsW C H a w v) (h0 : 0 ≤ t) (h1 : t ≤ 10 ^ 30) (k : RetW C H Q w (f w v t)) : spWT C f [.ref a, .int t] H Q E := ⟨a, w, v, t, rfl, h, h0, h1, k⟩
theorem use_ww {f : Int → Int → Int} {a : Addr} {w v : Int} (h : IsW C H a w v) (k : RetW C H Q w (f w v)) : spWW C f [.ref a] H Q E := ⟨a, w, v, rfl, h, k⟩
theorem use_w1 {f : Int → Int} {w : Int} (h1 : 1 ≤ w) (h2 : w ≤ 64) (k : RetW C H Q w (f w)) : spW1 C f [.int w] H Q E := ⟨w, rfl, h1, h2, k⟩
theorem use_wp {f : Int → Int → V} {a : Addr} {w v : Int} (h : IsW C H a w v) (k : Q (f w v) H) : spWP C f [.ref a] H Q E := ⟨a, w, v, rfl, h, k⟩
theorem use_eqw {a b : Addr} {w v w' v' : Int} (h : IsW C H a w v) (h' : IsW C H b w' v') (k : Q (.bl (decide (w = w' ∧ v = v'))) H) : spEqW C [.ref a, .ref b] H Q E := ⟨a, b, w, v, w', v', rfl, h, h', k⟩
theorem use_like {a : Addr} {y : V} {w v n : Int} (h : IsW C H a w v) (o : Opd C H w y n) (k : Q (.bl (decide (orest w v = orest w n))) H) : spLike C [.ref a, y] H Q E := ⟨a, y, w, v, n, rfl, h, o, k⟩
end
theorem sum_pair : ∀ {vs : List Int} (i : Nat) {a b c : Int}, vs[i]? = some a → vs[i + 1]? = some b → (vs.take i ++ [c] ++ vs.drop (i + 2)).sum = vs.sum - a - b + c
  | [], i, a, b, c, h, _ => by simp at h
  | v :: vs, 0, a, b, c, h, h' => by
    simp at h
    subst h
    cases vs with
    | nil => simp at h'
    | cons u us =>
      simp at h'
      subst h'
      simp
      omega
  | v :: vs, i + 1, a, b, c, h, h' => by
    have ih := sum_pair (vs := vs) i (a := a) (b := b) (c := c) (by simpa using h) (by simpa using h')
    simp only [List.take_succ_cons, List.cons_append, List.sum_cons, List.drop_succ_cons] at ih ⊢
    simp only [List.append_assoc] at ih ⊢
    omega
theorem sum_nn : ∀ {vs : List Int}, (∀ v ∈ vs, 0 ≤ v) → 0 ≤ vs.sum
  | [], _ => by simp
  | v :: vs, h => by
    have h1 := h v (by simp)
    have h2 := sum_nn (vs := vs) fun u hu => h u (by simp [hu])
    simp only [List.sum_cons]
    omega
theorem norm_pair {w : Int} {vs : List Int} {i : Nat} {a b : Int} (hall : ∀ v ∈ vs, InW w v) (h1 : vs[i]? = some a) (h2 : vs[i + 1]? = some b) :
    norm (topI w) (vs.take i ++ [osum w a b] ++ vs.drop (i + 2)).sum = norm (topI w) vs.sum := by
  have ha := hall a (List.mem_of_getElem? h1)
  have hb := hall b (List.mem_of_getElem? h2)
  have e0 := sum_pair (vs := vs) i (c := 0) h1 h2
  have nn : 0 ≤ (vs.take i ++ [0] ++ vs.drop (i + 2)).sum := sum_nn fun v hv => by
    simp only [List.mem_append, List.mem_singleton] at hv
    rcases hv with (hv | hv) | hv
    · exact (hall v (List.mem_of_mem_take hv)).2.2.1
    · omega
    · exact (hall v (List.mem_of_mem_drop hv)).2.2.1
  rw [sum_pair i h1 h2]
  have hp := topI_pos ha.1
  unfold osum
  split
  · congr 1
    omega
  · have e : vs.sum - a - b + (a + b - topI w) = vs.sum - topI w := by omega
    rw [e]
    exact norm_sub (by omega) (by omega)
/-- grouped: the sum of a list of words in some grouping -/
def spGrouped (K : PySem.W.Frag) (C : Addr) : Sp := fun vs H Q _ => ∃ (p l : Addr) (as : List Addr) (us : List Int) (w : Int) (n : Nat), vs = [.ref p, .ref l] ∧ H l = some (.lst (as.map V.ref)) ∧ Ws C H w as us ∧ 1 ≤ as.length ∧ as.length ≤ 100 ∧
  PenAt K H p (n + as.length) ∧ ∀ x H', Gr H H' → PenAt K H' p n → IsW C H' x w (norm (topI w) us.sum) → Q (.ref x) H'
end Z

namespace Z
open PySem PySem.Spec PyProof.Rows L2
theorem Ws.but {C l : Addr} {H H' : Hp} {w : Int} {xs : List V} (e : But l H H') (hl : H l = some (.lst xs)) : ∀ {as : List Addr} {vs : List Int}, Ws C H w as vs → Ws C H' w as vs
  | [], [], _ => True.intro
  | _ :: _, _ :: _, h => ⟨h.1.but e hl, Ws.but e hl h.2⟩
theorem Ws.erase {C : Addr} {H : Hp} {w : Int} (n : Nat) : ∀ {as : List Addr} {vs : List Int}, Ws C H w as vs → Ws C H w (as.eraseIdx n) (vs.eraseIdx n) := by
  induction n with
  | zero =>
    intro as vs h
    match as, vs, h with
    | [], [], _ => exact True.intro
    | a :: as, v :: vs, h => exact h.2
  | succ n ih =>
    intro as vs h
    match as, vs, h with
    | [], [], _ => exact True.intro
    | a :: as, v :: vs, h => exact ⟨h.1, ih h.2⟩
theorem sum_erase : ∀ {vs : List Int} (i : Nat) {a : Int}, vs[i]? = some a → (vs.eraseIdx i).sum + a = vs.sum
  | [], i, a, h => by simp at h
  | v :: vs, 0, a, h => by
    simp at h
    subst h
    simp
    omega
  | v :: vs, i + 1, a, h => by
    have ih := sum_erase (vs := vs) i (a := a) (by simpa using h)
    simp only [List.eraseIdx_cons_succ, List.sum_cons]
    omega
section
variable {K : PySem.W.Frag} {σ : L2.St} {H : Hp} {Q : VK} {to : TE} {tr : TA}
theorem s_bm {T : String} {r : V → List V → Hp → VK → Prop} (k : to σ H fun x H1 => tyV K T x H1 ∧ tr σ H1 fun xs H2 => r x xs H2 Q) : tBM K T r to tr σ H Q := k
theorem s_bm0 {T : String} {r : V → List V → Hp → VK → Prop} (k : to σ H fun x H1 => tyV K T x H1 ∧ r x [] H1 Q) : tBM0 K T r to σ H Q := k
theorem v_tyL {P : Prop} {q : Addr} {xs : List V} (h : SqL K H q xs) (k : P) : tyV K "list" (.ref q) H ∧ P := ⟨Or.inl ⟨rfl, xs, h⟩, k⟩
theorem r_app {l : Addr} {xs : List V} {y : V} (h : H l = some (.lst xs)) (hl : xs.length < 1000) (k : ∀ H', But l H H' → H' l = some (.lst (xs ++ [y])) → Q .non H') : rAppend (.ref l) [y] H Q :=
  ⟨l, xs, y, rfl, rfl, h, Nat.lt_of_lt_of_le hl (by decide), k _ But.upd upd_same⟩
theorem r_popAt {l : Addr} {xs : List V} {i : Int} {y : V} (h : H l = some (.lst xs)) (h0 : 0 ≤ i) (h1 : i < xs.length) (hs : xs.length ≤ 1000) (hy : xs[i.toNat]? = some y) (k : ∀ H', But l H H' → H' l = some (.lst (xs.eraseIdx i.toNat)) → Q y H') : rPopAt (.ref l) [.int i] H Q :=
  ⟨l, xs, i, i.toNat, y, rfl, rfl, h, by omega, by omega, by
    unfold seqIndex?
    rw [if_neg (show ¬ i < 0 by omega)]
    simp [h0, h1], hy, k _ But.upd upd_same⟩
end
def spMixed (K : PySem.W.Frag) (C : Addr) : Sp := fun vs H Q _ => ∃ (p l : Addr) (as : List Addr) (us : List Int) (w : Int) (n : Nat), vs = [.ref p, .ref l] ∧ H l = some (.lst (as.map V.ref)) ∧ Ws C H w as us ∧ as.length ≤ 100 ∧
  PenAt K H p (n + as.length) ∧ ∀ q bs zs H', Gr H H' → PenAt K H' p n → H' q = some (.lst (bs.map V.ref)) → Ws C H' w bs zs → bs.length = as.length → zs.sum = us.sum → Q (.ref q) H'
end Z

namespace Z
theorem map_erase {α β : Type} (f : α → β) : ∀ (l : List α) (i : Nat), (l.map f).eraseIdx i = (l.eraseIdx i).map f
  | [], _ => rfl
  | _ :: _, 0 => rfl
  | a :: l, i + 1 => congrArg (f a :: ·) (map_erase f l i)
end Z

namespace Z
open PySem PySem.Spec PyProof.Rows L2
section
variable {C : Addr} {H : Hp}
/-- a word whose method is called | whose property is read -/
theorem v_ins {a : Addr} {w v : Int} {m : Str} {N : V → Hp → Prop} (h : IsW C H a w v) (k : (wf w v).lookup m = none ∧ N (.ref a) H) : InsP C m N (.ref a) H := ⟨a, _, _, rfl, h.2.choose_spec, k.1, k.2⟩
theorem v_insP {a : Addr} {w v : Int} {N : V → Hp → Prop} (h : IsW C H a w v) (k : N (.ref a) H) : InsQ C N (.ref a) H := ⟨a, _, _, rfl, h.2.choose_spec, k⟩
end
end Z

namespace Z
open PySem PySem.Spec PyProof.Rows L2
def spPair (C : Addr) : Sp := fun vs H Q _ => ∃ (w : Int) (x y : Addr) (t : Int) (a b : Int), vs = [.int w, .ref x, .ref y, .int t] ∧ IsW C H x w a ∧ IsW C H y w b ∧ 0 ≤ t ∧ t ≤ 1000 ∧ ∀ H', Ex H H' → Q (.bl true) H'
end Z

namespace Z
open PySem PySem.Spec PyProof.Rows L2
theorem q_true {Q : VK} {H : Hp} {c : Prop} {dc : Decidable c} (h : c) (k : Q (.bl true) H) : Q (.bl (decide c)) H := by
  rw [decide_eq_true h]
  exact k
def spLaw (K : PySem.W.Frag) : Sp := fun vs H Q _ => ∃ (a : Addr) (ns : List Int), vs = [.ref a] ∧ SqL K H a (ns.map V.int) ∧ ns.length ≤ 63 ∧ ∀ H', Q (.bl true) H'
end Z

namespace Z
open PySem PySem.Spec PyProof.Rows L2
section
variable {K : PySem.W.Frag} {C : Addr} {σ : L2.St} {H : Hp} {Q : VK} {E : XK} {D : Ends} {t rest : TS}
/-- what holds behind t, whatever follows -/
theorem s_cut (J : L2.St → Hp → Prop) (h1 : ∀ N : L2.St → Hp → Prop, (∀ σ' H', J σ' H' → N σ' H') → t { D with nx := N } σ H) (h2 : ∀ σ' H', J σ' H' → rest D σ' H') : tSeq t rest D σ H := h1 (rest D) h2
theorem r_sum {p : Addr} {ns : List Int} (h : SqL K H p (ns.map V.int)) (k : Q (.int ns.sum) H) : rSum K [.ref p] H Q := ⟨p, ns, rfl, h, k⟩
theorem r_rep {p : Addr} {xs : List V} {n : Int} (h : H p = some (.lst xs)) (h0 : -1000 ≤ n) (h1 : n ≤ 1000) (h2 : xs.length * n.toNat ≤ 1000) (k : ∀ l H', H l = none → Ex H H' → H' l = some (.lst (List.replicate n.toNat xs).flatten) → Q (.ref l) H') : rRep (.ref p) (.int n) H Q :=
  ⟨p, n, xs, rfl, rfl, h, by omega, by omega, Nat.le_trans h2 (by decide), s_new k⟩
/-- one more item of a comprehension's list -/
def LcN (P : Hp → Prop) (L : Addr) (y : V) (H : Hp) : Prop := ∃ acc, H L = some (.lst acc) ∧ acc.length < sizeLine ∧ P (upd H L (.lst (acc ++ [y])))
theorem lc_step {L : Addr} {acc : List V} {y : V} {P : Hp → Prop} (h : H L = some (.lst acc)) (hl : acc.length < 1000) (k : ∀ H', But L H H' → H' L = some (.lst (acc ++ [y])) → P H') : LcN P L y H :=
  ⟨acc, h, Nat.lt_of_lt_of_le hl (by decide), k _ But.upd upd_same⟩
theorem use_mixed {p l : Addr} {as : List Addr} {us : List Int} {w : Int} {n : Nat} (hl : H l = some (.lst (as.map V.ref))) (hW : Ws C H w as us) (h2 : as.length ≤ 100) (hp : PenAt K H p (n + as.length))
    (k : ∀ q bs zs H', Gr H H' → PenAt K H' p n → H' q = some (.lst (bs.map V.ref)) → Ws C H' w bs zs → bs.length = as.length → zs.sum = us.sum → Q (.ref q) H') : spMixed K C [.ref p, .ref l] H Q E := ⟨p, l, as, us, w, n, rfl, hl, hW, h2, hp, k⟩
theorem use_grouped {p l : Addr} {as : List Addr} {us : List Int} {w : Int} {n : Nat} (hl : H l = some (.lst (as.map V.ref))) (hW : Ws C H w as us) (h1 : 1 ≤ as.length) (h2 : as.length ≤ 100) (hp : PenAt K H p (n + as.length))
    (k : ∀ x H', Gr H H' → PenAt K H' p n → IsW C H' x w (norm (topI w) us.sum) → Q (.ref x) H') : spGrouped K C [.ref p, .ref l] H Q E := ⟨p, l, as, us, w, n, rfl, hl, hW, h1, h2, hp, k⟩
theorem use_pair {w t a b : Int} {x y : Addr} (hx : IsW C H x w a) (hy : IsW C H y w b) (h0 : 0 ≤ t) (h1 : t ≤ 1000) (k : ∀ H', Ex H H' → Q (.bl true) H') : spPair C [.int w, .ref x, .ref y, .int t] H Q E := ⟨w, x, y, t, a, b, rfl, hx, hy, h0, h1, k⟩
end
theorem rep_zero (n : Nat) : (List.replicate n [V.int 0]).flatten = (List.replicate n (0 : Int)).map V.int := by
  induction n with
  | zero => rfl
  | succ n ih => rw [List.replicate_succ, List.flatten_cons, ih, List.replicate_succ, List.map_cons]; rfl
theorem sum_zero : ∀ {vs : List Int}, (∀ v ∈ vs, 0 ≤ v) → (vs.sum = 0 ↔ vs = List.replicate vs.length 0)
  | [], _ => by simp
  | v :: vs, h => by
    have h1 := h v (by simp)
    have h2 := sum_nn (vs := vs) fun u hu => h u (by simp [hu])
    have ih := sum_zero (vs := vs) fun u hu => h u (by simp [hu])
    simp only [List.sum_cons, List.length_cons, List.replicate_succ, List.cons.injEq]
    constructor
    · intro q
      exact ⟨by omega, ih.mp (by omega)⟩
    · rintro ⟨a, b⟩
      have := ih.mpr b
      omega
theorem norm_zero_iff {M : Int} {vs : List Int} (hM : 0 < M) (h : ∀ v ∈ vs, 0 ≤ v) : norm M vs.sum = 0 ↔ vs = List.replicate vs.length 0 := by
  rw [← sum_zero h]
  constructor
  · intro q
    rcases Int.lt_or_eq_of_le (sum_nn h) with z | z
    · have := norm_pos (M := M) (s := vs.sum) hM (by omega)
      omega
    · omega
  · intro q
    rw [q, norm_zero]
theorem atI_last {cs : List Addr} (h : 0 < cs.length) : atI (cs.map V.ref) (-1) = some (.ref (cs[cs.length - 1]'(by omega))) := by
  unfold atI ixN
  rw [if_neg (by omega), if_pos (by simp; omega)]
  simp only [Option.bind_some, List.length_map]
  have e : ((-1 : Int) + (cs.length : Int)).toNat = cs.length - 1 := by omega
  rw [e, List.getElem?_map, List.getElem?_eq_getElem (by omega)]
  rfl
theorem walk_end {l : PySem.W.OpenLaw} {n k : Nat} {q : Program} {loose : List Str} {XP : (Str → Option Value) → Heap → Prop} {YP : World → Heap → Prop} {d : DefRec} {x : Str} (hn : l.most = some n) (hn2 : n ≤ sizeLine) (hdf : d.params.defaults = []) (hr : Room k callerA)
    (F : ∀ (w : World) (mg : Str → Option Value) (fa : Addr) (h : Heap), YP w h → h.Ns mainGlobals mg → mg d.name = some (.ref fa) →
      ∃ (K : PySem.W.Frag) (fd : FuncData) (sp : Sp), K.In h ∧ (∀ (s : Shared) (u : Value), BindsTo s fd ⟨[u], []⟩ [(x, u)]) ∧
        (∀ (H : Hp) (a : Addr) (ns : List Int), ns.length ≤ n → Only H → SqL K H a (ns.map V.int) → sp [.ref a] H (fun v _ => v = .bl true) fun _ _ _ => False) ∧
        ∀ base : Heap, K.In base → base.Ns mainGlobals mg → FnOk l.prog w K mg base (L2.CX l.prog w) k fa fd [x] sp) :
    PySem.W.WalkO q loose XP YP l.row.toRowW d [] (fun f vs => PySem.call f vs) := by
  refine Att.attach_call hn hdf fun w s₀ s₁ mg mb fa o pm cd doc a vs ns G Y ho hd hcd hmg hobj hints hlen hg => ?_
  obtain ⟨K, fd, sp, KX, hb, hsp, hF⟩ := F w mg fa _ Y G.T.g hmg
  refine law_call KX G.T.g G.T.b G.T.builtins G.T.nolimit hg hobj hints (Nat.le_trans hlen hn2) hr hF hb (fun H hO hS => hsp H a ns hlen hO hS) fun H e s' c => ?_
  obtain ⟨_, _, _, _, _, _, _, _, _, _, _, _, z⟩ := c
  exact z
end Z

namespace Z
open PySem PySem.Spec PyProof.Rows L2
section
variable {K : PySem.W.Frag} {C : Addr} {σ : L2.St} {H : Hp} {Q : VK} {E : XK} {D : Ends} {ta : TA} {te tl : TE} {g : TG} {tt : TT} {tb : TS} {vs : List Nat}
def LcP (J : It) (g : TG) (tt : TT) (te : TE) (vs : List Nat) (σ : L2.St) (H1 : Hp) (D : Addr) (Qd : Hp → Prop) : Prop := ∃ W : Nat → Nat → Hp → Prop, (∃ m, W 0 m (upd H1 D (.lst []))) ∧ ∀ i m H, W i m H →
  (J.stop i H ∧ Qd H) ∨ (J.go i H ∧ ∃ Nx : Hp → Prop, (∀ H', Nx H' → ∃ m', m' < m ∧ W (i + 1) m' H') ∧ ∀ x H', J.yld i H x H' → g x (wipe σ vs) H' fun σ2 H2 => wipe σ2 vs = wipe σ vs ∧ tt σ2 H2 fun b H3 =>
    if b = true then te σ2 H3 fun y H4 => ∃ acc, H4 D = some (.lst acc) ∧ acc.length < sizeLine ∧ Nx (upd H4 D (.lst (acc ++ [y]))) else Nx H3)
theorem s_lcR {n : Int} (hn : 0 ≤ n ∧ n ≤ 1000) (h : ∀ R : List V → Hp → Prop, R [.int n] H → ta σ H R) (Pv : Addr → Nat → Hp → Prop) (h0 : ∀ L H', H L = none → Ex H H' → H' L = some (.lst []) → Pv L 0 H')
    (hs : ∀ L (i : Nat) H', H L = none → (i : Int) < n → Pv L i H' → g (.int i) (wipe σ vs) H' fun σ2 H2 => wipe σ2 vs = wipe σ vs ∧ tt σ2 H2 fun b H3 => if b = true then te σ2 H3 fun y H4 => LcN (Pv L (i + 1)) L y H4 else Pv L (i + 1) H3)
    (hd : ∀ L H', H L = none → Pv L n.toNat H' → Q (.ref L) H') : tLc (iRng1 ta) g tt te vs σ H Q := by
  refine h _ ⟨n, rfl, by omega, by omega, fun L hL => lc_range (lo := 0) (n := n.toNat) (Pv L) (h0 L _ hL (Ex.new hL) upd_same) (fun i H' hi p => ?_) fun H' p => hd L H' hL p⟩
  have e : (0 : Int) + (i : Int) = (i : Int) := Int.zero_add _
  rw [e]
  exact hs L i H' hL (by omega) p
theorem s_lcL {a : Addr} {xs : List V} (h : ∀ R : VK, R (.ref a) H → tl σ H R) (hx : SqL K H a xs) (Pv : Addr → Nat → Hp → Prop) (h0 : ∀ L H', H L = none → Ex H H' → H' L = some (.lst []) → Pv L 0 H') (hl : ∀ L i H', H L = none → Pv L i H' → SqL K H' a xs)
    (hs : ∀ L i x H', H L = none → xs[i]? = some x → Pv L i H' → g x (wipe σ vs) H' fun σ2 H2 => wipe σ2 vs = wipe σ vs ∧ tt σ2 H2 fun b H3 => if b = true then te σ2 H3 fun y H4 => LcN (Pv L (i + 1)) L y H4 else Pv L (i + 1) H3)
    (hd : ∀ L H', H L = none → Pv L xs.length H' → Q (.ref L) H') : tLc (iList K tl) g tt te vs σ H Q := by
  refine h _ ⟨a, rfl, ⟨xs, hx⟩, fun L hL => lc_list (K := K) (a := a) (xs := xs) (Pv L) (h0 L _ hL (Ex.new hL) upd_same) (fun i H' _ p => hl L i H' hL p) (fun i x H' hi p => hs L i x H' hL hi p) fun H' p => hd L H' hL p⟩
theorem s_yes {QT : Bool → Hp → Prop} (k : QT true H) : tYes σ H QT := k
end
end Z

namespace Z
open PySem PySem.Spec PyProof.Rows L2
section
variable {K : PySem.W.Frag} {σ : L2.St} {H : Hp} {D : Ends} {ta : TA} {tl : TE} {g : TG} {tb : TS}
theorem s_forR {n : Int} (hn : 0 ≤ n ∧ n ≤ 100000) (h : ∀ R : List V → Hp → Prop, R [.int n] H → ta σ H R) (Pv : Nat → L2.St → Hp → Prop) (h0 : Pv 0 σ H)
    (hs : ∀ (i : Nat) σ' H', (i : Int) < n → Pv i σ' H' → g (.int i) σ' H' fun σ2 H2 => tb { D with nx := Pv (i + 1), ct := Pv (i + 1), bk := D.nx } σ2 H2) (hd : ∀ σ' H', Pv n.toNat σ' H' → D.nx σ' H') : tFor (iRng1 ta) g tb D σ H := by
  refine h _ ⟨n, rfl, by omega, by omega, for_range (lo := 0) (n := n.toNat) Pv h0 (fun i σ' H' hi p => ?_) hd⟩
  have e : (0 : Int) + (i : Int) = (i : Int) := Int.zero_add _
  rw [e]
  exact hs i σ' H' (by omega) p
theorem s_forL {a : Addr} {xs : List V} (h : ∀ R : VK, R (.ref a) H → tl σ H R) (hx : SqL K H a xs) (Pv : Nat → L2.St → Hp → Prop) (h0 : Pv 0 σ H) (hl : ∀ (i : Nat) σ' H', Pv i σ' H' → SqL K H' a xs)
    (hs : ∀ (i : Nat) x σ' H', xs[i]? = some x → Pv i σ' H' → g x σ' H' fun σ2 H2 => tb { D with nx := Pv (i + 1), ct := Pv (i + 1), bk := D.nx } σ2 H2) (hd : ∀ σ' H', Pv xs.length σ' H' → D.nx σ' H') : tFor (iList K tl) g tb D σ H :=
  h _ ⟨a, rfl, ⟨xs, hx⟩, for_list (K := K) (a := a) (xs := xs) Pv h0 (fun i σ' H' _ p => hl i σ' H' p) hs hd⟩
end
end Z

/-! Z: defs that show lists as texts: nothing is being shown when they are called -/
namespace Z
open PySem PySem.Spec PyProof.Rows L2
structure FnG (P : Program) (w : World) (K : PySem.W.Frag) (mg : Str → Option Value) (base : Heap) (k : Nat) (f : Addr) (fd : FuncData) (ps : List Str) (sp : Sp) : Prop where
  len : ∀ vs H Q E, sp vs H Q E → vs.length = ps.length
  run : ∀ (A : Around) (outer : List Env) (s : Shared) (H : Hp) (args : Args) (us : List Value) (vs : List V) (Q : VK) (E : XK), Room k A → A.guards = some [] → Env0 P w K mg base A outer s H → BindsTo s fd args (ps.zip us) →
    Vals vs us → sp vs H Q E → codeAny (model P w) A (.call (.ref f) args) (CR (L2.CX P w) outer P w H s Q E) s
theorem FnG.of {P : Program} {w : World} {K : PySem.W.Frag} {mg : Str → Option Value} {base : Heap} {k : Nat} {f : Addr} {fd : FuncData} {ps : List Str} {sp : Sp} (F : FnOk P w K mg base (L2.CX P w) k f fd ps sp) : FnG P w K mg base k f fd ps sp :=
  ⟨F.len, fun A outer s H args us vs Q E hr _ => F.run A outer s H args us vs Q E hr⟩
theorem okG {P : Program} {w : World} {K : PySem.W.Frag} {mg : Str → Option Value} {base : Heap} {x ql : Str} {pr : Arguments} {bd : List Stmt} {sc : Scope} {dvs : List V} {kws : List (Str × V)} {f : Addr} {fd : FuncData}
    {N ps : List Str} {k : Nat} {sp : Sp} (F : FunD K x ql pr bd sc dvs kws f fd) (S : FnScope N ps sc) (len : ∀ vs H Q E, sp vs H Q E → vs.length = ps.length)
    (hb : ∀ (cdv : Value) (A : Around) (outer : List Env) (s : Shared) (H : Hp) (vs : List V) (Q : VK) (E : XK), Room k (A.deeper (envOfC ql sc s.heap.objs.size f cdv)) → (A.deeper (envOfC ql sc s.heap.objs.size f cdv)).guards = some [] → sp vs H Q E →
      ∃ t, PSs (cxOf (L2.CX P w) P w K mg base N ql sc f cdv A outer s H E) bd t ∧ t { nx := fun _ H' => Q .non H', rt := Q } (L2.start N vs) H) : FnG P w K mg base (k + 1) f fd ps sp := by
  obtain ⟨oc, od, dV, kV, doc, pm, an, cdv, ct, osl, rfl, lk, hcd, _, _⟩ := F.ex
  refine ⟨len, fun A outer s H args us vs Q E hr hg e0 bi rv hsp => ?_⟩
  have lv := len _ _ _ _ hsp
  have old : ∀ b o, base.get? b = some o → s.heap.get? b = some o := fun b o e => (e0.bs b o e).1
  have KX : K.In s.heap := e0.mod.kin.keeps old
  have kinds : ∀ y ∈ ps.zip us, sc.names.lookup y.1 = some .local ∨ (sc.names.lookup y.1 = some .cell ∧ ((cellsFrom (s.heap.objs.size + 1) sc.names []).lookup y.1).isSome = true) := by
    rintro ⟨n, v⟩ hy
    exact (S.par n (List.of_mem_zip hy).1).imp id fun q => ⟨q, PySem.W.cellsFrom_some _ _ _ (.inl q)⟩
  refine codeAny_call_function hr.depth (KX _ _ lk) rfl S.co S.gen rfl (PySem.W.codeRec_of KX hcd) (bi _ _ _ _ ?_)
  refine wpAny_newFunctionEnv_cells S.kind kinds fun env he s1 ic => ?_
  subst he
  refine ⟨(e0.mod.nolimit.keeps old).keeps ic.toInCall.keep, codeAny_func ?_⟩
  obtain ⟨t, ht, hq⟩ := hb cdv A outer s H vs Q E (hr.deeper _) hg hsp
  have I := inv_start (CX := L2.CX P w) (E := E) S hr.hd e0 lv rv ic
  refine wpAny_mono (ht.run [] s1 (L2.start N vs) H _ I hq) (fun fl s' hs => ?_) fun _ _ z => z
  cases fl with
  | ret u =>
    obtain ⟨v, σ', H', J, r', q⟩ := hs
    exact ⟨v, H', J.os, J.bare, J.base, J.hok, r', q⟩
  | next =>
    obtain ⟨σ', H', J, q⟩ := hs
    exact ⟨V.non, H', J.os, J.bare, J.base, J.hok, rfl, q⟩
  | brk => exact (hs.choose_spec.choose_spec.2 : False).elim
  | cont => exact (hs.choose_spec.choose_spec.2 : False).elim
section
variable {X : Cx} {k : Nat} {f : Addr} {fd : FuncData} {ps : List Str} {sp : Sp} {E : XK} {x : Str} {p pos : Pos} {e : Expr} {es : List Expr} {t : TA}
theorem runG {pins : List (Addr × Obj)} {σ : L2.St} {H : Hp} {s : Shared} {Q : VK} {us : List Value} {vs : List V} (F : FnG X.prog X.w X.K X.mg X.base k f fd ps sp) (hr : Room k X.A) (hG : X.A.guards = some []) (hb : Binds X.K fd ps [])
    (hx : Passes (L2.CX X.prog X.w) X E) (I : Inv X pins σ H s) (r : Vals vs us) (h : sp vs H Q E) : wpAny (model X.prog X.w) X.A (call (.ref f) us) (EP X pins σ Q) X.xe s := by
  have hl : (us ++ []).length = ps.length := by
    rw [List.append_nil, ← r.length]
    exact F.len _ _ _ _ h
  have hbi := hb s us I.kIn hl
  rw [List.append_nil] at hbi
  refine wpAny_call (codeAny_mono (F.run X.A X.stack s H ⟨us, []⟩ us vs Q E hr hG I.env0 hbi r h) fun r' s' hq => ?_)
  cases r' with
  | error er => exact hx pins σ H s er s' I hq
  | ok fl =>
    cases fl with
    | ret u =>
      exact I.after hq
    | next => exact hq.elim
    | brk => exact hq.elim
    | cont => exact hq.elim
end
end Z

namespace Z
open PySem PySem.Spec PyProof.Rows L2
section
variable {X : Cx} {k : Nat} {f : Addr} {fd : FuncData} {ps : List Str} {sp : Sp} {E : XK} {x : Str} {p pos : Pos} {e : Expr} {es : List Expr} {t : TA}
theorem pe_callG (F : FnG X.prog X.w X.K X.mg X.base k f fd ps sp) (hr : Room k X.A) (hG : X.A.guards = some []) (hg : Gl X x) (hm : X.mg x = some (.ref f)) (hk : PySem.W.keepIn X.K (.ref f) = true) (hb : Binds X.K fd ps []) (hx : Passes (L2.CX X.prog X.w) X E)
    (ha : PA X (e :: es) t) (hdb : (x == ("__debug__" : Str)) = false := by decide) (hst : starEach (e :: es) X.env = (false, eval e X.env) :: starEach es X.env := by rfl) (hpl : (backTo pos (starEach es X.env)).any (·.1) = false := by rfl) :
    PE X (.Call (.Name x p) (e :: es) [] pos) (tCall sp [] E t) := by
  refine ⟨fun pins s σ H Q I h => ?_⟩
  refine wpAny_Call_Name_kw (ld_glob I hg hm ?_ hdb)
  refine PySem.W.callWith_K (h₀ := X.base) I.ok.mod.kin hk (thn (ha.run pos pins s σ H _ I h) ?_) hst hpl
  rintro us s1 ⟨vs, H1, I1, r, q⟩
  rw [List.append_nil] at q
  exact ⟨I1.kIn, runG F hr hG hb hx I1 r q⟩
/-- repr of data -/
def rReprD (K : PySem.W.Frag) : RC := fun xs H Q => ∃ a d, xs = [.ref a] ∧ Dp K H (.ref a) d ∧ d.showable = true ∧ d.hasDict = false ∧ d.depth ≤ 60 ∧ d.shown.length ≤ sizeLine ∧ Q (.str d.shown) H
theorem call_reprD (hG : X.A.guards = some []) (hu : X.A.units + 64 < cLine) : CallR X (.builtin "repr") (rReprD X.K) := by
  intro pins s σ H xs us Q I r h
  obtain ⟨a, d, rfl, hd, hs, hn, hp, hz, q⟩ := h
  cases r with
  | cons r0 r1 =>
    cases r1
    obtain rfl := (show _ = Value.ref a from r0)
    obtain ⟨as, rd⟩ := Dp.reads I d _ _ hd r0
    exact PySem.repr_of_reads' rd hs (PyData.noDict_hsm hn) hG (by omega) (fun _ _ z => z) (fun h' u tk hk => ⟨.str d.shown, H, I.kept hk, ⟨u, rfl⟩, q⟩) hz
end
theorem law_callG {P : Program} {w : World} {K : PySem.W.Frag} {mg mb : Str → Option Value} {k : Nat} {fa a : Addr} {fd : FuncData} {x : Str} {sp : Sp} {s1 : Shared} {vs : List Value} {ns : List Int}
    (KX : K.In s1.heap) (hns : s1.heap.Ns mainGlobals mg) (hb : s1.heap.Ns builtinsNs mb) (hbb : ∀ x : Str, x ≠ "__name__" → mb x = bootBuiltins x) (lim : s1.heap.NoLimit) (hg : s1.gens = #[])
    (ha : s1.heap.get? a = some { cls := .type "list", data := .seq vs.toArray }) (hi : IntsAre vs ns) (hl : ns.length ≤ sizeLine) (hr : Room k callerA)
    (F : ∀ base : Heap, K.In base → base.Ns mainGlobals mg → FnG P w K mg base k fa fd [x] sp) (bi : ∀ (s : Shared) (u : Value), BindsTo s fd ⟨[u], []⟩ [(x, u)])
    (hsp : ∀ H : Hp, Only H → SqL K H a (ns.map V.int) → sp [.ref a] H (fun v _ => v = .bl true) fun _ _ _ => False) :
    codeAny (model P w) callerA (.call (.ref fa) ⟨[.ref a], []⟩) (fun r s' => r = .ok (.ret (.bool true)) ∧ OldK s1.heap s'.heap ∧ s'.os = s1.os ∧ AllBare s'.gens) s1 := by
  have rv := vals_ints hi
  have go : ∀ H : Hp, Only H → SqL K H a (ns.map V.int) → HOk P w H s1.heap → (∀ b, H b ≠ none → b = a) → (H a ≠ none → K.lookup a = none) →
      codeAny (model P w) callerA (.call (.ref fa) ⟨[.ref a], []⟩) (fun r s' => r = .ok (.ret (.bool true)) ∧ OldK s1.heap s'.heap ∧ s'.os = s1.os ∧ AllBare s'.gens) s1 := by
    intro H hO hS ok only noK
    have free : ∀ {b : Addr}, b ≠ a → H b = none := fun {b} ne => by
      cases q : H b with
      | none => rfl
      | some u => exact absurd (only b (by rw [q]; simp)) ne
    have noDict : ∀ {b : Addr} {o : Obj} {es : Array DictEntry} {ep : Nat}, s1.heap.get? b = some o → o.data = .dict es ep → H b = none := fun {b o es ep} e d => free fun z => by
      subst z
      rw [ha] at e
      cases e
      cases (show Data.seq vs.toArray _ = Data.dict es ep from d)
    have ns' : ∀ {b : Addr} {m : Str → Option Value}, s1.heap.Ns b m → (hidT s1.heap H).Ns b m := fun {b m} n => by
      obtain ⟨o, es, ep, e, d, r⟩ := n
      exact ⟨o, es, ep, hidT_get e (noDict e d), d, r⟩
    have K' : K.In (hidT s1.heap H) := fun b o e => hidT_get (KX b o e) (by
      by_cases z : b = a
      · cases q : H b with
        | none => rfl
        | some u =>
          subst z
          rw [noK (by rw [q]; simp)] at e
          cases e
      · exact free z)
    have lim' : (hidT s1.heap H).NoLimit := by
      obtain ⟨mc, h1, h2⟩ := lim
      exact ⟨mc, ns' h1, h2⟩
    have e0 : Env0 P w K mg (hidT s1.heap H) callerA [] s1 H := ⟨rfl, ⟨K', ns' hns, ⟨mb, ns' hb, hbb⟩, lim'⟩, fun _ _ e => of_hidT e, Nat.le_of_eq (hidT_size _ _), trivial, fun b z => absurd (show b ∈ ([] : List Addr) from z) (by simp), ok, .of_eq hg⟩
    refine codeAny_mono ((F _ K' (ns' hns)).run callerA [] s1 H ⟨[.ref a], []⟩ [.ref a] [.ref a] _ _ hr rfl e0 (bi s1 (.ref a)) (.cons rfl .nil) (hsp H hO hS)) ?_
    intro r s' h
    cases r with
    | error e =>
      obtain ⟨_, _, _, _, _, _, _, _, _, _, _, _, z⟩ := h
      exact z.elim
    | ok fl =>
      cases fl with
      | ret u =>
        obtain ⟨v, H', os, bare, un, ok', rr, q⟩ := h
        obtain rfl : v = .bl true := q
        obtain rfl : u = Value.bool true := rr
        refine ⟨rfl, OldK.of_keep fun b o e => ?_, os, bare⟩
        rcases hO b with z | ⟨ob, xs, z⟩
        · exact un.keep b o e z (fun y => absurd (show b ∈ ([] : List Addr) from y) (by simp)) (by simp)
        · have e1 := (ok b _ z).1
          have e2 := (ok' b _ (un.frzs b ob _ z)).1
          rw [e] at e1
          cases e1
          exact e2
      | next => exact h.elim
      | brk => exact h.elim
      | cont => exact h.elim
  have lv := hi.length
  cases hk : K.lookup a with
  | some o =>
    have e := KX a o hk
    rw [ha] at e
    cases e
    exact go (fun _ => none) (fun _ => .inl rfl) (.inr ⟨_, vs.toArray, _, hk, rfl, rfl, rfl, by rw [List.size_toArray, lv]; exact hl, by simpa using rv⟩) (fun _ _ z => nomatch z) (fun _ z => absurd rfl z) fun z => absurd rfl z
  | none =>
    have at_ : ∀ b, b ≠ a → (if b = a then some (HO.frz { cls := .type "list", data := .seq vs.toArray } (.lst (ns.map V.int))) else none) = none := fun b ne => if_neg ne
    refine go (fun b => if b = a then some (.frz { cls := .type "list", data := .seq vs.toArray } (.lst (ns.map V.int))) else none) (fun b => ?_) (.inl (.inr ⟨_, if_pos rfl⟩)) (fun b u z => ?_) (fun b z => ?_) fun _ => hk
    · by_cases q : b = a
      · exact .inr ⟨_, _, if_pos q⟩
      · exact .inl (if_neg q)
    · by_cases q : b = a
      · have z2 := (if_pos q).symm.trans z
        cases z2
        subst q
        exact ⟨ha, by rw [List.length_map]; exact hl, vs, _, rv, ha⟩
      · have z2 := (if_neg q).symm.trans z
        cases z2
    · exact Classical.byContradiction fun q => z (if_neg q)
theorem walk_endG {l : PySem.W.OpenLaw} {n k : Nat} {q : Program} {loose : List Str} {XP : (Str → Option Value) → Heap → Prop} {YP : World → Heap → Prop} {d : DefRec} {x : Str} (hn : l.most = some n) (hn2 : n ≤ sizeLine) (hdf : d.params.defaults = []) (hr : Room k callerA)
    (F : ∀ (w : World) (mg : Str → Option Value) (fa : Addr) (h : Heap), YP w h → h.Ns mainGlobals mg → mg d.name = some (.ref fa) →
      ∃ (K : PySem.W.Frag) (fd : FuncData) (sp : Sp), K.In h ∧ (∀ (s : Shared) (u : Value), BindsTo s fd ⟨[u], []⟩ [(x, u)]) ∧
        (∀ (H : Hp) (a : Addr) (ns : List Int), ns.length ≤ n → Only H → SqL K H a (ns.map V.int) → sp [.ref a] H (fun v _ => v = .bl true) fun _ _ _ => False) ∧
        ∀ base : Heap, K.In base → base.Ns mainGlobals mg → FnG l.prog w K mg base k fa fd [x] sp) :
    PySem.W.WalkO q loose XP YP l.row.toRowW d [] (fun f vs => PySem.call f vs) := by
  refine Att.attach_call hn hdf fun w s₀ s₁ mg mb fa o pm cd doc a vs ns G Y ho hd hcd hmg hobj hints hlen hg => ?_
  obtain ⟨K, fd, sp, KX, hb, hsp, hF⟩ := F w mg fa _ Y G.T.g hmg
  exact law_callG KX G.T.g G.T.b G.T.builtins G.T.nolimit hg hobj hints (Nat.le_trans hlen hn2) hr hF hb (fun H hO hS => hsp H a ns hlen hO hS)
end Z

/-! Z: methods called with keywords, abs of an own instance, xor of words, repr beside lists -/
namespace Z
open PySem PySem.Spec PyProof.Rows L2
theorem and_step (a b : Nat) : a &&& b = 2 * (a / 2 &&& b / 2) + (a % 2) * (b % 2) := by
  have h1 : (a &&& b) / 2 = a / 2 &&& b / 2 := Nat.and_div_two
  have h2 : (a &&& b) % 2 = (a % 2) * (b % 2) := by
    have e := Nat.and_mod_two_pow (a := a) (b := b) (n := 1)
    simp only [Nat.pow_one] at e
    rw [e]
    rcases Nat.mod_two_eq_zero_or_one a with h | h <;> rcases Nat.mod_two_eq_zero_or_one b with h' | h' <;> rw [h, h'] <;> rfl
  omega
theorem xor_le : ∀ (n a b : Nat), a < 2 ^ n → b < 2 ^ n → a + b - 2 * (a &&& b) < 2 ^ n ∧ 2 * (a &&& b) ≤ a + b := by
  intro n
  induction n with
  | zero => intro a b ha hb; simp at ha hb; subst ha; subst hb; decide
  | succ n ih =>
    intro a b ha hb
    rw [Nat.pow_succ] at ha hb ⊢
    have := ih (a / 2) (b / 2) (by omega) (by omega)
    rw [and_step a b]
    generalize a / 2 &&& b / 2 = c at *
    rcases Nat.mod_two_eq_zero_or_one a with h | h <;> rcases Nat.mod_two_eq_zero_or_one b with h' | h' <;> rw [h, h'] <;> omega
def oxor (a b : Int) : Int := Builtin.bitXor a b
theorem oxor_in {w a b : Int} (ha : InW w a) (hb : InW w b) : InW w (oxor a b) := by
  obtain ⟨h1, h2, h3, h4⟩ := ha
  obtain ⟨_, _, h5, h6⟩ := hb
  obtain ⟨m, rfl⟩ := Int.eq_ofNat_of_zero_le h3
  obtain ⟨n, rfl⟩ := Int.eq_ofNat_of_zero_le h5
  unfold oxor
  rw [bitXor_and, bitAnd_pp (Int.natCast_nonneg m) (Int.natCast_nonneg n), Int.toNat_natCast, Int.toNat_natCast]
  unfold topI at h4 h6
  have e : ((2 ^ w.toNat : Nat) : Int) = (2 : Int) ^ w.toNat := by exact_mod_cast rfl
  have := xor_le w.toNat m n (by omega) (by omega)
  refine ⟨h1, h2, by omega, ?_⟩
  unfold topI
  omega
def ofar (w v : Int) : Int := if orest w v < topI w - orest w v then orest w v else topI w - orest w v
section
variable {X : Cx} {CX : CXT} {k : Nat} {f C : Addr} {fd : FuncData} {ps ks : List Str} {sp : Sp} {E : XK} {x m : Str} {p pos apos : Pos} {e o : Expr} {es : List Expr} {kws : List Keyword} {ta : TE} {t tk : TA}
theorem run_in {A : Around} {pins : List (Addr × Obj)} {σ : L2.St} {H : Hp} {s : Shared} {Q : VK} {us : List Value} {vs : List V} (F : FnOk X.prog X.w X.K X.mg X.base CX k f fd ps sp) (hr : Room k A) (e0 : Env0 X.prog X.w X.K X.mg X.base A X.stack s H) (hb : Binds X.K fd ps [])
    (hx : Passes CX X E) (I : Inv X pins σ H s) (r : Vals vs us) (h : sp vs H Q E) : wpAny (model X.prog X.w) A (call (.ref f) us) (EP X pins σ Q) X.xe s := by
  have hl : (us ++ []).length = ps.length := by
    rw [List.append_nil, ← r.length]
    exact F.len _ _ _ _ h
  have hbi := hb s us I.kIn hl
  rw [List.append_nil] at hbi
  refine wpAny_call (codeAny_mono (F.run A X.stack s H ⟨us, []⟩ us vs Q E hr e0 hbi r h) fun r' s' hq => ?_)
  cases r' with
  | error er => exact hx pins σ H s er s' I hq
  | ok fl =>
    cases fl with
    | ret u => exact I.after hq
    | next => exact hq.elim
    | brk => exact hq.elim
    | cont => exact hq.elim
/-- abs(x) of an own instance -/
def rAbsO (C : Addr) (sp : Sp) (E : XK) : RC := fun xs H Q => ∃ a dx fs, xs = [.ref a] ∧ H a = some (.ins C dx fs) ∧ sp [.ref a] H Q E
theorem call_absO (hs : PySem.W.findIn X.K (.ref C) "__abs__" = some (some (.ref f))) (hf : PySem.W.isFn X.K (.ref f) = true)
    (Fn : FnOk X.prog X.w X.K X.mg X.base CX k f fd ps sp) (hr : Room (k + 1) X.A) (hb : Binds X.K fd ps []) (hx : Passes CX X E) : CallR X (.builtin "abs") (rAbsO C sp E) := by
  intro pins s σ H xs us Q I r h
  obtain ⟨a, dx, fs, rfl, ha, hsp⟩ := h
  obtain ⟨u, rfl, ru⟩ := vals1 r
  obtain rfl : u = Value.ref a := ru
  obtain ⟨ox, od, i1⟩ := ins_look I ha
  refine PySem.Calls.call_function_entry kind_abs plain_abs entry_abs (args_abs _) ?_
  unfold Builtin.«abs»
  refine wpAny_bind (m := oneArg "abs" _) (wpAny_pure ?_)
  refine wpAny_bind (m := callSpecial? (.ref a) (Str.ofString "__abs__")) (PySem.W.special_fn I.kIn i1 hs (beq_iff_eq.mp hf) ?_)
  refine wpAny_mono (run_in (vs := [.ref a]) Fn (Room.in1 hr) I.env0.in1 hb hx I (.cons rfl .nil) hsp) (fun v s' hv => ?_) fun _ _ z => z
  exact wpAny_pure ⟨_, rfl, hv⟩
theorem FunD.kbindsN {K : PySem.W.Frag} {x ql : Str} {pr : Arguments} {bd : List Stmt} {sc : Scope} {kws : List (Str × V)} (F : FunD K x ql pr bd sc [] kws f fd) (n : Nat) (ks : List Str) (g : {α : Type} → List α → List α → List α)
    (hrel : ∀ {vs zs : List V} {us ws : List Value}, Vals vs us → Vals zs ws → Vals (g vs zs) (g us ws))
    (h : ∀ (kV doc pm : Value) (an : Option Addr) (cdv ct : Value) (us ws : List Value), us.length = n → ws.length = ks.length → bindArgs (PySem.W.fnOf x ql pr bd sc .none kV doc pm an cdv ct) ⟨us, ks.zip ws⟩ = pure (ps.zip (g us ws))) : KBn K fd ps n ks (fun us ws => g us ws) (fun vs zs => g vs zs) := by
  obtain ⟨oc, od, dV, kV, doc, pm, an, cdv, ct, osl, rfl, lk, hcd, hD, hK⟩ := F.ex
  rcases hD with ⟨_, rfl⟩ | ⟨e, _⟩
  · exact ⟨fun s us ws X l1 l2 => .of_eq (h kV doc pm an cdv ct us ws l1 l2), fun r1 r2 => hrel r1 r2⟩
  · exact absurd rfl e
/-- o.m(k = v, ..) -/
def tMethN (C : Addr) (m : Str) (n : Nat) (sp : Sp) (gV : List V → List V → List V) (E : XK) (ta : TE) (tk : TA) : TE := fun σ H Q => ta σ H fun x H1 => InsP C m (fun x H1 => tk σ H1 fun zs H2 => zs.length = n ∧ sp (gV [x] zs) H2 Q E) x H1
variable {g : List Value → List Value → List Value} {gV : List V → List V → List V}
theorem pe_methN {pl : Sem Bool} (he : PE X o ta) (c : Cls X.K C) (hm : Meth X.K C m f) (F : FnOk X.prog X.w X.K X.mg X.base CX k f fd ps sp) (hr : Room k X.A) (hb : KBn X.K fd ps 1 ks g gV) (hx : Passes CX X E) (hkw : PK X kws tk)
    (hall : (backToKw pos (keywordEach kws X.env)).all (·.1.isSome) = true := by rfl) (hks : (backToKw pos (keywordEach kws X.env)).filterMap (·.1) = ks := by rfl)
    (hpl : ((backTo pos (starEach [] X.env)).any (·.1) || (backToKw pos (keywordEach kws X.env)).any (·.1.isNone)) = false := by rfl)
    (ht : eval (.Call (.Attribute o m apos) [] kws pos) X.env = (do
      let ov ← eval o X.env
      standAt apos.atName
      let (f, first) ← holding [ov] (getMethod ov m pl)
      callWith pos f first (backTo pos (starEach [] X.env)) (backToKw pos (keywordEach kws X.env))) := by rfl) :
    PE X (.Call (.Attribute o m apos) [] kws pos) (tMethN C m ks.length sp gV E ta tk) := by
  refine ⟨fun pins s σ H Q I h => ?_⟩
  refine PySem.W.methodCall_KW (pl := pl) (thn (he.run pins s σ H _ I h) fun u s1 ⟨x, H1, I1, rx, a, dx, fs, ex, ea, l, q⟩ => ?_) ht
  subst ex
  obtain rfl : u = Value.ref a := rx
  refine getmeth_ok I1 ea c hm l ?_
  refine PySem.W.callWith_KW0 (first := [.ref a]) (h₀ := X.base) I.ok.mod.kin hm.kp hall (thn (hkw.run pos pins s1 σ H1 _ I1 q) fun ws s2 ⟨zs, H2, I2, rz, l2, q2⟩ => ⟨I2.kIn, ?_⟩) hpl
  rw [hks]
  exact run_fnN (us := [.ref a]) (vs := [.ref a]) F hr hb hx I2 (.cons rfl .nil) rz rfl l2 q2
theorem s_methN {σ : L2.St} {H : Hp} {Q : VK} {n : Nat} (h : ta σ H fun x H1 => InsP C m (fun x H1 => tk σ H1 fun zs H2 => zs.length = n ∧ sp (gV [x] zs) H2 Q E) x H1) : tMethN C m n sp gV E ta tk σ H Q := h
/-- abs of a word -/
theorem r_absO {a : Addr} {w v : Int} {H : Hp} {Q : VK} (ha : IsW C H a w v) (k : sp [.ref a] H Q E) : rAbsO C sp E [.ref a] H Q := ⟨a, _, _, rfl, ha.2.choose_spec, k⟩
end
end Z

/-! Z: texts of bits -/
namespace Z
open PySem PySem.Spec PyProof.Rows L2
def bitT (v : Int) : Nat → List Nat
  | 0 => []
  | n + 1 => (48 + ((v / 2 ^ n) % 2).toNat) :: bitT v n
def valT (a : Int) (l : List Nat) : Int := l.foldl (fun a (c : Nat) => 2 * a + ((c : Int) - 48)) a
theorem bitT_length (v : Int) : ∀ n, (bitT v n).length = n
  | 0 => rfl
  | n + 1 => by rw [bitT, List.length_cons, bitT_length v n]
theorem emod_pow_succ (v : Int) (n : Nat) : v % 2 ^ (n + 1) = (v / 2 ^ n) % 2 * 2 ^ n + v % 2 ^ n := by
  have hp : (0 : Int) < 2 ^ n := Int.pow_pos (by decide)
  have e1 := Int.mul_ediv_add_emod v (2 ^ n)
  have e2 := Int.mul_ediv_add_emod (v / 2 ^ n) 2
  have r0 := Int.emod_nonneg v (show (2 : Int) ^ n ≠ 0 by omega)
  have r1 := Int.emod_lt_of_pos v hp
  have b0 := Int.emod_nonneg (v / 2 ^ n) (show (2 : Int) ≠ 0 by decide)
  have b1 := Int.emod_lt_of_pos (v / 2 ^ n) (show (0 : Int) < 2 by decide)
  generalize v / 2 ^ n / 2 = q at *
  generalize (v / 2 ^ n) % 2 = b at *
  generalize v % 2 ^ n = r at *
  generalize hu : v / 2 ^ n = u at *
  have e3 : v = (b * 2 ^ n + r) + 2 ^ (n + 1) * q := by
    rw [← e1, ← e2, Int.pow_succ, Int.mul_add, Int.mul_comm b]
    have : (2 : Int) ^ n * (2 * q) = 2 ^ n * 2 * q := by rw [Int.mul_assoc]
    omega
  have lt : b * 2 ^ n + r < 2 ^ (n + 1) := by
    rw [Int.pow_succ]
    have : b = 0 ∨ b = 1 := by omega
    rcases this with rfl | rfl <;> omega
  have ge : 0 ≤ b * 2 ^ n + r := by
    have : b = 0 ∨ b = 1 := by omega
    rcases this with rfl | rfl <;> omega
  rw [e3, Int.add_mul_emod_self_left, Int.emod_eq_of_lt ge lt]
theorem valT_bit (v : Int) : ∀ (n : Nat) (a : Int), valT a (bitT v n) = a * 2 ^ n + v % 2 ^ n
  | 0, a => by
    show a = a * 2 ^ 0 + v % 2 ^ 0
    rw [Int.pow_zero, Int.emod_one]
    omega
  | n + 1, a => by
    have b0 := Int.emod_nonneg (v / 2 ^ n) (show (2 : Int) ≠ 0 by decide)
    show valT (2 * a + (((48 + ((v / 2 ^ n) % 2).toNat : Nat) : Int) - 48)) (bitT v n) = _
    rw [valT_bit v n, emod_pow_succ]
    have e : (((48 + ((v / 2 ^ n) % 2).toNat : Nat) : Int) - 48) = (v / 2 ^ n) % 2 := by omega
    rw [e, Int.add_mul, Int.pow_succ]
    have : 2 * a * 2 ^ n = a * (2 ^ n * 2) := by
      rw [Int.mul_comm 2 a, Int.mul_assoc, Int.mul_comm 2]
    omega
theorem bitT_drop (v : Int) : ∀ (n k : Nat), k ≤ n → (bitT v n).drop k = bitT v (n - k)
  | n, 0, _ => rfl
  | n + 1, k + 1, h => by
    rw [bitT, List.drop_succ_cons, bitT_drop v n k (by omega)]
    congr 1
    omega
theorem bitT_take (v : Int) : ∀ (n k : Nat), k ≤ n → (bitT v n).take k = bitT (v / 2 ^ (n - k)) k
  | n, 0, _ => by simp [bitT]
  | n + 1, k + 1, h => by
    rw [bitT, List.take_succ_cons, bitT_take v n k (by omega), bitT]
    have e : n + 1 - (k + 1) = n - k := by omega
    have e2 : v / 2 ^ n = v / 2 ^ (n - k) / 2 ^ k := by
      rw [Int.ediv_ediv_of_nonneg (Int.le_of_lt (Int.pow_pos (by decide))), ← Int.pow_add, Nat.sub_add_cancel (by omega)]
    rw [e, e2]
theorem turned_eq {w v : Int} {k : Nat} (h : InW w v) (hk : (k : Int) < w) : valT 0 ((bitT v w.toNat).drop k ++ (bitT v w.toNat).take k) = omul w v (2 ^ k) := by
  obtain ⟨h1, h2, h3, h4⟩ := id h
  have hM := topI_pos h1
  rw [bitT_drop _ _ _ (by omega), bitT_take _ _ _ (by omega)]
  unfold valT
  rw [List.foldl_append]
  show valT (valT 0 (bitT v (w.toNat - k))) (bitT (v / 2 ^ (w.toNat - k)) k) = _
  rw [valT_bit, valT_bit, Int.zero_mul, Int.zero_add, omul_norm]
  have hp : (0 : Int) < 2 ^ (w.toNat - k) := Int.pow_pos (by decide)
  have hq : (0 : Int) < 2 ^ k := Int.pow_pos (by decide)
  have e1 := Int.mul_ediv_add_emod v (2 ^ (w.toNat - k))
  have r0 := Int.emod_nonneg v (show (2 : Int) ^ (w.toNat - k) ≠ 0 by omega)
  have r1 := Int.emod_lt_of_pos v hp
  have hs : (2 : Int) ^ (w.toNat - k) * 2 ^ k = 2 ^ w.toNat := by rw [← Int.pow_add, Nat.sub_add_cancel (by omega)]
  have e2 : (2 : Int) ^ w.toNat = topI w + 1 := by unfold topI; omega
  have u0 : 0 ≤ v / 2 ^ (w.toNat - k) := Int.ediv_nonneg h3 (by omega)
  have u1 : v / 2 ^ (w.toNat - k) < 2 ^ k := by
    refine Int.ediv_lt_of_lt_mul hp ?_
    rw [Int.mul_comm, hs]
    omega
  rw [Int.emod_eq_of_lt u0 u1]
  generalize v / 2 ^ (w.toNat - k) = u at *
  generalize v % 2 ^ (w.toNat - k) = r at *
  have e3 : 2 ^ k * v = (r * 2 ^ k + u) + topI w * u := by
    rw [← e1, Int.mul_add, ← Int.mul_assoc, Int.mul_comm (2 ^ k) (2 ^ (w.toNat - k)), hs, e2, Int.add_mul, Int.mul_comm (2 ^ k) r]
    omega
  have le : r * 2 ^ k + u ≤ topI w := by
    have : r + 1 ≤ 2 ^ (w.toNat - k) := r1
    have m := Int.mul_le_mul_of_nonneg_right this (show (0 : Int) ≤ 2 ^ k by omega)
    rw [hs, e2, Int.add_mul] at m
    omega
  have rk : 0 ≤ r * 2 ^ k := Int.mul_nonneg r0 (by omega)
  have ge : 0 ≤ r * 2 ^ k + u := by omega
  have vk : 0 ≤ 2 ^ k * v := Int.mul_nonneg (by omega) h3
  have tu : 0 ≤ topI w * u := Int.mul_nonneg (by omega) u0
  rw [norm_eq (M := topI w) (s := 2 ^ k * v) (t := r * 2 ^ k + u) (by omega) vk ge ⟨fun z => by omega, fun z => ?_⟩ u e3, norm_small ge le]
  have : u = 0 := by omega
  rw [e3, this]
  omega
/-- doubling -/
theorem norm_idem {M s : Int} (hM : 0 < M) : norm M (norm M s) = norm M s := norm_small (norm_range hM).1 (norm_range hM).2
theorem norm_addL {M a b : Int} (hM : 0 < M) (ha : 0 ≤ a) (hb : 0 ≤ b) : norm M (norm M a + b) = norm M (a + b) := by
  rw [← norm_norm_add hM (norm_range hM).1 hb, norm_idem hM, norm_norm_add hM ha hb]
theorem norm_lin {M a t b : Int} (hM : 0 < M) (ha : 0 ≤ a) (ht : 0 ≤ t) (hb : 0 ≤ b) : norm M (a + t * norm M b) = norm M (a + t * b) := by
  have n0 := (norm_range (M := M) (s := b) hM).1
  rw [← norm_norm_add hM ha (Int.mul_nonneg ht n0), norm_mul_norm hM ht hb, norm_norm_add hM ha (Int.mul_nonneg ht hb)]
theorem dbl1 {M f d l g : Int} (hM : 0 < M) (hf : 0 ≤ f) (hd : 0 ≤ d) (hl : 0 ≤ l) (ho : l % 2 = 1) (h : norm M (f + l * d) = g) : norm M (norm M (f + d) + l / 2 * norm M (d + d)) = g := by
  rw [norm_addL hM (by omega) (Int.mul_nonneg (by omega) (norm_range hM).1), norm_lin hM (by omega) (by omega) (by omega), ← h]
  congr 1
  have : l = 2 * (l / 2) + 1 := by omega
  generalize l / 2 = q at *
  subst this
  rw [Int.add_mul, Int.mul_add, Int.mul_assoc]
  generalize q * d = z
  omega
theorem dbl0 {M f d l g : Int} (hM : 0 < M) (hf : 0 ≤ f) (hd : 0 ≤ d) (hl : 0 ≤ l) (ho : l % 2 = 0) (h : norm M (f + l * d) = g) : norm M (f + l / 2 * norm M (d + d)) = g := by
  rw [norm_lin hM (by omega) (by omega) (by omega), ← h]
  congr 1
  have : l = 2 * (l / 2) := by omega
  generalize l / 2 = q at *
  subst this
  rw [Int.mul_add, Int.mul_assoc]
  generalize q * d = z
  omega
/-! the steps -/
def rStrI : RC := fun xs H Q => ∃ i, xs = [.int i] ∧ i.natAbs.log2 < 1920 ∧ Q (.str (toString i)) H
def rIntS : RC := fun xs H Q => ∃ a n, xs = [.str a] ∧ PySem.intText? a = some n ∧ a.length ≤ 640 ∧ Q (.int n) H
def rAddS : R2 := fun x y H Q => ∃ i j, x = .str i ∧ y = .str j ∧ i.length + j.length ≤ sizeLine ∧ Q (.str (i ++ j)) H
section
variable {X : Cx}
theorem zc_strI : CallR X (.type "str") rStrI := call_str_int
theorem zc_intS : CallR X (.type "int") rIntS := call_int_str
theorem op_addS : OpR X (binaryOp .Add) rAddS := op_add_str
end
theorem bit_str (b : Int) (h : b = 0 ∨ b = 1) : ((toString b : String) : Str) = ⟨#[48 + b.toNat]⟩ := by
  rcases h with rfl | rfl <;> decide +kernel
theorem int_bit (b : Int) (h : b = 0 ∨ b = 1) : PySem.intText? (⟨#[48 + b.toNat]⟩ : Str) = some b := by
  rcases h with rfl | rfl <;> decide +kernel
theorem app_bit (c : Nat) (l : List Nat) : (⟨#[c]⟩ : Str) ++ (⟨l.toArray⟩ : Str) = ⟨(c :: l).toArray⟩ := by
  show Str.mk (#[c] ++ l.toArray) = _
  congr 1
  simp
theorem app_l (a l : List Nat) : (⟨a.toArray⟩ : Str) ++ (⟨l.toArray⟩ : Str) = ⟨(a ++ l).toArray⟩ := by
  show Str.mk (a.toArray ++ l.toArray) = _
  congr 1
  simp
theorem cutS_from {l : List Nat} {k : Int} (h0 : 0 ≤ k) (h1 : k ≤ l.length) : cutS ⟨l.toArray⟩ (some k) none = ⟨(l.drop k.toNat).toArray⟩ := by
  have e1 : HT.sIx l.length 0 (some k) = k.toNat := by
    unfold HT.sIx
    simp only []
    split <;> omega
  have e2 : HT.sIx l.length l.length none = l.length := rfl
  show Str.mk (((l.toArray.toList.drop (HT.sIx l.toArray.size 0 (some k))).take (HT.sIx l.toArray.size l.toArray.size none - HT.sIx l.toArray.size 0 (some k))).toArray) = _
  rw [List.size_toArray, e1, e2]
  congr 2
  show (l.drop k.toNat).take _ = _
  rw [List.take_of_length_le (by rw [List.length_drop]; omega)]
theorem cutS_to {l : List Nat} {k : Int} (h0 : 0 ≤ k) (h1 : k ≤ l.length) : cutS ⟨l.toArray⟩ none (some k) = ⟨(l.take k.toNat).toArray⟩ := by
  have e1 : HT.sIx l.length l.length (some k) = k.toNat := by
    unfold HT.sIx
    simp only []
    split <;> omega
  have e2 : HT.sIx l.length 0 none = 0 := rfl
  show Str.mk (((l.toArray.toList.drop (HT.sIx l.toArray.size 0 none)).take (HT.sIx l.toArray.size l.toArray.size (some k) - HT.sIx l.toArray.size 0 none)).toArray) = _
  rw [List.size_toArray, e1, e2]
  rfl
theorem valT_snoc (a : Int) (l : List Nat) (c : Nat) : valT a (l ++ [c]) = 2 * valT a l + ((c : Int) - 48) := by
  unfold valT
  rw [List.foldl_append]
  rfl
theorem bitT_mem (v : Int) : ∀ (n c : Nat), c ∈ bitT v n → c = 48 ∨ c = 49
  | 0, c, h => by simp [bitT] at h
  | n + 1, c, h => by
    rw [bitT, List.mem_cons] at h
    rcases h with h | h
    · have b0 := Int.emod_nonneg (v / 2 ^ n) (show (2 : Int) ≠ 0 by decide)
      have b1 := Int.emod_lt_of_pos (v / 2 ^ n) (show (0 : Int) < 2 by decide)
      omega
    · exact bitT_mem v n c h
theorem int_sign {c : Nat} (h : c = 48 ∨ c = 49) : PySem.intText? (⟨#[c]⟩ : Str) = some ((c : Int) - 48) := by
  rcases h with rfl | rfl <;> decide +kernel
/-- for .. in a text -/
def ForS (g : TG) (tb : TS) (D : Ends) (σ : L2.St) (v : V) (H : Hp) : Prop := ∃ z, v = .str z ∧ ∃ W : Nat → Nat → L2.St → Hp → Prop, (∃ m, W 0 m σ H) ∧ ∀ i m σ H, W i m σ H →
  ((Its z).stop i H ∧ D.nx σ H) ∨ ((Its z).go i H ∧ ∃ N : L2.St → Hp → Prop, (∀ σ' H', N σ' H' → ∃ m', m' < m ∧ W (i + 1) m' σ' H') ∧ ∀ x H', (Its z).yld i H x H' → g x σ H' fun σ2 H2 => tb { D with nx := N, ct := N, bk := D.nx } σ2 H2)
theorem s_forS {te : TE} {g : TG} {tb : TS} {D : Ends} {σ : L2.St} {H : Hp} (h : te σ H (ForS g tb D σ)) : tFor (iStr te) g tb D σ H := h
theorem for_S {z : Str} {g : TG} {tb : TS} {D : Ends} {σ : L2.St} {H : Hp} (Pv : Nat → L2.St → Hp → Prop) (h0 : Pv 0 σ H)
    (hs : ∀ i c σ H, z.cps[i]? = some c → Pv i σ H → g (.str ⟨#[c]⟩) σ H fun σ2 H2 => tb { D with nx := Pv (i + 1), ct := Pv (i + 1), bk := D.nx } σ2 H2) (hd : ∀ σ H, Pv z.cps.size σ H → D.nx σ H) : ForS g tb D σ (.str z) H := by
  refine ⟨z, rfl, fun i m σ H => m = z.cps.size - i ∧ i ≤ z.cps.size ∧ Pv i σ H, ⟨z.cps.size, by simp, Nat.zero_le _, h0⟩, ?_⟩
  rintro i m σ H ⟨rfl, hi, p⟩
  by_cases hlt : i < z.cps.size
  · refine .inr ⟨hlt, Pv (i + 1), fun σ' H' p' => ⟨z.cps.size - (i + 1), by omega, rfl, hlt, p'⟩, fun x H' y => ?_⟩
    obtain ⟨e, c, hc, y⟩ := y
    subst e y
    exact hs i c σ _ hc p
  · have e : i = z.cps.size := by omega
    subst e
    exact .inl ⟨Nat.le_refl _, hd σ H p⟩
def ForL (K : PySem.W.Frag) (g : TG) (tb : TS) (D : Ends) (σ : L2.St) (v : V) (H : Hp) : Prop := ∃ a, v = .ref a ∧ (∃ xs, SqL K H a xs) ∧ ∃ W : Nat → Nat → L2.St → Hp → Prop, (∃ m, W 0 m σ H) ∧ ∀ i m σ H, W i m σ H →
  ((Itl K a).stop i H ∧ D.nx σ H) ∨ ((Itl K a).go i H ∧ ∃ N : L2.St → Hp → Prop, (∀ σ' H', N σ' H' → ∃ m', m' < m ∧ W (i + 1) m' σ' H') ∧ ∀ x H', (Itl K a).yld i H x H' → g x σ H' fun σ2 H2 => tb { D with nx := N, ct := N, bk := D.nx } σ2 H2)
theorem s_forLe {K : PySem.W.Frag} {te : TE} {g : TG} {tb : TS} {D : Ends} {σ : L2.St} {H : Hp} (h : te σ H (ForL K g tb D σ)) : tFor (iList K te) g tb D σ H := h
theorem for_L {K : PySem.W.Frag} {a : Addr} {xs : List V} {g : TG} {tb : TS} {D : Ends} {σ : L2.St} {H : Hp} (hx : SqL K H a xs) (Pv : Nat → L2.St → Hp → Prop) (h0 : Pv 0 σ H) (hl : ∀ i σ H, Pv i σ H → SqL K H a xs)
    (hs : ∀ i x σ H, xs[i]? = some x → Pv i σ H → g x σ H fun σ2 H2 => tb { D with nx := Pv (i + 1), ct := Pv (i + 1), bk := D.nx } σ2 H2) (hd : ∀ σ H, Pv xs.length σ H → D.nx σ H) : ForL K g tb D σ (.ref a) H :=
  ⟨a, rfl, ⟨xs, hx⟩, for_list (K := K) (a := a) (xs := xs) Pv h0 (fun i σ' H' _ p => hl i σ' H' p) hs hd⟩
theorem atI_pairI {a b : Int} {c : Bool} : atI [V.int a, V.int b] (if c = true then 1 else 0) = some (V.int (if c = true then b else a)) := by cases c <;> rfl
theorem s_par3 {i j l : Nat} {tr : TA} {D : Ends} {σ : L2.St} {H : Hp} (k : tr σ H fun vs H1 => ∃ u v w, vs = [u, v, w] ∧ D.nx (((σ.set i (some u)).set j (some v)).set l (some w)) H1) : tPar3 i j l tr D σ H := k
/-! the promises -/
def spIs (C : Addr) : Sp := fun vs H Q _ => ∃ x w v w' v', vs = [.ref x, .int w', .int v'] ∧ IsW C H x w v ∧ Q (.bl (decide (w = w' ∧ v = v'))) H
def spLSum : Sp := fun vs H Q _ => ∃ w a b, vs = [.int w, .int a, .int b] ∧ InW w a ∧ InW w b ∧ Q (.int (osum w a b)) H
def spLMul : Sp := fun vs H Q _ => ∃ w v t, vs = [.int w, .int v, .int t] ∧ InW w v ∧ 0 ≤ t ∧ Q (.int (omul w v t)) H
def spTurn : Sp := fun vs H Q _ => ∃ w v b, vs = [.int w, .int v, .int b] ∧ InW w v ∧ Q (.int (omul w v (2 ^ (b % w).toNat))) H
def spTimes (K : PySem.W.Frag) : Sp := fun vs H Q _ => ∃ p w n, vs = [.ref p, .int w] ∧ PenAt K H p (n + 3) ∧ 1 ≤ w ∧ w ≤ 64 ∧ ∀ t H', Gr H H' → PenAt K H' p n → 0 ≤ t → t ≤ 10 ^ 30 → Q (.int t) H'
section
variable {K : PySem.W.Frag} {C : Addr} {H : Hp} {Q : VK} {E : XK} {w v a b t : Int}
theorem use_is {x : Addr} {w' v' : Int} (h : IsW C H x w v) (k : Q (.bl (decide (w = w' ∧ v = v'))) H) : spIs C [.ref x, .int w', .int v'] H Q E := ⟨x, w, v, w', v', rfl, h, k⟩
theorem use_lsum (ha : InW w a) (hb : InW w b) (k : Q (.int (osum w a b)) H) : spLSum [.int w, .int a, .int b] H Q E := ⟨w, a, b, rfl, ha, hb, k⟩
theorem use_lmul (h : InW w v) (ht : 0 ≤ t) (k : Q (.int (omul w v t)) H) : spLMul [.int w, .int v, .int t] H Q E := ⟨w, v, t, rfl, h, ht, k⟩
theorem use_turn (h : InW w v) (k : Q (.int (omul w v (2 ^ (b % w).toNat))) H) : spTurn [.int w, .int v, .int b] H Q E := ⟨w, v, b, rfl, h, k⟩
theorem use_times {p : Addr} {n : Nat} (h : PenAt K H p (n + 3)) (h1 : 1 ≤ w) (h2 : w ≤ 64) (k : ∀ t H', Gr H H' → PenAt K H' p n → 0 ≤ t → t ≤ 10 ^ 30 → Q (.int t) H') : spTimes K [.ref p, .int w] H Q E := ⟨p, w, n, rfl, h, h1, h2, k⟩
theorem r_strI {i : Int} (h : i.natAbs.log2 < 1920) (k : Q (.str (toString i)) H) : rStrI [.int i] H Q := ⟨i, rfl, h, k⟩
theorem r_intS {z : Str} {n : Int} (h : PySem.intText? z = some n) (h2 : z.length ≤ 640) (k : Q (.int n) H) : rIntS [.str z] H Q := ⟨z, n, rfl, h, h2, k⟩
theorem r_addS {y z : Str} (h : y.length + z.length ≤ sizeLine) (k : Q (.str (y ++ z)) H) : rAddS (.str y) (.str z) H Q := ⟨y, z, rfl, rfl, h, k⟩
theorem r_slS {z : Str} {lo hi : Option Int} (h : z.length ≤ sizeLine) (k : Q (.str (cutS z lo hi)) H) : rSlS (.str z) lo hi H Q := ⟨z, rfl, h, k⟩
end
theorem pow_wq (w q : Nat) : ∃ j : Int, 0 ≤ j ∧ (2 : Int) ^ (w * q) = (2 ^ w - 1) * j + 1 := by
  induction q with
  | zero => exact ⟨0, by decide, by simp⟩
  | succ q ih =>
    obtain ⟨j, h0, h⟩ := ih
    have hp : (0 : Int) < 2 ^ w := Int.pow_pos (by decide)
    refine ⟨2 ^ w * j + 1, by have := Int.mul_nonneg (Int.le_of_lt hp) h0; omega, ?_⟩
    rw [Nat.mul_succ, Int.pow_add, h]
    generalize (2 : Int) ^ w = p at *
    rw [Int.add_mul, Int.mul_add, Int.mul_assoc, Int.mul_comm j p]
    generalize p * j = y
    rw [Int.mul_one, Int.one_mul]
    omega
theorem omul_pow {w v t : Int} (h : InW w v) (ht : 0 ≤ t) : omul w v (2 ^ (t % w).toNat) = omul w v (1 * 2 ^ t.toNat) := by
  obtain ⟨h1, h2, h3, h4⟩ := id h
  have hM := topI_pos h1
  obtain ⟨j, j0, hj⟩ := pow_wq w.toNat (t / w).toNat
  have m1 := Int.emod_nonneg t (show w ≠ 0 by omega)
  have d0 : 0 ≤ t / w := Int.ediv_nonneg ht (by omega)
  have e1 := Int.mul_ediv_add_emod t w
  have e2 : t.toNat = w.toNat * (t / w).toNat + (t % w).toNat := by
    have : ((w.toNat * (t / w).toNat : Nat) : Int) = w * (t / w) := by
      rw [Int.natCast_mul, Int.toNat_of_nonneg (by omega), Int.toNat_of_nonneg d0]
    omega
  have hr : (0 : Int) < 2 ^ (t % w).toNat := Int.pow_pos (by decide)
  have hr0 : 0 ≤ (2 : Int) ^ (t % w).toNat * v := Int.mul_nonneg (Int.le_of_lt hr) h3
  have ek : 2 ^ t.toNat * v = 2 ^ (t % w).toNat * v + topI w * (j * (2 ^ (t % w).toNat * v)) := by
    rw [e2, Int.pow_add, hj]
    show ((topI w) * j + 1) * _ * v = _
    rw [Int.mul_assoc, Int.add_mul, Int.one_mul, Int.mul_assoc]
    omega
  have kk : 0 ≤ j * (2 ^ (t % w).toNat * v) := Int.mul_nonneg j0 hr0
  have hs : 0 ≤ (2 : Int) ^ t.toNat * v := Int.mul_nonneg (Int.le_of_lt (Int.pow_pos (by decide))) h3
  rw [omul_norm, omul_norm, Int.one_mul]
  refine (norm_eq (by omega) hs hr0 ⟨fun z => ?_, fun z => ?_⟩ _ ek).symm
  · have : 0 ≤ topI w * (j * (2 ^ (t % w).toNat * v)) := Int.mul_nonneg (by omega) kk
    omega
  · rw [ek, z]
    simp
/-- repr of a list of flat data -/
theorem r_reprD {K : PySem.W.Frag} {H : Hp} {Q : VK} {a : Addr} {d : PyData} (hd : Dp K H (.ref a) d) (h1 : d.showable = true) (h2 : d.hasDict = false) (h3 : d.depth ≤ 60) (h4 : d.shown.length ≤ sizeLine) (k : Q (.str d.shown) H) : rReprD K [.ref a] H Q := ⟨a, d, rfl, hd, h1, h2, h3, h4, k⟩
theorem ofar_in {w v : Int} (h : InW w v) : 0 ≤ ofar w v ∧ ofar w v ≤ topI w := by
  obtain ⟨h1, h2, h3, h4⟩ := id h
  have hM := topI_pos h1
  unfold ofar orest
  constructor <;> split <;> split <;> omega
def spRight4 (C : Addr) : Sp := fun vs H Q _ => ∃ w v b t, vs = [.int w, .int v, .int b, .int t] ∧ InW w v ∧ InW w b ∧ 0 ≤ t ∧ t ≤ 10 ^ 30 ∧ ∀ H', Ex H H' → Q (.bl true) H'
theorem bool_shown_len (c : Bool) : (PyData.bool c).shown.length ≤ 5 := by
  cases c <;> decide +kernel
theorem shown4 {f : Int} {c1 c2 c3 : Bool} (h0 : 0 ≤ f) (h1 : f < 2 ^ 64) :
    (PyData.list [.int f, .bool c1, .bool c2, .bool c3]).showable = true ∧ (PyData.list [.int f, .bool c1, .bool c2, .bool c3]).hasDict = false ∧ (PyData.list [.int f, .bool c1, .bool c2, .bool c3]).depth ≤ 60 ∧ (PyData.list [.int f, .bool c1, .bool c2, .bool c3]).shown.length ≤ sizeLine := by
  have hl : f.natAbs.log2 < 1920 := by
    have h2 : f.natAbs < 2 ^ 64 := by omega
    by_cases hz : f.natAbs = 0
    · rw [hz]; decide
    · exact Nat.lt_trans ((Nat.log2_lt hz).mpr h2) (by decide)
  refine ⟨?_, rfl, ?_, ?_⟩
  · simp [PyData.showable, PyData.showableAll, hl]
  · simp [PyData.depth, PyData.depthAll]
  · have hf : (PyData.int f).shown.length ≤ 20 := toString_length_le h0 (by decide) (by omega)
    have b1 := bool_shown_len c1
    have b2 := bool_shown_len c2
    have b3 := bool_shown_len c3
    have e := listText_len_le (PyData.shownAll [.int f, .bool c1, .bool c2, .bool c3])
    have big : 1000 ≤ sizeLine := by decide
    simp only [PyData.shownAll, List.map_cons, List.map_nil, List.sum_cons, List.sum_nil, List.length_cons, List.length_nil] at e
    simp only [PyData.shown] at e hf b1 b2 b3 ⊢
    simp only [PyData.shownAll, PyData.shown] at e ⊢
    omega
end Z

/-! Z: own errors whose __init__ says super().__init__(text) and stores its parameters -/
namespace Z
open PySem PySem.W PySem.Calls PyProof.Rows PySem.HandSPX L2
/-- what the written part says of an own error's __init__ -/
structure ErrI (P : Program) (K : Frag) (C fI : Addr) (x qual : Str) (params : Arguments) (body : List Stmt) (scope : Scope) : Prop where
  lk : ∃ (oc : Value) (od : Option Addr) (doc pm : Value) (an : Option Addr) (cda : Addr) (ct : Value) (cc : Addr) (osl : Array (Option Value)),
    K.lookup fI = some ⟨oc, od, .func (ksFn x qual params body scope .none .none doc pm an (.ref cda) ct cc), osl⟩ ∧ codeIn K (.ref cda) qual = true ∧
    (∃ ccl cdd vs ccs file tf, K.lookup cda = some ⟨ccl, cdd, .fields vs, ccs⟩ ∧ vs[2]? = some (.str file tf) ∧ ((P.main.file : Str) == file) = true) ∧
    (∃ cl cld csl, K.lookup cc = some ⟨cl, cld, .cell (some (.ref C)), csl⟩)
  sup : nsIn K mainGlobals "super" = some none
  top : (P.main.scope.names.lookup ("super" : Str)).isSome = false
  su : ks_superIn K C C "__init__" = some (some (.builtin "ValueError.__init__"))
  vE : subIn K (.ref C) (.type "ValueError") = some true
  me : mroIn K C (.ref C) = some true
  tp : nsIn K cStatics "thirdparty.any" = some none
  iC : findIn K (.ref C) "__init__" = some (some (.ref fI))
  tI : typeIn K (.ref fI) = some (.type "function")
  oex : OexC K C
section
variable {P : Program} {w : World} {K : Frag} {C fI a L cda cc : Addr} {x qual : Str} {params : Arguments} {body : List Stmt} {scope : Scope} {A : Around} {E : Value → Shared → Prop} {mg mb m : Str → Option Value}
variable {hp : Heap} {g : Array GenState} {d : Drawn} {t : Nat} {os : OsState} {p0 p1 p2 p3 p4 p5 p6 : Pos} {txt : Str} {oe : Obj}
/-- the built-in __init__, bound, is called -/
theorem mw_call {nm q : Str} {N : Addr} {bs bm : List Value} {hdct : Bool} {sn : List Str} {sub : List Value} {ab : Bool} {col : Option Bool} {dd : Option Addr} {k0 k1 k2 k3 k5 : Option Value} {u t0 : Addr} {rest : List Value} {Q : Value → Shared → Prop}
    (hC : hp.get? C = some (excClassObj nm q C N bs bm hdct sn sub ab col dd k0 k1 k2 k3 k5 "ValueError.__new__")) (he : hp.get? a = some (excO C t0)) (hu : hp.get? u = some (kxs_mw "ValueError.__init__" a)) (hz : rest.length ≤ sizeLine)
    (hq : ∀ h' t1, (∀ b o, b ≠ a → hp.get? b = some o → h'.get? b = some o) → h'.get? a = some (excO C t1) → Q .none ⟨h', g, d, t, os⟩) :
    wpAny (model P w) A (call (.ref u) rest) Q E ⟨hp, g, d, t, os⟩ := by
  refine wpAny_call (codeAny_of_tree ?_)
  show wpAny _ A.in1 (callAny (.ref u) ⟨rest, []⟩) _ _ _
  simp only [callAny]
  refine wpAny_bind (wpAny_load hu ?_)
  simp only [kxs_mw, show (Value.type "method-wrapper" == Value.type "method" || Value.type "method-wrapper" == Value.type "builtin_function_or_method" || Value.type "method-wrapper" == Value.type "method-wrapper") = true by decide, if_true]
  refine KFB.if_so (by decide) ?_
  refine wpAny_bind (check_bound_init F.excBase_ValueError.toExcCallFacts hC he rfl ?_)
  refine wpAny_bind (wpAny_pure (wpAny_pure ?_))
  refine ⟨plainId_quiet F.excBase_ValueError.init.plain _, codeAny_builtin F.excBase_ValueError.initEntry ?_⟩
  exact exc_init_tree (cls := .ref C) (t0 := t0) (dv := none) (c2 := .none) (c3 := .none) (b4 := .bool false) he hz fun h' k e' _ => hq h' _ k e'
theorem not_cls {X : K.In hp} {cd : ClassData} (he : hp.get? a = some (excO C L)) (hc : clsIn K C = some cd) : a ≠ C := by
  rintro rfl
  unfold clsIn at hc
  split at hc
  · rename_i c d cd' sl ho
    have e := X _ _ ho
    rw [he] at e
    cases e
  · cases hc
/-- super().__init__(text) -/
theorem super_init {t0 : Addr} {vs : Array Value} {file : Str} {tf : Tok} {ccl cl oc doc pm ct : Value} {cdd cld od an : Option Addr} {ccs csl osl : Array (Option Value)} {ar : Arg} {Q : Flow → Shared → Prop} {kk : Nat}
    (T : ErrI P K C fI x qual params body scope) (X : K.In hp)
    (hf : K.lookup fI = some ⟨oc, od, .func (ksFn x qual params body scope .none .none doc pm an (.ref cda) ct cc), osl⟩)
    (hcode : K.lookup cda = some ⟨ccl, cdd, .fields vs, ccs⟩) (hvs : vs[2]? = some (.str file tf)) (hfile : ((P.main.file : Str) == file) = true)
    (hcell : K.lookup cc = some ⟨cl, cld, .cell (some (.ref C)), csl⟩)
    (hp1 : (params.posonlyargs ++ params.args).head? = some ar) (hG : hp.Ns mainGlobals mg) (hB : hp.Ns builtinsNs mb) (hbb : mb "super" = bootBuiltins "super") (hL : hp.Ns L m) (hv : m ar.arg = some (.ref a)) (he : hp.get? a = some (excO C t0))
    (hks : scope.names.lookup ("super" : Str) = some .globalImplicit) (hkc : scope.names.lookup ("__class__" : Str) = some .free) (hka : scope.names.lookup ar.arg = some .local) (hk : scope.kind = .function)
    {pl : Sem Bool} (hi : interactive (ksEnv qual scope L fI (.ref cda) cc) = false) (hsw : swapsWith (.Call (.Attribute (.Call (.Name "super" p0) [] [] p1) "__init__" p2) [.Constant (.str txt) kk p3] [] p4) none p5.line (ksEnv qual scope L fI (.ref cda) cc) = pure false)
    (hev : eval (.Call (.Attribute (.Call (.Name "super" p0) [] [] p1) "__init__" p2) [.Constant (.str txt) kk p3] [] p4) (ksEnv qual scope L fI (.ref cda) cc) = (do
      let ov ← attributeBase (.Call (.Name "super" p0) [] [] p1) "__init__" (ksEnv qual scope L fI (.ref cda) cc) (eval (.Call (.Name "super" p0) [] [] p1) (ksEnv qual scope L fI (.ref cda) cc))
      standAt p2.atName
      let (f, first) ← holding [ov] (getMethod ov "__init__" pl)
      callWith p4 f first (backTo p4 (starEach [.Constant (.str txt) kk p3] (ksEnv qual scope L fI (.ref cda) cc))) []))
    (hq : ∀ h' t1 tk, (∀ b o, b ≠ a → hp.get? b = some o → h'.get? b = some o) → h'.get? a = some (excO C t1) → Q .next ⟨h', g, d, tk, os⟩) :
    _root_.PySem.wpAt (model P w) A (.func body (ksEnv qual scope L fI (.ref cda) cc)) (exec (.Expr (.Call (.Attribute (.Call (.Name "super" p0) [] [] p1) "__init__" p2) [.Constant (.str txt) kk p3] [] p4) p5) (ksEnv qual scope L fI (.ref cda) cc)) Q E ⟨hp, g, d, t, os⟩ := by
  obtain ⟨nm, q, N, bs, bm, sn, sub, ab, col, dd, k0, k1, k2, k3, k5, hC, hbm⟩ := T.oex.cls
  obtain ⟨cd, hcd⟩ : ∃ cd, clsIn K C = some cd := by
    cases z : clsIn K C with
    | none =>
      have := T.su
      unfold ks_superIn at this
      rw [z] at this
      cases this
    | some cd => exact ⟨cd, rfl⟩
  obtain ⟨oD, hD1, hD2⟩ : ∃ oD, hp.get? C = some oD ∧ oD.data = .cls cd := by
    have hcd' := hcd
    unfold clsIn at hcd'
    split at hcd'
    · rename_i c d cd' sl ho
      cases hcd'
      exact ⟨_, X _ _ ho, rfl⟩
    · cases hcd'
  have hne : a ≠ C := not_cls (X := X) he hcd
  have hsu := T.su
  unfold ks_superIn at hsu
  rw [hcd] at hsu
  refine ks_wpAt_Expr_any ?_ hi hsw
  refine ks_wpAt_MethodCall ?_ hev
  refine ks_wpAt_super_base (env := ksEnv qual scope L fI (.ref cda) cc) hks hkc (by decide +kernel) rfl (X _ _ hf) rfl hp1 rfl (X _ _ hcode) rfl hvs hfile T.top ?_
  refine ks_loadName_global hk hks (loadGlobal_builtin (env := ksEnv qual scope L fI (.ref cda) cc) hG (mg_none_of X hG T.sup) hB (hbb.trans (by decide +kernel)) ⟨rfl, ?_⟩)
  refine wpAny_loadName_free hk hkc rfl ⟨_, X _ _ hcell, rfl⟩ ?_
  refine wpAny_loadName_local hk hka hL hv ?_
  refine ks_wpAny_isType_cls hD1 hD2 ⟨rfl, ?_⟩
  refine ks_wpAny_call_super hD1 hD2 he rfl (fun c e => by cases e) (looks_mroIn X T.me) (fun h1 e1 k1 => ?_)
  have X1 : K.In h1 := fun b o z => k1 _ _ (X b o z)
  have he1 := k1 _ _ he
  have I1 : InstAt h1 a (excO C t0) C none := ⟨he1, rfl, rfl, trivial⟩
  refine kxs_getMethod kxs_ValueError e1 (looks_opaque X1 T.tp) (l₀ := cd.mro) (fun A Q E s k q => wpAny_bind ((looks_clsIn X1 hcd) A _ E s k (wpAny_pure q))) rfl X1 hsu (I1.type.andThen (looks_subIn X1 T.vE)) hne (by decide +kernel) ?_
  have up : ∀ b o, h1.get? b = some o → (h1.push (kxs_mw "ValueError.__init__" a)).get? b = some o := fun b o e => Heap.get?_push_of_some _ e
  have hmw : (h1.push (kxs_mw "ValueError.__init__" a)).get? h1.objs.size = some (kxs_mw "ValueError.__init__" a) := Heap.get?_push_at rfl rfl
  refine kxs_callWith (i := "ValueError.__init__") (x := a) rfl (evalArgs_plain ?_)
  show wpAny _ A (spliced ((false, eval (.Constant (.str txt) kk p3) (ksEnv qual scope L fI (.ref cda) cc)) :: [])) _ _ _
  refine spliced_cons (wpAny_Constant_str (spliced_nil ⟨hmw, ?_⟩))
  exact mw_call (up _ _ (X1 _ _ hC)) (up _ _ he1) hmw (by show 1 ≤ sizeLine; decide) fun h' t1 k e => hq h' t1 _ (fun b o hb hbo => k b o hb (up _ _ (k1 _ _ hbo))) e
/-- how far the fields are stored -/
def Sto (n : Nat) (C a : Addr) (t1 : Addr) (done : List (Str × Value)) (h : Heap) : Prop := match done with
  | [] => h.get? a = some (excO C t1)
  | p :: r => ∃ dx, n < dx ∧ dx ≠ a ∧ h.get? a = some { cls := .ref C, dict := some dx, data := .fields #[.ref t1, .none, .none, .none, .bool false, .none] } ∧ h.Ns1 dx (fun y => (p :: r).lookup y)
theorem lookup_cons' (f g : Str) (y : Value) (fs : List (Str × Value)) : ((f, y) :: fs).lookup g = if g = f then some y else fs.lookup g := by
  by_cases h : g = f
  · subst h
    simp [List.lookup]
  · have e : (g == f) = false := by simpa using h
    rw [if_neg h]
    simp [List.lookup, e]
theorem within_lookup : ∀ (fs : List (Str × Value)), Within (fun y => fs.lookup y) (fs.map (·.1)) := fun fs y hy => by
  induction fs with
  | nil => exact absurd rfl hy
  | cons p r ih =>
    obtain ⟨f, v⟩ := p
    by_cases e : y = f
    · rw [e]
      exact List.mem_cons_self ..
    · refine List.mem_cons_of_mem _ (ih ?_)
      intro z
      exact hy ((lookup_cons' f y v r).trans ((if_neg e).trans z))
/-- self.f = p -/
theorem set_one {sn f pn : Str} {q1 q2 q3 q4 : Pos} {t1 : Addr} {done : List (Str × Value)} {v : Value} {env : Env} {cd : Code} {Q : Flow → Shared → Prop} (T : OexC K C) (X : K.In hp) (S : Sto env.locals C a t1 done hp) (hdl : done.length ≤ 900) (hno : findIn K (.ref C) f = some none)
    (hk : env.scope.kind = .function) (hL : hp.Ns env.locals m) (k1 : env.kindOf sn = some .local) (k2 : env.kindOf pn = some .local) (v1 : m sn = some (.ref a)) (v2 : m pn = some v)
    (hsw : swapsWith (.Name pn q3) (some (.Attribute (.Name sn q1) f q2)) q4.line env = pure false) (d1 : (sn == ("__debug__" : Str)) = false) (d2 : (pn == ("__debug__" : Str)) = false)
    (hq : ∀ h' tk, (∀ b o, b ≠ a → b ≤ env.locals → hp.get? b = some o → h'.get? b = some o) → Sto env.locals C a t1 ((f, v) :: done) h' → Q .next ⟨h', g, d, tk, os⟩) :
    _root_.PySem.wpAt (model P w) A cd (exec (.Assign [.Attribute (.Name sn q1) f q2] (.Name pn q3) q4) env) Q E ⟨hp, g, d, t, os⟩ := by
  obtain ⟨nm, q, N, bs, bm, sn', sub, ab, col, dd, k0, k1', k2', k3, k5, hC, hbm⟩ := T.cls
  have hcl : clsIn K C = some { name := nm, bases := bs, mro := .ref C :: bm, ns := N, qualname := q, hasDict := true, slotNames := sn', subclasses := sub, abstract := ab, collection := col, hasDel := false } := by unfold clsIn; rw [hC] <;> rfl
  refine ks_wpAt_Assign_Attr (wpAt_of_wpAny (wpAny_Name (wpAny_loadName_local hk k2 hL v2 (wpAny_Name (wpAny_loadName_local hk k1 hL v1 ?_) d1)) d2)) hsw
  cases done with
  | nil =>
    refine set_plain X (ox := excO C t1) (od := none) ⟨S, rfl, rfl, trivial⟩ T.sa ?_
    refine exc_osa X S hcl (show refsVE (.ref C :: bm) = true from hbm) rfl hno (fun h' tk' dx k dn dne hx hn' => ?_)
    refine hq h' tk' (fun b o hb _ hbo => k b o hb hbo) ⟨dx, Nat.lt_of_lt_of_le hL.lt dn, dne, hx, ?_⟩
    have e : (fun y => ((f, v) :: ([] : List (Str × Value))).lookup y) = fun y => if y = f then some v else none := funext fun y => lookup_cons' f y v []
    rw [e]
    exact hn'
  | cons p r =>
    obtain ⟨dx, hlt, dne, hx, hns⟩ := S
    have hw := within_lookup (p :: r)
    obtain ⟨oD, _, _, hoD, _, _⟩ := hns.count hw
    refine set_plain X (ox := { cls := .ref C, dict := some dx, data := .fields #[.ref t1, .none, .none, .none, .bool false, .none] }) (od := some oD) ⟨hx, rfl, rfl, hoD⟩ T.sa ?_
    refine PySem.OEX.osa_old X hx hns hw (by rw [List.length_map]; omega) hcl (show refsVE (.ref C :: bm) = true from hbm) rfl hno (fun h' tk' k hn => ?_)
    refine hq h' tk' (fun b o hb hl hbo => k b o (Nat.ne_of_lt (Nat.lt_of_le_of_lt hl hlt)) hbo) ⟨dx, hlt, dne, k _ _ (Ne.symm dne) hx, ?_⟩
    have e : (fun y => ((f, v) :: p :: r).lookup y) = fun y => if y = f then some v else (p :: r).lookup y := funext fun y => lookup_cons' f y v (p :: r)
    rw [e]
    exact hn
/-- the statement self.f = p -/
def asg (sn : Str) (q : Str × Str × Pos × Pos × Pos × Pos) : Stmt := .Assign [.Attribute (.Name sn q.2.2.1) q.1 q.2.2.2.1] (.Name q.2.1 q.2.2.2.2.1) q.2.2.2.2.2
/-- all the stores -/
theorem set_all {sn : Str} {env : Env} {cd : Code} {t1 : Addr} {Q : Flow → Shared → Prop} (T : OexC K C) (hk : env.scope.kind = .function) (k1 : env.kindOf sn = some .local) (v1 : m sn = some (.ref a)) (d1 : (sn == ("__debug__" : Str)) = false) (haL : a ≠ env.locals) (hKL : ∀ b o, K.lookup b = some o → b ≤ env.locals ∧ b ≠ a)
    (fls : List (Str × Str × Pos × Pos × Pos × Pos)) : ∀ (vs : List Value) (done : List (Str × Value)) (hp : Heap) (t : Nat), K.In hp → hp.Ns env.locals m → Sto env.locals C a t1 done hp → done.length + fls.length ≤ 900 → vs.length = fls.length →
    (∀ q ∈ fls, findIn K (.ref C) q.1 = some none ∧ env.kindOf q.2.1 = some .local ∧ (q.2.1 == ("__debug__" : Str)) = false ∧ swapsWith (.Name q.2.1 q.2.2.2.2.1) (some (.Attribute (.Name sn q.2.2.1) q.1 q.2.2.2.1)) q.2.2.2.2.2.line env = pure false) →
    (∀ (i : Nat) (q : Str × Str × Pos × Pos × Pos × Pos) (v : Value), fls[i]? = some q → vs[i]? = some v → m q.2.1 = some v) →
    (∀ h' tk, (∀ b o, b ≠ a → b ≤ env.locals → hp.get? b = some o → h'.get? b = some o) → Sto env.locals C a t1 (((fls.map (·.1)).zip vs).reverse ++ done) h' → Q .next ⟨h', g, d, tk, os⟩) →
    _root_.PySem.wpAt (model P w) A cd (execs (fls.map (asg sn)) env) Q E ⟨hp, g, d, t, os⟩ := by
  induction fls with
  | nil =>
    intro vs done hp t _ _ S _ hlen _ _ hq
    have hv : vs = [] := List.eq_nil_of_length_eq_zero hlen
    subst hv
    exact wpAt_of_wpAny (wpAny_execs_nil (hq hp t (fun _ _ _ _ e => e) S))
  | cons q fls ih =>
    intro vs done hp t X hL S hdl hlen hf hm hq
    cases vs with
    | nil => exact absurd hlen (by simp)
    | cons v vs =>
      obtain ⟨f1, f2, f3, f4⟩ := hf q (List.mem_cons_self ..)
      rw [List.length_cons] at hdl
      have hlen' : vs.length = fls.length := Nat.succ.inj hlen
      show _root_.PySem.wpAt (model P w) A cd (execs (asg sn q :: fls.map (asg sn)) env) Q E ⟨hp, g, d, t, os⟩
      refine ks_wpAt_execs_cons (set_one T X S (by omega) f1 hk hL k1 f2 v1 (hm 0 q v rfl rfl) f4 d1 f3 fun h' tk k S' => ?_)
      have hL' : h'.Ns env.locals m := by
        obtain ⟨o, es, ep, e, r⟩ := hL
        exact ⟨o, es, ep, k _ _ (Ne.symm haL) (Nat.le_refl _) e, r⟩
      refine ih vs ((q.1, v) :: done) h' tk (fun b o e => k b o (hKL b o e).2 (hKL b o e).1 (X b o e)) hL' S' (by rw [List.length_cons]; omega) hlen' (fun p hp => hf p (List.mem_cons_of_mem _ hp)) (fun i p u e1 e2 => hm (i + 1) p u e1 e2) fun h2 tk2 k2 S2 => ?_
      refine hq h2 tk2 (fun b o hb hl e => k2 b o hb hl (k b o hb hl e)) ?_
      have e : ((((q :: fls).map (·.1)).zip (v :: vs)).reverse ++ done) = ((fls.map (·.1)).zip vs).reverse ++ (q.1, v) :: done := by
        rw [List.map_cons, List.zip_cons_cons, List.reverse_cons, List.append_assoc]
        rfl
      rw [e]
      exact S2
end
end Z

/-! Z: C(e, ..) of an own error, as what is raised -/
namespace Z
open PySem PySem.W PySem.Calls PyProof.Rows PySem.HandSPX L2
theorem lookup_nodup {k : Str} {v : Value} : ∀ {l : List (Str × Value)}, (l.map (·.1)).Nodup → (k, v) ∈ l → l.lookup k = some v
  | [], _, h => by cases h
  | (f, u) :: l, nd, h => by
    obtain ⟨n1, n2⟩ := List.nodup_cons.mp nd
    rw [lookup_cons']
    rcases List.mem_cons.mp h with e | h
    · cases e
      rw [if_pos rfl]
    · rw [if_neg]
      · exact lookup_nodup n2 h
      · intro z
        exact n1 (z ▸ List.mem_map_of_mem (f := (·.1)) h)
theorem lookup_rev {k : Str} {v : Value} {l : List (Str × Value)} (nd : (l.map (·.1)).Nodup) (h : (k, v) ∈ l) : l.reverse.lookup k = some v :=
  lookup_nodup (by rw [List.map_reverse]; exact List.pairwise_reverse.mpr (nd.imp fun h => Ne.symm h)) (List.mem_reverse.mpr h)
/-- what the written text says of an error's __init__ -/
structure ErrS (params : Arguments) (scope : Scope) (qual sn : Str) (fls : List (Str × Str × Pos × Pos × Pos × Pos)) (p0 p1 p2 p3 p4 p5 : Pos) (txt : Str) (kk : Nat) : Prop where
  hp : ∃ ar, (params.posonlyargs ++ params.args).head? = some ar ∧ ar.arg = sn
  ks : scope.names.lookup ("super" : Str) = some .globalImplicit
  kc : scope.names.lookup ("__class__" : Str) = some .free
  ka : scope.names.lookup sn = some .local
  kp : ∀ q ∈ fls, scope.names.lookup q.2.1 = some .local ∧ (q.2.1 == ("__debug__" : Str)) = false
  hk : scope.kind = .function
  hc : ∀ x ∈ scope.names, x.2 ≠ .cell
  co : scope.isCoroutine = false
  gn : scope.isGenerator = false
  dn : (sn == ("__debug__" : Str)) = false
  nd : (sn :: fls.map (·.2.1)).Nodup
  hi : ∀ (L f : Addr) (cd : Value) (cc : Addr), interactive (ksEnv qual scope L f cd cc) = false
  sw : ∀ (L f : Addr) (cd : Value) (cc : Addr), swapsWith (.Call (.Attribute (.Call (.Name "super" p0) [] [] p1) "__init__" p2) [.Constant (.str txt) kk p3] [] p4) none p5.line (ksEnv qual scope L f cd cc) = pure false
  ev : ∃ pl : Sem Bool, ∀ (L f : Addr) (cd : Value) (cc : Addr), eval (.Call (.Attribute (.Call (.Name "super" p0) [] [] p1) "__init__" p2) [.Constant (.str txt) kk p3] [] p4) (ksEnv qual scope L f cd cc) = (do
      let ov ← attributeBase (.Call (.Name "super" p0) [] [] p1) "__init__" (ksEnv qual scope L f cd cc) (eval (.Call (.Name "super" p0) [] [] p1) (ksEnv qual scope L f cd cc))
      standAt p2.atName
      let (f', first) ← holding [ov] (getMethod ov "__init__" pl)
      callWith p4 f' first (backTo p4 (starEach [.Constant (.str txt) kk p3] (ksEnv qual scope L f cd cc))) [])
  sws : ∀ q ∈ fls, ∀ (L f : Addr) (cd : Value) (cc : Addr), swapsWith (.Name q.2.1 q.2.2.2.2.1) (some (.Attribute (.Name sn q.2.2.1) q.1 q.2.2.2.1)) q.2.2.2.2.2.line (ksEnv qual scope L f cd cc) = pure false
  bd : ∀ (x : Str) (body : List Stmt) (doc pm : Value) (an : Option Addr) (cda ct : Value) (cc : Addr) (u : Value) (us : List Value), us.length = fls.length → bindArgs (ksFn x qual params body scope .none .none doc pm an cda ct cc) ⟨u :: us, []⟩ = pure ((sn, u) :: (fls.map (·.2.1)).zip us)
section
variable {P : Program} {w : World} {K : Frag} {C fI a : Addr} {x qual sn : Str} {params : Arguments} {scope : Scope} {A : Around} {mg mb : Str → Option Value} {fls : List (Str × Str × Pos × Pos × Pos × Pos)}
variable {hp : Heap} {g : Array GenState} {d : Drawn} {t : Nat} {os : OsState} {p0 p1 p2 p3 p4 p5 : Pos} {txt : Str} {kk : Nat}
theorem err_run {t0 : Addr} {us : List Value} {R : Result → Shared → Prop} (T : ErrI P K C fI x qual params (.Expr (.Call (.Attribute (.Call (.Name "super" p0) [] [] p1) "__init__" p2) [.Constant (.str txt) kk p3] [] p4) p5 :: fls.map (asg sn)) scope)
    (S : ErrS params scope qual sn fls p0 p1 p2 p3 p4 p5 txt kk) (hno : ∀ q ∈ fls, findIn K (.ref C) q.1 = some none) (hl9 : fls.length ≤ 900) (hlen : us.length = fls.length) (X : K.In hp) (lim : hp.NoLimit) (hG : hp.Ns mainGlobals mg) (hB : hp.Ns builtinsNs mb) (hbb : mb "super" = bootBuiltins "super")
    (hdp : A.depth < recursionLimit) (he : hp.get? a = some (excO C t0)) (hKa : ∀ b o, K.lookup b = some o → b ≠ a)
    (hGa : mainGlobals ≠ a) (hBa : builtinsNs ≠ a)
    (hq : ∀ h' t1 tk, (∀ b o, b ≠ a → hp.get? b = some o → h'.get? b = some o) → Sto hp.objs.size C a t1 ((fls.map (·.1)).zip us).reverse h' → R (.ok (.ret .none)) ⟨h', g, d, tk, os⟩) :
    codeAny (model P w) A (.call (.ref fI) ⟨.ref a :: us, []⟩) R ⟨hp, g, d, t, os⟩ := by
  obtain ⟨oc, od, doc, pm, an, cda, ct, cc, osl, hf, hcd, ⟨ccl, cdd, vs, ccs, file, tf, hcode, hvs, hfile⟩, cl, cld, csl, hcell⟩ := T.lk
  obtain ⟨ar, hp1, har⟩ := S.hp
  obtain ⟨pl, hev⟩ := S.ev
  have ndk : (((sn, Value.ref a) :: (fls.map (·.2.1)).zip us).map (·.1)).Nodup := by
    rw [List.map_cons, List.map_fst_zip (by rw [List.length_map]; omega)]
    exact S.nd
  refine ks_codeAny_call_defAt (fd := ksFn x qual params (.Expr (.Call (.Attribute (.Call (.Name "super" p0) [] [] p1) "__init__" p2) [.Constant (.str txt) kk p3] [] p4) p5 :: fls.map (asg sn)) scope .none .none doc pm an (.ref cda) ct cc) (binds := (sn, .ref a) :: (fls.map (·.2.1)).zip us) hdp (X _ _ hf) rfl lim (codeRec_of X hcd) rfl
    (BindsTo.of_eq (S.bd _ _ _ _ _ _ _ _ _ _ hlen)) S.hc (fun y hy => ?_) (fun h0 hns hk0 => ?_) S.co S.gn S.hk
  · rcases List.mem_cons.mp hy with rfl | hy
    · exact S.ka
    · obtain ⟨q, hq1, hq2⟩ := List.mem_map.mp (List.of_mem_zip hy).1
      rw [← hq2]
      exact (S.kp q hq1).1
  · have X0 : K.In h0 := fun b o e => hk0 b o (X b o e)
    have keepNs : ∀ {b : Addr} {mm : Str → Option Value}, hp.Ns b mm → h0.Ns b mm := fun {b mm} n => by
      obtain ⟨o, es, ep, e, r⟩ := n
      exact ⟨o, es, ep, hk0 _ _ e, r⟩
    have he0 := hk0 _ _ he
    have msn : (fun y => ((sn, Value.ref a) :: (fls.map (·.2.1)).zip us).reverse.lookup y) sn = some (.ref a) := lookup_rev ndk (List.mem_cons_self ..)
    have haL : a < hp.objs.size := Heap.lt_size he
    refine ks_wpAt_execs_cons ?_
    refine super_init (L := hp.objs.size) (ar := ar) T X0 hf hcode hvs hfile hcell hp1 (keepNs hG) (keepNs hB) hbb hns (by rw [har]; exact msn) he0 S.ks S.kc (by rw [har]; exact S.ka) S.hk (S.hi _ _ _ _) (S.sw _ _ _ _) (hev _ _ _ _) fun h1 t1 tk1 k1 e1 => ?_
    have hL1 : h1.Ns hp.objs.size (fun y => ((sn, Value.ref a) :: (fls.map (·.2.1)).zip us).reverse.lookup y) := by
      obtain ⟨o, es, ep, e, r⟩ := hns
      exact ⟨o, es, ep, k1 _ _ (Nat.ne_of_gt haL) e, r⟩
    refine set_all (env := ksEnv qual scope hp.objs.size fI (.ref cda) cc) (done := []) T.oex S.hk S.ka msn S.dn (Nat.ne_of_lt haL) (fun b o e => ⟨Nat.le_of_lt (Heap.lt_size (X b o e)), hKa b o e⟩) fls us (t1 := t1) h1 tk1 (fun b o e => k1 _ _ (hKa b o e) (X0 b o e)) hL1 e1 (by simpa using hl9) hlen
      (fun q hq' => ⟨hno q hq', (S.kp q hq').1, (S.kp q hq').2, S.sws q hq' _ _ _ _⟩) (fun i q v e2 e3 => ?_) fun h2 tk2 k2 S2 => ?_
    · refine lookup_rev ndk (List.mem_cons_of_mem _ ?_)
      refine List.mem_of_getElem? (i := i) ?_
      rw [List.getElem?_zip_eq_some]
      exact ⟨by rw [List.getElem?_map, e2]; rfl, e3⟩
    · rw [List.append_nil] at S2
      exact hq h2 t1 tk2 (fun b o hb e => k2 b o hb (Nat.le_of_lt (Heap.lt_size e)) (k1 b o hb (hk0 b o e))) S2
end
/-- C(e, ..): an error with its fields, newest first -/
def tErr (C : Addr) (fns : List Str) (ta : TA) : L2.St → Hp → XK → Prop := fun σ H Q => ta σ H fun vs H1 => vs.length = fns.length ∧ ∀ d, H1 d = none → Q (.ref C) (some d) (upd H1 d (.xd (fns.zip vs).reverse))
theorem lookup_zip_rel {f : Str} : ∀ {fs : List (Str × V)} {us : List (Str × Value)}, Paired (fun p q => p.1 = q.1 ∧ RelV p.2 q.2) fs us → RelO (fs.lookup f) (us.lookup f)
  | _, _, .nil => True.intro
  | (g, v) :: fs, (g', u) :: us, .cons h r => by
    obtain ⟨h1, h2⟩ := h
    have h1 : g = g' := h1
    subst h1
    rw [lookup_put, lookup_cons']
    by_cases e : f = g
    · rw [if_pos e, if_pos e]
      exact h2
    · rw [if_neg e, if_neg e]
      exact lookup_zip_rel r
section
variable {X : Cx} {C fI : Addr} {x qual sn nm : Str} {params : Arguments} {scope : Scope} {fls : List (Str × Str × Pos × Pos × Pos × Pos)} {p0 p1 p2 p3 p4 p5 p pos : Pos} {txt : Str} {kk : Nat} {e : Expr} {es : List Expr} {ta : TA}
theorem paired_fields : ∀ {fns : List Str} {vs : List V} {us : List Value}, Vals vs us → Paired (fun p q => p.1 = q.1 ∧ RelV p.2 q.2) (fns.zip vs) (fns.zip us)
  | [], _, _, _ => by simp only [List.zip_nil_left]; exact .nil
  | _ :: _, _, _, .nil => by simp only [List.zip_nil_right]; exact .nil
  | f :: fns, v :: vs, u :: us, .cons h r => .cons ⟨rfl, h⟩ (paired_fields r)
theorem paired_rev {α β : Type} {F : α → β → Prop} : ∀ {l₁ : List α} {l₂ : List β}, Paired F l₁ l₂ → Paired F l₁.reverse l₂.reverse
  | _, _, .nil => .nil
  | a :: l₁, b :: l₂, .cons h r => by
    rw [List.reverse_cons, List.reverse_cons]
    exact (paired_rev r).snoc h
theorem pmk_err (T : ErrI X.prog X.K C fI x qual params (.Expr (.Call (.Attribute (.Call (.Name "super" p0) [] [] p1) "__init__" p2) [.Constant (.str txt) kk p3] [] p4) p5 :: fls.map (asg sn)) scope)
    (S : ErrS params scope qual sn fls p0 p1 p2 p3 p4 p5 txt kk) (hno : ∀ q ∈ fls, findIn X.K (.ref C) q.1 = some none) (hl9 : fls.length ≤ 900) (hl0 : fls ≠ []) (hr : Room 2 X.A) (hg : Gl X nm) (hm : X.mg nm = some (.ref C)) (ha : PA X (e :: es) ta)
    (hdb : (nm == ("__debug__" : Str)) = false := by decide) (he : starEach (e :: es) X.env = (false, eval e X.env) :: starEach es X.env := by rfl) (hpl : (backTo pos (starEach es X.env)).any (·.1) = false := by rfl) :
    PMk X (.Call (.Name nm p) (e :: es) [] pos) (tErr C (fls.map (·.1)) ta) := by
  intro pins s σ H Q I h
  obtain ⟨nm', q, N, bs, bm, sn', sub, ab, col, dd, k0, k1, k2, k3, k5, hC, hbm⟩ := T.oex.cls
  refine wpAny_Call_Name_kw (ld_glob I hg hm ?_ hdb)
  refine PySem.W.callWith_K (h₀ := X.base) I.ok.mod.kin T.oex.kC (thn (ha.run pos pins s σ H _ I h) fun us s1 ⟨vs, H1, I1, r1, hz, q1⟩ => ⟨I1.kIn, ?_⟩) he hpl
  show wpAny _ _ (call (.ref C) us) _ _ _
  obtain ⟨hp, g, dr, tk, os⟩ := s1
  generalize hA : hp.objs.size + 1 = a
  have hul : us.length = fls.length := by rw [← r1.length, hz, List.length_map]
  have hus : us.length ≤ sizeLine := by rw [sizeLine_eq]; omega
  have lt1 : hp.objs.size < a := by rw [← hA]; exact Nat.lt_succ_self _
  have na1 : H1 a = none := I1.hok.fresh (Nat.le_of_lt lt1)
  obtain ⟨hp2, hp2e⟩ : ∃ z, z = (hp.push (PySem.W.kdv_tup us)).push (PySem.HandSPX.excO C hp.objs.size) := ⟨_, rfl⟩
  have up2 : ∀ b o, hp.get? b = some o → hp2.get? b = some o := fun b o z => by rw [hp2e]; exact Heap.get?_push_of_some _ (Heap.get?_push_of_some _ z)
  have at2 : hp2.get? a = some (PySem.HandSPX.excO C hp.objs.size) := by rw [hp2e, ← hA]; heap_get
  have sz2 : hp.objs.size ≤ hp2.objs.size := Nat.le_trans (Nat.le_of_lt lt1) (Nat.le_of_lt (Heap.lt_size at2))
  obtain ⟨mb, hB, hbb⟩ := I1.ok.mod.blt
  have old : ∀ {b : Addr} {o : Obj}, hp.get? b = some o → b ≠ a := fun {b o} z => Nat.ne_of_lt (Nat.lt_trans (Heap.lt_size z) lt1)
  have nsk : ∀ {b : Addr} {mm : Str → Option Value}, X.base.Ns b mm → hp2.Ns b mm ∧ b ≠ a := fun {b mm} n => by
    obtain ⟨o, es, ep, z, r⟩ := n
    exact ⟨⟨o, es, ep, up2 _ _ (I1.bk _ _ z), r⟩, old (I1.bk _ _ z)⟩
  have kin2 : X.K.In hp2 := fun b o z => up2 _ _ (I1.kIn b o z)
  have lim2 : hp2.NoLimit := I1.nolimit.keeps up2
  refine wpAny_call (PySem.HandSPX.call_own F.excBase_ValueError (fun Y => PySem.HandSPX.refsVE_contains Y bm hbm) (I1.kIn _ _ hC) (looks_findIn I1.kIn T.iC) (fun me => bind_fn I1.kIn me T.tI) hus ?_)
  rw [hA, ← hp2e]
  refine err_run T S hno hl9 hul kin2 lim2 (nsk I1.ok.mod.glob).1 (nsk hB).1 (hbb _ (by decide +kernel)) (hr.make C us []).depth at2 (fun b o z => old (I1.kIn _ _ z)) (nsk I1.ok.mod.glob).2 (nsk hB).2 fun h' t1 tk' k S2 => ⟨rfl, ?_⟩
  cases hfl : ((fls.map (·.1)).zip us).reverse with
  | nil =>
    have z := congrArg List.length hfl
    simp [hul] at z
    exact absurd z hl0
  | cons p r =>
    rw [hfl] at S2
    obtain ⟨dd', hd1, hd2, hx, hns⟩ := S2
    have dsz : hp.objs.size ≤ dd' := Nat.le_trans sz2 (Nat.le_of_lt hd1)
    have nd1 : H1 dd' = none := I1.hok.fresh dsz
    have rel : ∀ f, RelO ((((fls.map (·.1)).zip vs).reverse).lookup f) ((p :: r).lookup f) := fun f => by
      rw [← hfl]
      exact lookup_zip_rel (paired_rev (paired_fields r1))
    obtain ⟨G, in1, out1⟩ := restrict h' fun b => decide (b ≠ a)
    have inG : ∀ b, b ≠ a → G.get? b = h'.get? b := fun b z => in1 b (by simpa using z)
    have outG : G.get? a = none := out1 a (by simp)
    have toG : ∀ b o, hp.get? b = some o → G.get? b = some o := fun b o z => (inG b (old z)).trans (k b o (old z) (up2 b o z))
    have J : Inv X pins σ (upd H1 dd' (.xd (((fls.map (·.1)).zip vs).reverse))) ⟨G, g, dr, tk', os⟩ :=
      I1.laid (t' := tk') toG dsz ⟨_, hns.at fun o z => (inG dd' hd2).trans z, rel⟩
    have subG : ∀ b o, G.get? b = some o → h'.get? b = some o := fun b o z => by
      by_cases q : b = a
      · rw [q, outG] at z
        cases z
      · exact (inG b q).symm.trans z
    have na3 : upd H1 dd' (.xd (((fls.map (·.1)).zip vs).reverse)) a = none := by
      rw [upd_ne (Ne.symm hd2)]
      exact na1
    exact ⟨a, _, _, ⟨G, g, dr, tk', os⟩, _, .ref C, some dd', rfl, J, subG, outG, hx, ⟨rfl, rfl⟩, rfl, rfl, na3, rfl, I1.bare, raises_own T.oex.exC T.oex.tyC, q1 dd' nd1⟩
end
end Z

/-! Z: facts of own errors; try .. except x as n, the error kept -/
namespace Z
open PySem PySem.W PySem.Calls PyProof.Rows PySem.HandSPX L2 He
/-- the class of an own error over ValueError -/
def oexB (K : Frag) (C : Addr) : Bool := match K.lookup C with
  | some o => (match o.cls, o.data, o.slots.toList with
    | .type t, .cls cd, [_, _, _, _, some (.builtin n), _] => decide (t = "type") && (decide (n = "ValueError.__new__") && ((!cd.hasDel) && (cd.hasDict && (match cd.mro with
      | .ref D :: bm => decide (D = C) && refsVE bm
      | _ => false))))
    | _, _, _ => false)
  | none => false
theorem oexB_ok {K : Frag} {C : Addr} (h : oexB K C = true) (sa : findIn K (.ref C) "__setattr__" = some (some (.builtin "object.__setattr__"))) (ex : subIn K (.ref C) (.type "BaseException") = some true) (ty : typeIn K (.ref C) = some (.type "type")) (kp : keepIn K (.ref C) = true) : OexC K C := by
  refine ⟨?_, sa, ex, ty, kp⟩
  unfold oexB at h
  split at h
  · rename_i o ho
    split at h
    · rename_i t cd k0 k1 k2 k3 n k5 e1 e2 e3
      simp only [Bool.and_eq_true, decide_eq_true_eq, Bool.not_eq_true'] at h
      obtain ⟨rfl, rfl, hd, hh, hm⟩ := h
      obtain ⟨oc, od, odt, osl⟩ := o
      dsimp only at e1 e2 e3
      subst e1 e2
      obtain ⟨nm, bs, mro, ns, qn, hd', sn, sub, ab, col, del⟩ := cd
      dsimp only at hd hh hm
      subst hd hh
      split at hm
      · rename_i D bm
        simp only [Bool.and_eq_true, decide_eq_true_eq] at hm
        obtain ⟨rfl, hv⟩ := hm
        have hs : osl = #[k0, k1, k2, k3, some (.builtin "ValueError.__new__"), k5] := by
          cases osl
          exact congrArg Array.mk e3
        subst hs
        exact ⟨nm, qn, ns, bs, bm, sn, sub, ab, col, od, k0, k1, k2, k3, k5, ho, hv⟩
      · cases hm
    · cases h
  · cases h
/-- an error's __init__: its closure, its code -/
def initB (P : Program) (K : Frag) (C fI : Addr) (qual : Str) : Bool := match (K.lookup fI).map (fun o : Obj => o.data) with
  | some (Data.func d) => (match d.closure, d.code, d.defaults, d.kwdefaults with
    | [(nm, cc)], .ref cda, .none, .none => decide (nm = "__class__") && (codeIn K (.ref cda) qual && ((match (K.lookup cda).map (fun o : Obj => o.data) with
      | some (Data.fields vs) => (match (vs[2]? : Option Value) with
        | some (Value.str file _) => (P.main.file : Str) == file
        | _ => false)
      | _ => false) && (match (K.lookup cc).map (fun o : Obj => o.data) with
      | some (Data.cell (some (.ref D))) => decide (D = C)
      | _ => false)))
    | _, _, _, _ => false)
  | _ => false
theorem init_lk {P : Program} {K : Frag} {C fI : Addr} {x qual : Str} {params : Arguments} {body : List Stmt} {scope : Scope} (e : fnAtE K fI = some (x, qual, params, .stmts body, scope, mainGlobals, [], builtinsNs)) (h : initB P K C fI qual = true) :
    ∃ (oc : Value) (od : Option Addr) (doc pm : Value) (an : Option Addr) (cda : Addr) (ct : Value) (cc : Addr) (osl : Array (Option Value)),
    K.lookup fI = some ⟨oc, od, .func (ksFn x qual params body scope .none .none doc pm an (.ref cda) ct cc), osl⟩ ∧ codeIn K (.ref cda) qual = true ∧
    (∃ ccl cdd vs ccs file tf, K.lookup cda = some ⟨ccl, cdd, .fields vs, ccs⟩ ∧ vs[2]? = some (.str file tf) ∧ ((P.main.file : Str) == file) = true) ∧
    (∃ cl cld csl, K.lookup cc = some ⟨cl, cld, .cell (some (.ref C)), csl⟩) := by
  unfold fnAtE at e
  unfold initB at h
  cases q : K.lookup fI with
  | none =>
    rw [q] at e
    cases e
  | some o =>
    obtain ⟨oc, od, dt, osl⟩ := o
    rw [q] at e h
    cases dt with
    | func d =>
      obtain ⟨n1, n2, n3, n4, n5, n6, n7, n8, n9, n10, n11, n12, n13, n14, n15⟩ := d
      have e2 : some (n1, n2, n3, n4, n5, n6, ([] : List (Str × Addr)), n15) = some (x, qual, params, FuncBody.stmts body, scope, mainGlobals, [], builtinsNs) := e
      simp only [Option.some.injEq, Prod.mk.injEq, true_and] at e2
      obtain ⟨h1, h2, h3, h4, h5, h6, h8⟩ := e2
      subst h1 h2 h3 h4 h5 h6 h8
      dsimp only [Option.map] at h
      split at h
      · rename_i nm cc cda
        simp only [Bool.and_eq_true, decide_eq_true_eq] at h
        obtain ⟨rfl, hcode, hfile, hcell⟩ := h
        refine ⟨_, _, _, _, _, cda, _, cc, _, rfl, hcode, ?_, ?_⟩
        · cases q2 : K.lookup cda with
          | none =>
            rw [q2] at hfile
            cases hfile
          | some o2 =>
            obtain ⟨c1, c2, c3, c4⟩ := o2
            rw [q2] at hfile
            cases c3 with
            | fields vs =>
              dsimp only [Option.map] at hfile
              split at hfile
              · rename_i file tk hv
                exact ⟨_, _, _, _, file, tk, rfl, hv, hfile⟩
              · cases hfile
            | _ => cases hfile
        · cases q2 : K.lookup cc with
          | none =>
            rw [q2] at hcell
            cases hcell
          | some o2 =>
            obtain ⟨c1, c2, c3, c4⟩ := o2
            rw [q2] at hcell
            dsimp only [Option.map] at hcell
            split at hcell
            · rename_i D hD
              cases hD
              have := of_decide_eq_true hcell
              subst this
              exact ⟨_, _, _, rfl⟩
            · cases hcell
      · cases h
    | _ => cases h
end Z

/-! Z: try .. except x as n, where the error is kept behind the suite -/
namespace Z
open PySem PySem.W PySem.Calls PyProof.Rows PySem.HandSPX L2
/-- an error that is kept: its class, its dict -/
def exv (a : Addr) (cls : Value) (d : Option Addr) : HO := .ext fun h => ∃ (oe : Obj) (vs : Array Value), h.get? a = some oe ∧ Zc cls d oe ∧ oe.data = .fields vs
theorem exv_ok {P : Program} {w : World} {H : Hp} {h : Heap} {a : Addr} {cls : Value} {d : Option Addr} {oe : Obj} {vs : Array Value} (e : h.get? a = some oe) (z : Zc cls d oe) (hd : oe.data = .fields vs) : ObjOk P w H h a (exv a cls d) :=
  ⟨⟨oe, vs, e, z, hd⟩, ⟨oe, e⟩, fun _ _ q k => by
    obtain ⟨o, us, q1, q2, q3⟩ := q
    exact ⟨o, us, k _ q1, q2, q3⟩⟩
theorem exv_at {P : Program} {w : World} {H : Hp} {h : Heap} {a : Addr} {cls : Value} {d : Option Addr} (hok : HOk P w H h) (e : H a = some (exv a cls d)) : ∃ (oe : Obj) (vs : Array Value), h.get? a = some oe ∧ Zc cls d oe ∧ oe.data = .fields vs := by
  have z : ObjOk P w H h a (.ext fun h => ∃ (oe : Obj) (vs : Array Value), h.get? a = some oe ∧ Zc cls d oe ∧ oe.data = .fields vs) := hok a _ e
  exact z.1
section
variable {X : Cx} {pins : List (Addr × Obj)} {σ : L2.St} {H : Hp} {s : Shared} {a : Addr} {cls : Value} {d : Option Addr} {oe : Obj} {vs : Array Value}
/-- an error's object is told from now on -/
theorem track (I : Inv X pins σ H s) (e : s.heap.get? a = some oe) (z : Zc cls d oe) (hd : oe.data = .fields vs) (na : H a = none) (old : X.s_0.heap.get? a = none) (nL : a ≠ X.env.locals) (np : ∀ p ∈ X.pn ++ pins, p.1 ≠ a) : Inv X pins σ (upd H a (exv a cls d)) s := by
  have ne : ∀ {b : Addr} {u : HO}, H b = some u → b ≠ a := fun {b u} q w => by
    rw [w, na] at q
    cases q
  refine ⟨I.ok, I.os, I.bare, ⟨I.base.keep, I.base.slot, fun b o q1 q2 q3 => ?_, I.base.there, fun b xs q => ?_, fun b o u q => ?_, fun b ps q => ?_⟩, I.loc, I.cell, ?_, fun y c q => ?_, fun p hp => ?_, fun b o q => ?_, I.len⟩
  · rw [upd_ne (fun w => by rw [w, old] at q1; cases q1)]
    exact I.base.free b o q1 q2 q3
  · have q' := I.base.tups b xs q
    rw [upd_ne (ne q')]
    exact q'
  · have q' := I.base.frzs b o u q
    rw [upd_ne (ne q')]
    exact q'
  · obtain ⟨more, q'⟩ := I.base.tbls b ps q
    exact ⟨more, by rw [upd_ne (ne q')]; exact q'⟩
  · rw [upd_ne (Ne.symm nL)]
    exact I.free
  · have nc : c ≠ a := fun w => by
      obtain ⟨v, o, c1, c2⟩ := I.cell y c q
      rw [w, e] at c1
      cases c1
      rw [hd] at c2
      cases c2
    rw [upd_ne nc]
    exact I.freeC y c q
  · obtain ⟨p1, p2, p3⟩ := I.pin p hp
    exact ⟨p1, by rw [upd_ne (np p hp)]; exact p2, p3⟩
  · by_cases w : b = a
    · subst w
      rw [upd_same] at q
      cases q
      exact exv_ok e z hd
    · rw [upd_ne w] at q
      exact (I.hok b o q).stay (fun _ _ _ y => y) (fun c hc => by rw [upd_ne (ne hc)]; exact hc) fun c xs hc => by rw [upd_ne (ne hc)]; exact hc
end
/-- what the clause wishes; behind the suite the error is told -/
def wKp (K : Frag) (c : Value) (i : Nat) (ts : Addr → Value → Option Addr → TS) (Wout : WX) (D : Ends) : WX := fun cls d σ H =>
  ∃ b, exmOne K cls c = some b ∧ (b = true → ∀ a, H a = none → ts a cls d { nx := fun σ' H' => D.nx (σ'.set i none) (upd H' a (exv a cls d)), rt := fun _ _ => False, bk := fun _ _ => False, ct := fun _ _ => False } (σ.set i (some (.ref a))) H) ∧ (b = false → Wout cls d σ H)
section
variable {X : Cx} {x n : Str} {c : Value} {i : Nat} {body suite : List Stmt} {b₀ : Stmt} {np pos pos' : Pos} {tb : WX → TS} {ts : Addr → Value → Option Addr → TS} {Wout : WX}
theorem ps_try_kp (hs : X.stack = X.env :: X.outer) (hf : X.env.frame = some X.env.locals) (hex : X.ex = []) (hN : X.N.Nodup) (hi : X.N[i]? = some n) (hln : X.env.kindOf n = some .local) (hc : Names X x c) (tk : Takes X Wout)
    (hb : ∀ (W : WX) (pn : List (Addr × Obj)) (xe : Value → Shared → Prop), Takes (X.tr pn xe) W → PassesOwn (model X.prog X.w) X.A X.env xe → PSs (X.tr pn xe) body (tb W))
    (hsu : ∀ (a : Addr) (oe : Obj) (cls : Value) (d : Option Addr) (pn : List (Addr × Obj)), Zc cls d oe → (∃ vs, oe.data = .fields vs) → PSs (X.suite a ((a, oe) :: pn)) (b₀ :: suite) (ts a cls d)) :
    PS X (.Try body [.ExceptHandler (some (.Name x np)) (some n) (b₀ :: suite) pos'] [] [] pos) (fun D σ H => tb (wKp X.K c i ts Wout D) D σ H) := by
  constructor
  intro pins s σ H D I h
  have ok := I.ok
  have fr2 : X.A.frames = some (X.env :: X.outer) := by rw [ok.frames, hs]
  refine wpAny_Try_except (wpAny_mono ((hb (wKp X.K c i ts Wout D) (X.pn ++ pins) _ (fun u s' xx => ?_) PassesOwn.looking).run [] s σ H D (I.toTry _) h) (fun f s1 sp => ?_) fun e s1 he => he)
  case refine_2 =>
    cases f with
    | ret u =>
      obtain ⟨v, σ', H', J', r, q⟩ := sp
      exact ⟨v, σ', H', J'.ofTry ok, r, q⟩
    | next =>
      obtain ⟨σ', H', J', q⟩ := sp
      exact wpAny_execs_nil ⟨σ', H', J'.ofTry ok, q⟩
    | brk =>
      obtain ⟨σ', H', J', q⟩ := sp
      exact ⟨σ', H', J'.ofTry ok, q⟩
    | cont =>
      obtain ⟨σ', H', J', q⟩ := sp
      exact ⟨σ', H', J'.ofTry ok, q⟩
  obtain ⟨a, B, sI, pins', σ', H', cls, d, rfl, J', nb, up, sky, na, os, ag, b, hb1, yes, no⟩ := xx
  have J : Inv X pins σ' H' sI := J'.ofTry ok
  rw [hs] at sky
  refine Sky.land Zc.steady fr2 hf sky fun h3 fl3 up3 => ?_
  obtain ⟨oe3, vs3, at3, zc3, fd3⟩ := fl3.there
  have offFr : a ∉ frs (X.env :: X.outer) := fun hm => by
    obtain ⟨_, o', q1, q2⟩ := fl3.2.2.1.mem hm
    rw [at3] at q1
    cases q1
    exact q2 _ fd3
  have nL : a ≠ X.env.locals := fun z => offFr (List.mem_filterMap.mpr ⟨X.env, List.mem_cons_self, by rw [hf, z]⟩)
  have nF : a ∉ X.fs := fun hm => by
    obtain ⟨e, q1, q2⟩ := List.mem_filterMap.mp hm
    exact offFr (List.mem_filterMap.mpr ⟨e, List.mem_cons_of_mem _ q1, q2⟩)
  have newI : ∀ b o, sI.heap.get? b = some o → b ∉ frs X.stack → b ≠ a := fun b o q1 q2 z => by
    have q3 := nb b o q1 q2
    rw [z, fl3.2.1] at q3
    cases q3
  have old : X.s_0.heap.get? a = none := by
    cases q : X.s_0.heap.get? a with
    | none => rfl
    | some o =>
      obtain ⟨o', q'⟩ := J.base.there a o q (by rw [hex]; simp)
      exact absurd rfl (newI a o' q' (by rw [hs]; exact offFr))
  have npn : ∀ p ∈ X.pn ++ pins, p.1 ≠ a := fun p hp => by
    obtain ⟨p1, _, p3, p4, _⟩ := J.pin p hp
    refine newI _ _ p1 ?_
    rw [hs]
    intro hm
    obtain ⟨e, q1, q2⟩ := List.mem_filterMap.mp hm
    rcases List.mem_cons.mp q1 with rfl | q1
    · rw [hf] at q2
      exact p3 (Option.some.inj q2).symm
    · exact p4 (List.mem_filterMap.mpr ⟨e, q1, q2⟩)
  have J3 : Inv X pins σ' H' { s' with heap := h3 } := J.landed nb fl3.1 (up.trans up3) os ag
  have S3 := J3.suite at3 fd3 na nL nF
  refine wpAny_handleBy_cons (codeAny_handlers_test ?_) (by intro q; cases q)
  have LM := exm_one (M := model X.prog X.w) J3.kIn (fun A Q E s k q => wpAny_typeOf_ref (k _ _ at3) (by rw [zc3.1]; exact q)) hb1
  have name : ∀ {Q : Value → Shared → Prop} {E : Value → Shared → Prop}, Q c { s' with heap := h3 } → wpAny (model X.prog X.w) (X.A.mark (some (.ref a))) (eval (.Name x np) X.env) Q E { s' with heap := h3 } := fun {Q E} q => by
    obtain ⟨hg, hdb, hm | ⟨hm, hv, hnn⟩⟩ := hc
    · exact ld_glob (X := X.suite a _) S3 hg hm q hdb
    · exact ld_blt (X := X.suite a _) S3 hg hm hv q hnn hdb
  refine name (LM.here ?_)
  cases b with
  | false =>
    show wpAny _ X.A (handleBy (.ref a) X.env []) _ _ _
    refine wpAny_handleBy_nil ?_
    obtain ⟨_, _, _, oe, vs, T, oT, ts', q1, q2, q3, q4, q5⟩ := id fl3
    unfold PySem.passOn
    refine wpAny_bind (wpAny_field q1 q3 q4 ?_)
    rw [if_neg (show ¬ ((Value.ref T == Value.none) = true) from by simp)]
    have out : wpAny (model X.prog X.w) X.A (setFlight (.ref a) X.env.frame) (fun _ s4 => wpAny (model X.prog X.w) X.A (throw (.ref a) : Sem Flow) (SP X pins D) X.xe s4) X.xe { s' with heap := h3 } := by
      rw [hf]
      exact setFlight_upZ fl3 fun h4 hh4 up4 => wpAny_throw (tk _ _ ⟨a, B, sI, pins, σ', H', cls, d, rfl, J, nb, (up.trans up3).trans up4, .inr (.inr (by rw [hs]; exact hh4)), na, os, ag, no rfl⟩)
    first
      | exact wpAny_bind (wpAny_pure (wpAny_bind out))
      | exact wpAny_bind out
  | true =>
    refine codeAny_handlers_suite_as (lands_againZ fl3 fun h4 fl4 up4 => ?_)
    have J4 : Inv X pins σ' H' { s' with heap := h4 } := J.landed nb fl4.1 ((up.trans up3).trans up4) os ag
    obtain ⟨oe4, vs4, at4, zc4, fd4⟩ := fl4.there
    refine store_ok (X := X.suite a ((a, oe4) :: (X.pn ++ pins))) (v := .ref a) (J4.suite at4 fd4 na nL nF) hN hi (.inl hln) rfl (fun s5 S5 => ?_) (.inr hln)
    refine wpAny_mono ((hsu a oe4 cls d (X.pn ++ pins) zc4 ⟨_, fd4⟩).run [] s5 _ H' _ S5 (yes rfl a na)) (fun f s6 sp => ?_) fun _ _ z => False.elim z
    cases f with
    | next =>
      obtain ⟨σ6, H6, S6, q6⟩ := sp
      have U6 : Inv { X with pn := (a, oe4) :: (X.pn ++ pins) } [] σ6 H6 s6 := ⟨⟨ok.mod, ok.kind, ok.glob, ok.blt, ok.above, ok.inj, ok.has, ok.cab, ok.hd, ok.frames, ok.stk, ok.exf, ok.bs, ok.bsz, ok.noex, ok.exfs, ok.funs, ok.frf⟩, S6.os, S6.bare, S6.base, S6.loc, S6.cell, S6.free, S6.freeC, S6.pin, S6.hok, S6.len⟩
      refine gone_ok (X := { X with pn := (a, oe4) :: (X.pn ++ pins) }) U6 hN hi hln fun s7 J7 => ?_
      obtain ⟨p1, p2, _⟩ := J7.pin (a, oe4) (List.mem_append_left _ List.mem_cons_self)
      have K7 : Inv X pins (σ6.set i none) H6 s7 := ⟨ok, J7.os, J7.bare, J7.base, J7.loc, J7.cell, J7.free, J7.freeC, fun p hp => J7.pin p (List.mem_append_left _ (List.mem_cons_of_mem _ hp)), J7.hok, J7.len⟩
      exact ⟨_, _, track K7 p1 zc4 fd4 p2 old nL npn, q6⟩
    | ret u =>
      obtain ⟨_, _, _, _, _, q6⟩ := sp
      exact q6.elim
    | brk =>
      obtain ⟨_, _, _, q6⟩ := sp
      exact q6.elim
    | cont =>
      obtain ⟨_, _, _, q6⟩ := sp
      exact q6.elim
end
end Z

/-! Z: an error that is kept: its fields, isinstance -/
namespace Z
open PySem PySem.W PySem.Calls PyProof.Rows PySem.HandSPX L2
/-- what isinstance and a field ask of an own error's class -/
structure ErrQ (K : Frag) (D : Addr) : Prop where
  xf : XfC K D
  hc : (clsIn K D).isSome = true
  ha : findIn K (.ref D) "__class__" = some (some (.builtin "object.__class__"))
  hn : specialIn K (.builtin "object.__class__") "__get__" = some (some (.builtin "getset_descriptor.__get__"))
  ht : takesIn K (.builtin "object.__class__") = some true
  hm : mroIn K D (.type "object") = some true
/-- the error at a, of the class C, with these fields -/
def IsE (H : Hp) (a C : Addr) (fs : List (Str × V)) : Prop := ∃ d, H a = some (exv a (.ref C) (some d)) ∧ H d = some (.xd fs)
section
variable {X : Cx} {pins : List (Addr × Obj)} {σ : L2.St} {H : Hp} {s : Shared} {a C : Addr} {fs : List (Str × V)} {e : Expr} {te : TE} {pos : Pos} {n : Str}
theorem isE_inst (I : Inv X pins σ H s) (h : IsE H a C fs) : ∃ (oe od : Obj) (mA : Str → Option Value), InstAt s.heap a oe C (some od) ∧ (∀ f, RelO (fs.lookup f) (mA f)) ∧ ∀ f, lookIn f od = some (mA f) := by
  obtain ⟨d, h1, h2⟩ := h
  obtain ⟨oe, vs, q1, q2, q3⟩ := exv_at I.hok h1
  have hx : ObjOk X.prog X.w H s.heap d (.xd fs) := I.hok d _ h2
  obtain ⟨mA, hns, hr⟩ := hx
  obtain ⟨od, ho, hl⟩ := lookIn_ns hns
  exact ⟨oe, od, mA, ⟨q1, q2.1, by unfold notCls; rw [q3] <;> rfl, by rw [q2.2]; exact ho⟩, hr, hl⟩
/-- e.f of a kept error -/
def tXv (K : Frag) (n : Str) (te : TE) : TE := fun σ H Q => te σ H fun x H1 => ∃ a C fs v, x = .ref a ∧ ErrQ K C ∧ findIn K (.ref C) n = some none ∧ IsE H1 a C fs ∧ fs.lookup n = some v ∧ Q v H1
theorem pe_xv (he : PE X e te) (hb : attributeBase e n X.env (eval e X.env) = eval e X.env := by rfl) : PE X (.Attribute e n pos) (tXv X.K n te) := by
  refine ⟨fun pins s σ H Q I h => attr_of hb (thn (he.run pins s σ H _ I h) fun u s1 hh => ?_)⟩
  obtain ⟨x, H1, I1, rx, a, C, fs, v, ex, T, hno, hE, l, q⟩ := hh
  subst ex
  obtain rfl : u = Value.ref a := rx
  obtain ⟨oe, od, mA, J, hr, hl⟩ := isE_inst I1 hE
  obtain ⟨u, hu, ru⟩ := RelO.some_of (v := v) (o := mA n) (by rw [← l]; exact hr n)
  exact exc_get I1.kIn J T.xf.ga T.xf.gg T.xf.exC (findObj_own T.xf.hdC hno rfl (by rw [hl, hu])) (handed_of ru) ⟨v, H1, I1.tok _, ru, q⟩
/-- isinstance(e, c) of a kept error -/
def rIsV (K : Frag) : List V → Hp → VK → Prop := fun xs H Q => ∃ (a C : Addr) (fs : List (Str × V)) (c : V) (cv : Value) (b : Bool), xs = [.ref a, c] ∧ ErrQ K C ∧ IsE H a C fs ∧ (∀ u, RelV c u → u = cv) ∧ kitOne K (.ref C) cv = some b ∧ Q (.bl b) H
theorem call_isV : CallR X (.builtin "isinstance") (rIsV X.K) := by
  intro pins s σ H xs us Q I r h
  obtain ⟨a, C, fs, c, cv, b, rfl, T, hE, hcv, ek, q⟩ := h
  cases r with
  | cons rx rr =>
    cases rr with
    | cons rt rr =>
      cases rr
      cases rx
      have ec := hcv _ rt
      subst ec
      obtain ⟨oe, od, mA, J, _, _⟩ := isE_inst I hE
      exact kia_one (kitx_exc T.hc T.xf.ga T.xf.gg T.xf.exC T.ha T.hn T.ht T.hm) I.kIn J ek (fun z => nomatch z) fun tk => ⟨.bl b, H, I.kept (t' := tk) fun _ _ z => z, rfl, q⟩
end
end Z

/-! Z: defs called with keywords alone; readings of errors; repr of ints; picks -/
namespace Z
open PySem PySem.Spec PyProof.Rows L2
section
variable {X : Cx} {CX : CXT} {k : Nat} {f : Addr} {fd : FuncData} {ps ks : List Str} {sp : Sp} {E : XK} {x : Str} {p pos : Pos} {kws : List Keyword} {tk : TA} {g : List Value → List Value → List Value} {gV : List V → List V → List V}
/-- f(k = v, ..) -/
def tCallN (n : Nat) (sp : Sp) (gV : List V → List V → List V) (E : XK) (tk : TA) : TE := fun σ H Q => tk σ H fun zs H2 => zs.length = n ∧ sp (gV [] zs) H2 Q E
theorem pe_callN (F : FnOk X.prog X.w X.K X.mg X.base CX k f fd ps sp) (hr : Room k X.A) (hg : Gl X x) (hm : X.mg x = some (.ref f)) (hk : PySem.W.keepIn X.K (.ref f) = true) (hb : KBn X.K fd ps 0 ks g gV) (hx : Passes CX X E) (hkw : PK X kws tk)
    (hall : (backToKw pos (keywordEach kws X.env)).all (·.1.isSome) = true := by rfl) (hks : (backToKw pos (keywordEach kws X.env)).filterMap (·.1) = ks := by rfl)
    (hpl : ((backTo pos (starEach [] X.env)).any (·.1) || (backToKw pos (keywordEach kws X.env)).any (·.1.isNone)) = false := by rfl) (hdb : (x == ("__debug__" : Str)) = false := by decide) :
    PE X (.Call (.Name x p) [] kws pos) (tCallN ks.length sp gV E tk) := by
  refine ⟨fun pins s σ H Q I h => wpAny_Call_Name_kw (ld_glob I hg hm ?_ hdb)⟩
  refine PySem.W.callWith_KW0 (first := []) (h₀ := X.base) I.ok.mod.kin hk hall (thn (hkw.run pos pins s σ H _ I h) fun ws s2 ⟨zs, H2, I2, rz, l2, q2⟩ => ⟨I2.kIn, ?_⟩) hpl
  rw [hks]
  exact run_fnN (us := []) (vs := []) F hr hb hx I2 .nil rz rfl l2 q2
theorem s_callN {σ : L2.St} {H : Hp} {Q : VK} {n : Nat} (h : tk σ H fun zs H2 => zs.length = n ∧ sp (gV [] zs) H2 Q E) : tCallN n sp gV E tk σ H Q := h
end
/-- repr of an int -/
def rReprI : RC := fun xs H Q => ∃ i, xs = [.int i] ∧ i.natAbs.log2 < 1920 ∧ Q (.str (toString i)) H
theorem zc_reprI {X : Cx} : CallR X (.builtin "repr") rReprI := SkE.call_repr_int
section
variable {K : PySem.W.Frag} {σ : L2.St} {H : Hp} {Q : VK} {E : XK} {C : Addr} {ta : TA} {te : TE} {D : Ends}
theorem r_reprI {i : Int} (h : i.natAbs.log2 < 1920) (k : Q (.str (toString i)) H) : rReprI [.int i] H Q := ⟨i, rfl, h, k⟩
theorem log_lt {i : Int} {a : Nat} (h0 : 0 ≤ i) (h : i < 2 ^ a) (ha : 0 < a) (hb : a ≤ 1920) : i.natAbs.log2 < 1920 := by
  have h1 : i.natAbs < 2 ^ a := pow_bound h0 h
  exact Nat.lt_of_lt_of_le (PySem.Flt.log2_lt_of ha h1) hb
theorem s_err {fns : List Str} {W : XK} (k : ta σ H fun vs H1 => vs.length = fns.length ∧ ∀ d, H1 d = none → W (.ref C) (some d) (upd H1 d (.xd (fns.zip vs).reverse))) : tErr C fns ta σ H W := k
theorem s_xv {n : Str} (k : te σ H fun x H1 => ∃ a C fs v, x = .ref a ∧ ErrQ K C ∧ PySem.W.findIn K (.ref C) n = some none ∧ IsE H1 a C fs ∧ fs.lookup n = some v ∧ Q v H1) : tXv K n te σ H Q := k
theorem s_callS {sp : Sp} {E' : L2.St → XK} (k : ta σ H fun vs H1 => sp vs H1 Q (E' σ)) : tCallS sp E' ta σ H Q := k
theorem r_isV {a D : Addr} {fs : List (Str × V)} {b : Bool} (T : ErrQ K C) (h : IsE H a C fs) (e : PySem.W.kitOne K (.ref C) (.ref D) = some b) (k : Q (.bl b) H) : rIsV K [.ref a, .ref D] H Q :=
  ⟨a, C, fs, .ref D, .ref D, b, rfl, T, h, fun u (r : u = Value.ref D) => r, e, k⟩
theorem s_aug {i : Nat} {x : V} {ti : TIp} (h : σ[i]? = some (some x)) (k : te σ H fun y H1 => ti x y H1 fun z H2 => D.nx (σ.set i (some z)) H2) : tAug i te ti D σ H := ⟨x, h, k⟩
theorem r_ip {f : Int → Int → Int} {i j : Int} (k : Q (.int (f i j)) H) : ipI f (.int i) (.int j) H Q := ⟨i, j, rfl, rfl, k⟩
theorem IsE.ex {H' : Hp} {a : Addr} {fs : List (Str × V)} (e : Ex H H') (h : IsE H a C fs) : IsE H' a C fs := by
  obtain ⟨d, h1, h2⟩ := h
  exact ⟨d, e _ _ h1, e _ _ h2⟩
theorem isE_new {a d : Addr} {fs : List (Str × V)} (h : upd H d (.xd fs) a = none) : IsE (upd (upd H d (.xd fs)) a (exv a (.ref C) (some d))) a C fs := by
  have ne : d ≠ a := fun z => by
    rw [← z, upd_same] at h
    cases h
  exact ⟨d, upd_same, by rw [upd_ne ne, upd_same]⟩
theorem ex_new2 {a d : Addr} {o u : HO} (hd : H d = none) (ha : upd H d o a = none) : Ex H (upd (upd H d o) a u) := (Ex.new hd).trans (Ex.new ha)
/-- the error's clause takes it -/
theorem w_kp {c : Value} {i : Nat} {ts : Addr → Value → Option Addr → TS} {Wout : WX} {cls : Value} {d : Option Addr} (e : PySem.W.exmOne K cls c = some true) (k : ∀ a, H a = none → ts a cls d { nx := fun σ' H' => D.nx (σ'.set i none) (upd H' a (exv a cls d)), rt := fun _ _ => False, bk := fun _ _ => False, ct := fun _ _ => False } (σ.set i (some (.ref a))) H) :
    WE (wKp K c i ts Wout D) σ cls d H := ⟨true, e, fun _ => k, fun z => nomatch z⟩
/-- e.f of a kept error -/
theorem v_xv {n : Str} {a : Addr} {fs : List (Str × V)} {v : V} (T : ErrQ K C) (hn : PySem.W.findIn K (.ref C) n = some none) (h : IsE H a C fs) (l : fs.lookup n = some v) (k : Q v H) : ∃ a' C' fs' v', V.ref a = .ref a' ∧ ErrQ K C' ∧ PySem.W.findIn K (.ref C') n = some none ∧ IsE H a' C' fs' ∧ fs'.lookup n = some v' ∧ Q v' H := ⟨a, C, fs, v, rfl, T, hn, h, l, k⟩
/-- a, b = t -/
theorem g_tup {n : Nat} {t : TGs} {a : Addr} {xs : List V} {N : L2.St → Hp → Prop} (h : SqT K H a xs) (hn : xs.length = n) (k : t xs σ H N) : gTup K n t (.ref a) σ H N := ⟨a, xs, rfl, h, hn, k⟩
theorem g_cons {t : TG} {u : TGs} {v : V} {r : List V} {N : L2.St → Hp → Prop} (k : t v σ H fun σ' H' => u r σ' H' N) : gCons t u (v :: r) σ H N := ⟨v, r, rfl, k⟩
theorem g_nil {N : L2.St → Hp → Prop} (k : N σ H) : gNil [] σ H N := ⟨rfl, k⟩
/-- a pick out of a list of ints -/
def spPick (K : PySem.W.Frag) : Sp := fun vs H Q _ => ∃ (p l : Addr) (xs : List Int) (n : Nat), vs = [.ref p, .ref l] ∧ H l = some (.lst (xs.map V.int)) ∧ 0 < xs.length ∧ xs.length ≤ 1000 ∧ PenAt K H p (n + 1) ∧ ∀ v H', Gr H H' → PenAt K H' p n → v ∈ xs → Q (.int v) H'
theorem use_pick {p l : Addr} {xs : List Int} {n : Nat} (hp : PenAt K H p (n + 1)) (hl : H l = some (.lst (xs.map V.int))) (h0 : 0 < xs.length) (h1 : xs.length ≤ 1000) (k : ∀ v H', Gr H H' → PenAt K H' p n → v ∈ xs → Q (.int v) H') : spPick K [.ref p, .ref l] H Q E := ⟨p, l, xs, n, rfl, hl, h0, h1, hp, k⟩
end
end Z

/-! Z: repr of lists, tuples and own instances, in one another -/
namespace Z
open PySem PySem.Spec PyProof.Rows L2
open PySem.Builtin PySem.Builtin.List
theorem env0_at {P : Program} {w : World} {K : PySem.W.Frag} {mg : Str → Option Value} {base : Heap} {A B : Around} {outer : List Env} {s : Shared} {H : Hp} (e : Env0 P w K mg base A outer s H) (h : B.frames = A.frames) :
    Env0 P w K mg base B outer s H := ⟨h.trans e.frames, e.mod, e.bs, e.bsz, e.funs, e.frf, e.hok, e.bare⟩
/-- where something is shown: X's frame, the codes of what is being shown around it -/
structure Rin (X : Cx) (k : Nat) (A : Around) (g : List Code) : Prop where
  fr : A.frames = X.A.frames
  gd : A.guards = some g
  rm : Room k A
/-- a code that guards, and no more -/
structure GuardC (c : Code) : Prop where
  gd : c.isGuard = true
  fr : ∀ A : Around, (A.under c).frames = A.frames
  dp : ∀ A : Around, (A.under c).depth ≤ A.depth + 1
  un : ∀ A : Around, (A.under c).units = A.units + 1
  hd : ∀ A : Around, (A.under c).handled = A.handled
theorem Rin.under {X : Cx} {k : Nat} {A : Around} {g : List Code} {c : Code} (r : Rin X (k + 1) A g) (h : GuardC c) : Rin X k (A.under c) (c :: g) :=
  ⟨(h.fr A).trans r.fr, guards_under_guard h.gd r.gd, ⟨(h.hd A).trans r.rm.hd, by have := r.rm.dp; have := h.dp A; omega, by have := r.rm.un; have := h.un A; omega⟩⟩
theorem guardC_list (args : Args) : GuardC (.builtin "list.__repr__.loop" args) :=
  ⟨isGuard_list_loop args, fun A => by first | rfl | simp [Around.under, Code.envs, pushEnvs], fun A => by first | exact Nat.le_refl _ | simp [Around.under, Code.weight, Code.isCreation, Code.isGuard, Code.isCaller, Code.frames, Code.isFrame, guardIds], fun A => units_under_list_loop A args, fun A => by first | rfl | simp [Around.under]⟩
theorem guardC_tup (args : Args) : GuardC (.builtin "tuple.__repr__" args) :=
  ⟨isGuard_tuple_repr args, fun A => by first | rfl | simp [Around.under, Code.envs, pushEnvs], fun A => by first | exact Nat.le_refl _ | simp [Around.under, Code.weight, Code.isCreation, Code.isGuard, Code.isCaller, Code.frames, Code.isFrame, guardIds], fun A => units_under_tuple_repr A args, fun A => by first | rfl | simp [Around.under]⟩
theorem guardC_tupU (args : Args) : GuardC (.builtin "tuple.__repr__.under" args) :=
  ⟨isGuard_tuple_repr_under args, fun A => by first | rfl | simp [Around.under, Code.envs, pushEnvs], fun A => by first | exact Nat.le_refl _ | simp [Around.under, Code.weight, Code.isCreation, Code.isGuard, Code.isCaller, Code.frames, Code.isFrame, guardIds], fun A => units_under_tuple_repr_under A args, fun A => by first | rfl | simp [Around.under]⟩
/-- over H, x is shown as t; the lists and tuples at as stand in it -/
def Shw (X : Cx) (k : Nat) (as : List Addr) (H : Hp) (x : V) (t : Str) : Prop :=
  ∀ (b : Nat) (A : Around) (g : List Code) (u : Value) (pins : List (Addr × Obj)) (σ : L2.St) (s : Shared) (H1 : Hp) (Q : Str → Shared → Prop), b + t.length ≤ sizeLine → Rin X k A g → (∀ a ∈ as, Clear g a) → Ex H H1 → Inv X pins σ H1 s → RelV x u →
    (∀ s' H2, Ex H1 H2 → Inv X pins σ H2 s' → Q t s') → wpAny (model X.prog X.w) A (pyReprUnder b u) Q X.xe s
theorem Shw.ex {X : Cx} {k : Nat} {as : List Addr} {H H' : Hp} {x : V} {t : Str} (h : Shw X k as H x t) (e : Ex H H') : Shw X k as H' x t :=
  fun b A g u pins σ s H1 Q hz r c e1 I rv hQ => h b A g u pins σ s H1 Q hz r c (e.trans e1) I rv hQ
theorem Shw.mono {X : Cx} {k k' : Nat} {as as' : List Addr} {H : Hp} {x : V} {t : Str} (h : Shw X k as H x t) (hk : k ≤ k') (ha : ∀ a ∈ as, a ∈ as') : Shw X k' as' H x t :=
  fun b A g u pins σ s H1 Q hz r c e1 I rv hQ => h b A g u pins σ s H1 Q hz ⟨r.fr, r.gd, r.rm.mono hk⟩ (fun a m => c a (ha a m)) e1 I rv hQ
inductive ShwAll (X : Cx) (k : Nat) (as : List Addr) (H : Hp) : List V → List Str → Prop
  | nil : ShwAll X k as H [] []
  | cons {x : V} {t : Str} {xs : List V} {ts : List Str} : Shw X k as H x t → ShwAll X k as H xs ts → ShwAll X k as H (x :: xs) (t :: ts)
section
variable {X : Cx} {k : Nat} {as : List Addr} {H : Hp} {x : V} {t : Str}
theorem ShwAll.len : ∀ {xs : List V} {ts : List Str}, ShwAll X k as H xs ts → ts.length = xs.length
  | _, _, .nil => rfl
  | _, _, .cons _ h => congrArg Nat.succ h.len
theorem ShwAll.at_ : ∀ {xs : List V} {ts : List Str}, ShwAll X k as H xs ts → ∀ (i : Nat) (x : V), xs[i]? = some x → ∃ t, ts[i]? = some t ∧ Shw X k as H x t
  | _, _, .nil, _, _, e => by simp at e
  | _, _, .cons h _, 0, x, e => by
    cases e
    exact ⟨_, rfl, h⟩
  | _, _, .cons _ h, i + 1, x, e => h.at_ i x e
theorem ShwAll.ex {H' : Hp} (e : Ex H H') : ∀ {xs : List V} {ts : List Str}, ShwAll X k as H xs ts → ShwAll X k as H' xs ts
  | _, _, .nil => .nil
  | _, _, .cons h r => .cons (h.ex e) (r.ex e)
theorem Shw.leaf (h : ∀ u, RelV x u → ReprIs X.prog X.w u t) : Shw X k [] H x t :=
  fun b A g u pins σ s H1 Q hz r c e1 I rv hQ => h u rv b hz A X.xe s Q fun tk => hQ _ H1 (Ex.refl _) (I.tok tk)
theorem Shw.int {i : Int} (h : i.natAbs.log2 < 1920) : Shw X k [] H (.int i) (toString i) := .leaf fun u ⟨tk, e⟩ => e ▸ ReprIs.int tk h
theorem Shw.bl {b : Bool} : Shw X k [] H (.bl b) (if b then "True" else "False" : String) := .leaf fun u (e : u = Value.bool b) => by
  subst e
  cases b
  · exact ReprIs.bool false
  · exact ReprIs.bool true
theorem Shw.non : Shw X k [] H .non ("None" : String) := .leaf fun u (e : u = Value.none) => e ▸ ReprIs.none
theorem Shw.str {z : Str} (h : (reprText z).length ≤ sizeLine) : Shw X k [] H (.str z) (reprText z) := .leaf fun u ⟨tk, e⟩ => e ▸ ReprIs.str z tk h
theorem strs_of : ∀ {ts : List Str} {us : List Value}, Vals (ts.map V.str) us → ∃ done : List (Str × Tok), us = strValues done ∧ done.map (·.1) = ts
  | [], _, h => by
    cases h
    exact ⟨[], rfl, rfl⟩
  | t :: ts, _, h => by
    cases h with
    | cons r h =>
      obtain ⟨u, rfl⟩ := r
      obtain ⟨done, rfl, hd⟩ := strs_of h
      exact ⟨(t, u) :: done, rfl, by rw [List.map_cons, hd]⟩
/-- the loop of a list's repr -/
theorem shw_loop {A : Around} {g : List Code} {a L : Addr} {xs : List V} {ts : List Str} {base : Nat} {pins : List (Addr × Obj)} {σ : L2.St} {R : Result → Shared → Prop} {H1 : Hp}
    (ri : Rin X (k + 1) A g) (cl : ∀ b ∈ as, Clear g b) (na : a ∉ as) (hS : SqL X.K H1 a xs) (hL : H1 L = none) (hA : ShwAll X k as H1 xs ts) (hz : base + (listText ts).length ≤ sizeLine)
    (hX : ∀ e s', X.xe e s' → R (.error e) s') (hR : ∀ s' H' u, Ex H1 H' → Inv X pins σ H' s' → R (.ok (.ret (.str (listText ts) u))) s') :
    ∀ (n i : Nat) (s : Shared) (H2 : Hp), xs.length - i = n → i ≤ xs.length → Inv X pins σ H2 s → Ex H1 H2 → H2 L = some (.lst ((ts.take i).map V.str)) →
      codeAny (model X.prog X.w) A (.builtin "list.__repr__.loop" ⟨[.ref a, rawInt i, .ref L, rawInt ((base + piled (ts.take i) : Nat) : Int)], []⟩) R s := by
  have hl := hA.len
  have pl := piled_le_listText ts
  have mem : ∀ t ∈ ts, t.length ≤ sizeLine := fun t m => Nat.le_trans (listText_mem_le m) (by omega)
  intro n
  induction n with
  | zero =>
    intro i s H2 hn hi I ex2 h2
    have ei : i = xs.length := by omega
    refine codeAny_builtin F.entry_list_repr_loop ?_
    show wpAny _ _ (Builtin.«list.__repr__.loop» ⟨[.ref a, .int (i : Int) 0, .ref L, .int ((base + piled (ts.take i) : Nat) : Int) 0], []⟩) _ _ s
    rw [repr_loop_tree]
    obtain ⟨its, hv, ⟨o, no, e1, _, _, e2⟩, _⟩ := I.list (ex2.sql hS)
    refine wpAny_bind (wpAny_listItems e1 e2 ?_)
    have hno : its.toArray[(i : Int).toNat]? = none := by
      have := hv.length
      simp
      omega
    simp only [hno]
    unfold reprEnd
    obtain ⟨_, pts, n2, hv2, hl2, e3⟩ := I.lstM h2
    refine wpAny_bind (wpAny_listItems e3 rfl ?_)
    obtain ⟨done, rfl, hd⟩ := strs_of hv2
    rw [show (strValues done).toArray.toList = strValues done from rfl, repr_fold]
    refine wpAny_bind (wpAny_pure ?_)
    rw [hd, ei, ← hl, List.take_length]
    refine wpAny_bind (wpAny_mkStr (wpAny_pure ?_) (show (listText ts).length ≤ sizeLine by omega))
    exact hR _ H2 _ ex2 (I.tok _)
  | succ n ih =>
    intro i s H2 hn hi I ex2 h2
    have lt : i < xs.length := by omega
    obtain ⟨t, ht, hsh⟩ := hA.at_ i xs[i] (by simp [lt])
    have p1 := piled_take_succ ht
    have p2 := piled_take_le ts (i + 1)
    refine codeAny_builtin F.entry_list_repr_loop ?_
    show wpAny _ _ (Builtin.«list.__repr__.loop» ⟨[.ref a, .int (i : Int) 0, .ref L, .int ((base + piled (ts.take i) : Nat) : Int) 0], []⟩) _ _ s
    rw [repr_loop_tree]
    obtain ⟨its, hv, ⟨o, no, e1, _, _, e2⟩, _⟩ := I.list (ex2.sql hS)
    refine wpAny_bind (wpAny_listItems e1 e2 ?_)
    obtain ⟨u, hu, ru⟩ := hv.get (i := i) (x := xs[i]) (by simp [lt])
    have hso : its.toArray[(i : Int).toNat]? = some u := by simpa using hu
    simp only [hso]
    rw [Int.toNat_natCast]
    refine wpAny_bind (wpAny_holding (wpAny_mono (hsh (base + piled (ts.take i) + 1) _ _ u pins σ s H2 _ (by omega) (ri.under (guardC_list _)) (fun b m => (cl b m).cons (a := a) fun e => na (e ▸ m)) ex2 I ru fun s3 H3 ex3 I3 => ?_) (fun _ _ z => z) hX))
    refine wpAny_bind (wpAny_mkStr ?_ (mem t (List.mem_of_getElem? ht)))
    refine wpAny_bind ?_
    show wpAny _ _ (updateSeq L _) _ _ _
    have h3 := ex3.get h2
    obtain ⟨_, pts, n2, hv2, hl2, e3⟩ := I3.lstM h3
    have lz : pts.length ≤ i := by
      rw [← hl2, List.length_map, List.length_take]
      omega
    have len := (textFrom_len ts 0 "[").1
    have lx : (listText ts).length = (textFrom 0 "[" ts).length + 1 := by
      unfold listText
      rw [strLen_append]
      rfl
    have xz : xs.length ≤ sizeLine := by
      rw [if_neg (Nat.lt_irrefl 0), hl] at len
      omega
    refine wpAny_updateSeq e3 rfl (wpAny_pure ⟨F.quiet_list_repr_loop _, ?_⟩) (by simp; omega) (by simp; omega)
    have q1 : ((i : Int) + 1) = ((i + 1 : Nat) : Int) := rfl
    have q2 : base + piled (ts.take i) + (t.length + 2) = base + piled (ts.take (i + 1)) := by omega
    rw [q1, q2]
    have tk : (ts.take (i + 1)).map V.str = (ts.take i).map V.str ++ [V.str t] := by
      rw [List.take_add_one, ht]
      simp
    have ne : ∀ b o, H1 b = some o → b ≠ L := fun b o q => ne_of_none q hL
    refine ih (i + 1) _ (upd H3 L (.lst ((ts.take (i + 1)).map V.str))) (by omega) lt (I3.lset (its' := pts ++ [.str t s3.toks]) h3 e3 (by simp) ?_ ?_) (fun b o q => ?_) upd_same
    · rw [tk]
      exact hv2.snoc ⟨_, rfl⟩
    · rw [List.length_map, List.length_take]
      omega
    · rw [upd_ne (ne b o q)]
      exact ex3 _ _ (ex2 _ _ q)
/-- a list's repr, from its head on -/
theorem shw_list {A : Around} {g : List Code} {a : Addr} {x : V} {xs : List V} {ts : List Str} {base : Nat} {pins : List (Addr × Obj)} {σ : L2.St} {R : Result → Shared → Prop} {s : Shared}
    (ri : Rin X (k + 1) A g) (cl : ∀ b ∈ a :: as, Clear g b) (na : a ∉ as) (hS : SqL X.K H a (x :: xs)) (hA : ShwAll X k as H (x :: xs) ts) (hz : base + (listText ts).length ≤ sizeLine) (I : Inv X pins σ H s)
    (hX : ∀ e s', X.xe e s' → R (.error e) s') (hR : ∀ s' H' u, Ex H H' → Inv X pins σ H' s' → R (.ok (.ret (.str (listText ts) u))) s') :
    wpAny (model X.prog X.w) A.in1 (Builtin.listReprAt base ⟨[.ref a], []⟩) (fun fin s' => match fin with
      | .done f => R (.ok f) s'
      | .again c' => c'.quiet = true ∧ codeAny (model X.prog X.w) A c' R s') (fun e s' => R (.error e) s') s := by
  obtain ⟨its, hv, ⟨o, no, e1, _, _, e2⟩, _⟩ := I.list hS
  cases hv with
  | cons r0 rs =>
    refine wpAny_list_repr_head (A := A.in1) ri.gd (fun v rest kw m => listSameRef_of_ne (cl a (List.mem_cons_self ..) _ _ _ _ m)) e1 e2 ?_
    refine wpAny_bind (m := newList []) (wpAny_newObj_type (wpAny_pure ⟨F.quiet_list_repr_loop _, ?_⟩))
    have J := I.lnew (ys := []) (its := []) (t' := s.toks) .nil (by decide)
    exact shw_loop (L := s.heap.objs.size) ri (fun b m => cl b (List.mem_cons_of_mem _ m)) na hS I.fresh hA hz hX hR _ 0 _ _ rfl (Nat.zero_le _) J (Ex.new I.fresh) (by rw [upd_same]; rfl)
theorem listText_0 : listText [] = ("[]" : Str) := by decide +kernel
/-- a list within something that is shown -/
theorem Shw.list {a : Addr} {xs : List V} {ts : List Str} (hS : SqL X.K H a xs) (hA : ShwAll X k as H xs ts) (na : a ∉ as) : Shw X (k + 1) (a :: as) H (.ref a) (listText ts) := by
  intro b A g u pins σ s H1 Q hz ri cl e1 I rv hQ
  obtain rfl : u = Value.ref a := rv
  have hS1 := e1.sql hS
  obtain ⟨its, hv, ⟨o, no, g1, g2, _, g3⟩, _⟩ := I.list hS1
  have hu := ri.rm.un
  refine wpAny_pyReprUnder_ref (by omega) ?_
  cases hA with
  | nil =>
    cases hv
    rw [listText_0] at hQ
    exact wpAny_pyReprObjUnder_list_empty ⟨o, g1, g2⟩ (by omega) g1 g3 ⟨_, _, rfl, hQ _ H1 (Ex.refl _) (I.tok _)⟩
  | cons h r =>
    refine wpAny_pyReprObjUnder_twin (twin := "list.__repr__.under") ⟨o, g1, g2⟩ F.slot_list_repr.toG rfl (by omega) ?_
    refine call_twin_plain F.plain_list_repr_under F.entry_list_repr_under F.check_list_repr_under ⟨o, g1, g2⟩ F.slot_list_repr.toG (F.args_list_repr_1 _) ?_
    exact shw_list ri cl na hS1 (ShwAll.ex e1 (.cons h r)) hz I (fun _ _ z => z) fun s' H' tk ex J => ⟨⟨_, _, rfl⟩, _, _, rfl, hQ s' H' ex J⟩
/-- the fold of a tuple's repr -/
theorem shw_fold {A : Around} {g : List Code} {pins : List (Addr × Obj)} {σ : L2.St} {H1 : Hp} (ri : Rin X k A g) (cl : ∀ b ∈ as, Clear g b) :
    ∀ (xs : List V) (ts : List Str) (us : List Value) (acc : Array Str) (n : Nat) (s : Shared) (H2 : Hp) (Q : (Array Str × Nat) → Shared → Prop), ShwAll X k as H1 xs ts → Vals xs us → n + piled ts ≤ sizeLine → Ex H1 H2 → Inv X pins σ H2 s →
      (∀ s' H3, Ex H2 H3 → Inv X pins σ H3 s' → Q ⟨acc ++ ts.toArray, n + piled ts⟩ s') → wpAny (model X.prog X.w) A (forIn us (⟨acc, n⟩ : (Array Str × Nat)) tupBody) Q X.xe s := by
  intro xs
  induction xs with
  | nil =>
    intro ts us acc n s H2 Q hA hv hn ex I hQ
    cases hA
    cases hv
    rw [List.forIn_nil]
    have z := hQ s H2 (Ex.refl _) I
    exact wpAny_pure (by simpa [piled] using z)
  | cons x xs ih =>
    intro ts us acc n s H2 Q hA hv hn ex I hQ
    cases hA with
    | cons h r =>
      rename_i t ts
      cases hv with
      | cons ru rv =>
        rw [piled_cons] at hn
        rw [List.forIn_cons]
        refine wpAny_bind (wpAny_bind (h (n + 1) A g _ pins σ s H2 _ (by omega) ri cl ex I ru fun s3 H3 ex3 I3 => wpAny_pure ?_))
        refine ih ts _ (acc.push t) (n + (t.length + 2)) s3 H3 Q r rv (by omega) (ex.trans ex3) I3 fun s4 H4 ex4 I4 => ?_
        have z := hQ s4 H4 (ex3.trans ex4) I4
        rw [piled_cons] at z
        simpa [Nat.add_assoc] using z
/-- a tuple's repr -/
theorem shw_tuple {A : Around} {g : List Code} {a : Addr} {xs : List V} {ts : List Str} {base : Nat} {pins : List (Addr × Obj)} {σ : L2.St} {R : Result → Shared → Prop} {s : Shared} {id : String} {rest : List Value}
    (gc : GuardC (.builtin id ⟨.ref a :: rest, []⟩)) (ri : Rin X (k + 1) A g) (cl : ∀ b ∈ a :: as, Clear g b) (na : a ∉ as) (hS : SqT X.K H a xs) (hA : ShwAll X k as H xs ts) (hz : base + (tupleText ts).length ≤ sizeLine) (I : Inv X pins σ H s)
    (hX : ∀ e s', X.xe e s' → R (.error e) s') (hR : ∀ s' H' u, Ex H H' → Inv X pins σ H' s' → R (.ok (.ret (.str (tupleText ts) u))) s') :
    wpOwn (model X.prog X.w) A (.builtin id ⟨.ref a :: rest, []⟩) (Builtin.tupleReprAt base ⟨[.ref a], []⟩) (fun fin s' => match fin with
      | .done f => R (.ok f) s'
      | .again c' => c'.quiet = true ∧ codeAny (model X.prog X.w) A c' R s') (fun e s' => R (.error e) s') s := by
  obtain ⟨its, hv, ⟨o, e1, _, no, e2⟩, _⟩ := I.tuple hS
  have hl := hA.len
  have lv := hv.length
  have pl := piled_le_tupleText ts
  rw [tuple_repr_tree, tupleReprUnderWay_eq]
  refine wpOwn_bind (wpOwn_stackTailAny ri.gd (tupGuardF_off _) (tupGuardF_pos _) ?_)
  have off : (g.any fun c => tupGuardF (.ref a) (c, default)) = false := List.any_eq_false.mpr fun c m => by
    rw [tupGuardF_of_clear (cl a (List.mem_cons_self ..)) c m]
    exact Bool.false_ne_true
  rw [off]
  refine wpOwn_of_wpAny ?_
  show wpAny _ _ (tupleReprRest base (.ref a)) _ _ s
  unfold tupleReprRest Builtin.Tuple.tupleItemsOf
  refine wpAny_bind (wpAny_bind (wpAny_seqItems e1 e2 (wpAny_pure ?_)))
  rw [← Array.forIn_toList]
  refine wpAny_bind (wpAny_mono (shw_fold (ri.under gc) (fun b m => (cl b (List.mem_cons_of_mem _ m)).cons (a := a) fun e => na (e ▸ m)) xs ts its #[] base s H _ hA hv (by omega) (Ex.refl _) I fun s3 H3 ex3 I3 => ?_) (fun _ _ z => z) hX)
  have hlen : its.toArray.size = ts.length := by simp; omega
  have te : (("(" : Str) ++ Str.join ", " ts ++ (if its.toArray.size == 1 then ",)" else ")" : String)) = tupleText ts := by
    rw [hlen]
    rfl
  simp only [List.nil_append, Array.empty_append, List.toList_toArray, Array.toList_append] at *
  rw [te]
  refine wpAny_bind (wpAny_mkStr (wpAny_pure ?_) (by omega))
  exact hR _ H3 _ ex3 (I3.tok _)
theorem Shw.tup {a : Addr} {xs : List V} {ts : List Str} (hS : SqT X.K H a xs) (hA : ShwAll X k as H xs ts) (na : a ∉ as) : Shw X (k + 1) (a :: as) H (.ref a) (tupleText ts) := by
  intro b A g u pins σ s H1 Q hz ri cl e1 I rv hQ
  obtain rfl : u = Value.ref a := rv
  have hS1 := e1.sqt hS
  obtain ⟨its, hv, ⟨o, g1, g2, no, g3⟩, _⟩ := I.tuple hS1
  have hu := ri.rm.un
  refine wpAny_pyReprUnder_ref (by omega) ?_
  refine wpAny_pyReprObjUnder_twin (twin := "tuple.__repr__.under") ⟨o, g1, g2⟩ F.slot_tuple_repr rfl (by omega) ?_
  refine call_twin_own (F.quiet_tuple_repr_under _) F.entry_tuple_repr_under F.check_tuple_repr_under ⟨o, g1, g2⟩ F.slot_tuple_repr (F.args_tuple_repr_1 _) ?_
  exact shw_tuple (guardC_tupU _) ri cl na hS1 (hA.ex e1) hz I (fun _ _ z => z) fun s' H' tk ex J => ⟨⟨_, _, rfl⟩, _, _, rfl, hQ s' H' ex J⟩
end
section
variable {X : Cx} {CX : CXT} {k : Nat} {C f : Addr} {fd : FuncData} {ps : List Str} {sp : Sp} {E : XK} {H : Hp} {t : Str}
theorem ifBoundBy_o {M : Model} {A : Around} {Ex : Value → Shared → Prop} {K : PySem.W.Frag} {s : Shared} {x : Addr} {ox : Obj} {od : Option Obj} {name : Str} {last : Value → List Value → Sem Value} {Q : Option Value → Shared → Prop} (KX : K.In s.heap) (I : PySem.W.InstAt s.heap x ox C od)
    (hs : PySem.W.findIn K (.ref C) name = some (some (.ref f))) (hf : PySem.W.isFn K (.ref f) = true) (h : wpAny M A (last (.ref f) [.ref x]) (fun v => Q (some v)) Ex s) : wpAny M A (callSpecialIfBoundBy? last (.ref x) name) Q Ex s := by
  simp only [callSpecialIfBoundBy?, bindSpecialIfBound?]
  refine wpAny_holding (wpAny_bind (wpAny_bind (wpAny_bind (I.type.here ((PySem.W.looks_findIn KX hs).here ?_)))))
  refine wpAny_bind (wpAny_askSetting (wpAny_ite ?_))
  have fin : wpAny M A (last (.ref f) [.ref x] >>= fun v => pure (some v)) Q Ex s := wpAny_bind (wpAny_mono h (fun v s' h' => wpAny_pure h') fun _ _ h' => h')
  split
  · exact wpAny_bind ((PySem.W.bind_fn KX _ (beq_iff_eq.mp hf)).here (wpAny_pure (by exact fin)))
  · exact wpAny_tryCatch (wpAny_bind ((PySem.W.bind_fn KX _ (beq_iff_eq.mp hf)).here (wpAny_pure (by exact fin))))
/-- an own instance, by its own __repr__ -/
structure Own (X : Cx) (CX : CXT) (k : Nat) (C f : Addr) (fd : FuncData) (ps : List Str) (sp : Sp) (E : XK) : Prop where
  hs : PySem.W.findIn X.K (.ref C) "__repr__" = some (some (.ref f))
  hf : PySem.W.isFn X.K (.ref f) = true
  F : FnOk X.prog X.w X.K X.mg X.base CX k f fd ps sp
  hb : Binds X.K fd ps []
  hx : Passes CX X E
theorem Shw.own {a dx : Addr} {fs : List (Str × V)} (O : Own X CX k C f fd ps sp E) (ha : H a = some (.ins C dx fs)) (h : ∀ H1, Ex H H1 → sp [.ref a] H1 (fun v H2 => v = .str t ∧ Ex H1 H2) E) : Shw X k [] H (.ref a) t := by
  intro b A g u pins σ s H1 Q hz ri cl e1 I rv hQ
  obtain rfl : u = Value.ref a := rv
  obtain ⟨ox, od, i1⟩ := ins_look I (e1.get ha)
  have hu := ri.rm.un
  refine wpAny_pyReprUnder_ref (by omega) ?_
  unfold pyReprObjUnder pyReprObjBy
  refine wpAny_bind (wpAny_cRoomFor (by omega) ?_)
  refine wpAny_bind (wpAny_bind (i1.type.here ((PySem.W.looks_findIn I.kIn O.hs).here ?_)))
  refine wpAny_bind (ifBoundBy_o (name := Str.ofString "__repr__") I.kIn i1 O.hs O.hf ?_)
  refine wpAny_mono (run_in (vs := [.ref a]) O.F ri.rm (env0_at I.env0 ri.fr) O.hb O.hx I (.cons rfl .nil) (h H1 e1)) (fun v s' hv => ?_) fun _ _ z => z
  obtain ⟨y, H', I', ry, rfl, ex⟩ := hv
  obtain ⟨tk, rfl⟩ := ry
  exact wpAny_bind (wpAny_isInstance (T := "str") (b := true) rfl isSubtype_str_str (wpAny_pure ⟨t, tk, rfl, hQ s' H' ex I'⟩))
end
/-- repr(x), asked in X -/
def ShwT (X : Cx) (H : Hp) (x : V) (t : Str) : Prop := ∀ (u : Value) (pins : List (Addr × Obj)) (σ : L2.St) (s : Shared) (Q : Value → Shared → Prop), Inv X pins σ H s → RelV x u → (∀ s' H' tk, Ex H H' → Inv X pins σ H' s' → Q (.str t tk) s') →
  wpAny (model X.prog X.w) X.A (call (.builtin "repr") [u]) Q X.xe s
def rReprS (X : Cx) : RC := fun xs H Q => ∃ x t, xs = [x] ∧ ShwT X H x t ∧ ∀ H', Ex H H' → Q (.str t) H'
theorem call_reprS {X : Cx} : CallR X (.builtin "repr") (rReprS X) := by
  intro pins s σ H xs us Q I r h
  obtain ⟨x, t, rfl, hs, q⟩ := h
  obtain ⟨u, rfl, ru⟩ := vals1 r
  exact hs u pins σ s _ I ru fun s' H' tk ex J => ⟨.str t, H', J, ⟨tk, rfl⟩, q H' ex⟩
theorem r_reprS {X : Cx} {H : Hp} {Q : VK} {x : V} {t : Str} (h : ShwT X H x t) (k : ∀ H', Ex H H' → Q (.str t) H') : rReprS X [x] H Q := ⟨x, t, rfl, h, k⟩
section
variable {X : Cx} {k : Nat} {as : List Addr} {H : Hp} {a : Addr} {xs : List V} {ts : List Str}
theorem ShwT.list (hG : X.A.guards = some []) (hr : Room (k + 2) X.A) (hS : SqL X.K H a xs) (hA : ShwAll X k as H xs ts) (na : a ∉ as) (hz : (listText ts).length ≤ sizeLine) : ShwT X H (.ref a) (listText ts) := by
  intro u pins σ s Q I rv hQ
  obtain rfl : u = Value.ref a := rv
  obtain ⟨its, hv, ⟨o, no, g1, g2, _, g3⟩, _⟩ := I.list hS
  have hu := hr.un
  refine call_repr_slot (by omega) ⟨o, g1, g2⟩ F.slot_list_repr.toG ?_
  cases hA with
  | nil =>
    cases hv
    rw [listText_0] at hQ
    exact call_list_repr_empty ⟨o, g1, g2⟩ g1 g3 ⟨_, _, rfl, hQ _ H _ (Ex.refl _) (I.tok _)⟩
  | cons h r =>
    refine wpAny_call (codeAny_call_builtin F.slot_list_repr.plain F.entry_list_repr (F.slot_list_repr.check _ _ _ _ _ _ _ _ ⟨o, g1, g2⟩ (F.args_list_repr_1 _) ?_))
    exact shw_list (base := 0) (A := X.A.in1) (g := []) (R := callEnd (fun r s1 => ∃ x t, r = .str x t ∧ Q r s1) X.xe) ⟨rfl, hG, Room.in1 hr⟩ (fun b _ => Clear.nil b) na hS (.cons h r) (by omega) I (fun _ _ z => z) fun s' H' tk ex J => ⟨_, _, rfl, hQ s' H' tk ex J⟩
theorem ShwT.tup (hG : X.A.guards = some []) (hr : Room (k + 2) X.A) (hS : SqT X.K H a xs) (hA : ShwAll X k as H xs ts) (na : a ∉ as) (hz : (tupleText ts).length ≤ sizeLine) : ShwT X H (.ref a) (tupleText ts) := by
  intro u pins σ s Q I rv hQ
  obtain rfl : u = Value.ref a := rv
  obtain ⟨its, hv, ⟨o, g1, g2, no, g3⟩, _⟩ := I.tuple hS
  have hu := hr.un
  refine call_repr_slot (by omega) ⟨o, g1, g2⟩ F.slot_tuple_repr ?_
  refine wpAny_call (codeAny_call_builtin_own (Code.quiet_builtin _ (by decide +kernel)) F.entry_tuple_repr (F.slot_tuple_repr.check _ _ _ _ _ _ _ _ ⟨o, g1, g2⟩ (F.args_tuple_repr_1 _) ?_))
  exact shw_tuple (base := 0) (A := X.A.in1) (g := []) (R := callEnd (fun r s1 => ∃ x t, r = .str x t ∧ Q r s1) X.xe) (guardC_tup _) ⟨rfl, hG, Room.in1 hr⟩ (fun b _ => Clear.nil b) na hS hA (by omega) I (fun _ _ z => z) fun s' H' tk ex J => ⟨_, _, rfl, hQ s' H' tk ex J⟩
theorem ShwT.own {CX : CXT} {C f dx : Addr} {fd : FuncData} {ps : List Str} {sp : Sp} {E : XK} {fs : List (Str × V)} {t : Str} (hr : Room (k + 1) X.A) (O : Own X CX k C f fd ps sp E) (ha : H a = some (.ins C dx fs)) (h : sp [.ref a] H (fun v H2 => v = .str t ∧ Ex H H2) E) : ShwT X H (.ref a) t := by
  intro u pins σ s Q I rv hQ
  obtain rfl : u = Value.ref a := rv
  obtain ⟨ox, od, i1⟩ := ins_look I ha
  have hu := hr.un
  refine Calls.call_function_entry F.kind_repr F.plain_repr F.entry_repr (F.args_repr1 _) ?_
  unfold Builtin.«repr»
  refine wpAny_bind (m := oneArg "repr" _) (wpAny_pure ?_)
  refine wpAny_bind (m := cRoomFor _ _) (wpAny_cRoomFor (show X.A.units + 1 < cLine by omega) ?_)
  refine wpAny_bind (wpAny_bind (i1.type.here ((PySem.W.looks_findIn I.kIn O.hs).here ?_)))
  refine wpAny_bind (m := callSpecialIfBoundBy? (fun g first => call g (first ++ [])) (.ref a) (Str.ofString "__repr__")) (ifBoundBy_o (name := Str.ofString "__repr__") I.kIn i1 O.hs O.hf ?_)
  refine wpAny_mono (run_in (vs := [.ref a]) O.F (Room.in1 hr) I.env0.in1 O.hb O.hx I (.cons rfl .nil) h) (fun v s' hv => ?_) fun _ _ z => z
  obtain ⟨y, H', I', ry, rfl, ex⟩ := hv
  obtain ⟨tk, rfl⟩ := ry
  exact wpAny_bind (wpAny_isInstance (T := "str") (b := true) rfl isSubtype_str_str (wpAny_pure ⟨_, rfl, hQ s' H' tk ex I'⟩))
end
end Z
namespace Z
open PySem PySem.Spec PyProof.Rows L2
/-! f-strings -/
def tJoin (ts : List TE) : TE := fun σ H Q => tJs ts Str.empty σ H fun out H1 => Q (.str out) H1
theorem pe_joinS {X : Cx} {v1 v2 : Expr} {rest : List Expr} {ts : List TE} {pos : Pos} (h : PJ X (v1 :: v2 :: rest) ts) : PE X (.JoinedStr (v1 :: v2 :: rest) pos) (tJoin ts) := pe_joined h
def JsP (ts : List TE) (acc : Str) (σ : L2.St) (QS : Str → Hp → Prop) : VK := fun x H1 => ∃ y : Str, x = .str y ∧ (acc ++ y).length ≤ sizeLine ∧ tJs ts (acc ++ y) σ H1 QS
def FmtP (Q : VK) : VK := fun x H1 => (∃ y : Str, x = .str y ∧ y.length ≤ sizeLine ∧ Q (.str y) H1) ∨ ∃ i : Int, x = .int i ∧ i.natAbs.log2 < 1920 ∧ Q (.str (toString i)) H1
section
variable {K : PySem.W.Frag} {σ : L2.St} {H : Hp} {Q : VK} {QS : Str → Hp → Prop} {acc z : Str} {te t : TE} {ts : List TE}
theorem s_join (k : tJs ts Str.empty σ H fun out H1 => Q (.str out) H1) : tJoin ts σ H Q := k
theorem js_nil (k : QS acc H) : tJs [] acc σ H QS := k
theorem js_cons (k : t σ H (JsP ts acc σ QS)) : tJs (t :: ts) acc σ H QS := k
theorem v_js (h : (acc ++ z).length ≤ sizeLine) (k : tJs ts (acc ++ z) σ H QS) : JsP ts acc σ QS (.str z) H := ⟨z, rfl, h, k⟩
theorem s_fmt (k : te σ H (FmtP Q)) : tFmt te σ H Q := k
theorem v_fmtI {i : Int} (h : i.natAbs.log2 < 1920) (k : Q (.str (toString i)) H) : FmtP Q (.int i) H := .inr ⟨i, rfl, h, k⟩
theorem v_fmtS (h : z.length ≤ sizeLine) (k : Q (.str z) H) : FmtP Q (.str z) H := .inl ⟨z, rfl, h, k⟩
theorem r_eqSS {s : Str} (k : Q (.bl true) H) : rEq (.str s) (.str s) H Q := ⟨rfl, by simpa using k⟩
theorem r_neSS {s : Str} (k : Q (.bl false) H) : rNe (.str s) (.str s) H Q := ⟨rfl, by simpa using k⟩
theorem r_eqS {s t : Str} (k : Q (.bl (decide (s = t))) H) : rEq (.str s) (.str t) H Q := ⟨rfl, by
  have e : decide (V.str s = V.str t) = decide (s = t) := by
    by_cases h : s = t
    · subst h
      simp
    · rw [decide_eq_false h, decide_eq_false fun q => h (V.str.inj q)]
  rw [e]
  exact k⟩
theorem r_neS {s t : Str} (k : Q (.bl (!decide (s = t))) H) : rNe (.str s) (.str t) H Q := ⟨rfl, by
  have e : decide (V.str s = V.str t) = decide (s = t) := by
    by_cases h : s = t
    · subst h
      simp
    · rw [decide_eq_false h, decide_eq_false fun q => h (V.str.inj q)]
  rw [e]
  exact k⟩
end
/-! two rules for one operator -/
def rOr (r r' : R2) : R2 := fun x y H Q => r x y H Q ∨ r' x y H Q
theorem op_or2 {X : Cx} {f : Value → Value → Sem Value} {r r' : R2} (h : OpR X f r) (h' : OpR X f r') : OpR X f (rOr r r') := fun pins s σ H x y v u Q I rx ry q => q.elim (h pins s σ H x y v u Q I rx ry) (h' pins s σ H x y v u Q I rx ry)
theorem ip_or2 {X : Cx} {op : Operator} {r r' : R2} (h : PIp X op r) (h' : PIp X op r') : PIp X op (rOr r r') := fun pins s σ H x y v u Q I rx ry q => q.elim (h pins s σ H x y v u Q I rx ry) (h' pins s σ H x y v u Q I rx ry)
/-- a word and an operand of either kind -/
theorem r_woW {C : Addr} {sp : Sp} {E : XK} {H : Hp} {Q : VK} {a : Addr} {y : V} {w v n : Int} (ha : IsW C H a w v) (ho : Opd C H w y n) (k : sp [.ref a, y] H Q E) : rOr (rOO C sp E) (rOI C sp E) (.ref a) y H Q := by
  rcases ho with ⟨b, rfl, hb⟩ | ⟨rfl, hn⟩
  · exact .inl (r_ooW ha hb k)
  · exact .inr (r_oiW ha k)
theorem opd_int {C : Addr} {H : Hp} {w n : Int} (h : InW w n) : Opd C H w (.int n) n := .inr ⟨rfl, h⟩
/-! the text of a word -/
def wT (w v : Int) : Str := ((((Str.empty ++ ("Word(" : Str)) ++ (toString w : Str)) ++ (", " : Str)) ++ (toString v : Str)) ++ (")" : Str)
theorem tok_len {i : Int} (h0 : 0 ≤ i) (h : i < 2 ^ 64) : ((toString i : String) : Str).length ≤ 20 := toString_length_le h0 (by decide) (by omega)
theorem log_64 {i : Int} (h0 : 0 ≤ i) (h : i < 2 ^ 64) : i.natAbs.log2 < 1920 := by
  have h2 : i.natAbs < 2 ^ 64 := by omega
  by_cases hz : i.natAbs = 0
  · rw [hz]
    decide
  · exact Nat.lt_trans ((Nat.log2_lt hz).mpr h2) (by decide)
theorem wT_len {w v : Int} (h : InW w v) : (wT w v).length ≤ 60 := by
  obtain ⟨h1, h2, h3, h4⟩ := h
  have t := topI_lt h2
  have a := tok_len (i := w) (by omega) (by omega)
  have b := tok_len (i := v) h3 (by omega)
  have e1 : (("Word(" : String) : Str).length = 5 := rfl
  have e2 : ((", " : String) : Str).length = 2 := rfl
  have e3 : ((")" : String) : Str).length = 1 := rfl
  have e0 : Str.empty.length = 0 := rfl
  unfold wT
  rw [strLen_append, strLen_append, strLen_append, strLen_append, strLen_append]
  omega
theorem listText_le (ts : List Str) (m : Nat) (h : ∀ t ∈ ts, t.length ≤ m) : (listText ts).length ≤ ts.length * (m + 2) + 3 := by
  have e := listText_len_le ts
  have q : (ts.map fun t => t.length).sum ≤ ts.length * m := by
    clear e
    induction ts with
    | nil => simp
    | cons t ts ih =>
      have h1 := h t (by simp)
      have h2 := ih fun u hu => h u (by simp [hu])
      simp only [List.map_cons, List.sum_cons, List.length_cons, Nat.succ_mul]
      omega
  rw [Nat.mul_add]
  omega
/-- words one behind the other, shown -/
theorem shw_words {X : Cx} {CX : CXT} {k : Nat} {C f : Addr} {fd : FuncData} {ps : List Str} {E : XK} {H : Hp} {w v : Int} {a : Addr} (O : Own X CX k C f fd ps (spWP C fun w v => .str (wT w v)) E) (h : IsW C H a w v) : Shw X k [] H (.ref a) (wT w v) :=
  .own O h.2.choose_spec fun H1 e => ⟨a, w, v, rfl, h.ex e, rfl, Ex.refl _⟩
def spInPl (C : Addr) : Sp := fun vs H Q _ => ∃ a y w v n, vs = [.ref a, y] ∧ IsW C H a w v ∧ Opd C H w y n ∧ ∀ l x1 x2 H', Ex H H' → H' l = some (.lst [.ref x1, .ref x2]) → IsW C H' x1 w (osum w v n) → IsW C H' x2 w (osum w v (topI w - n)) → Q (.ref l) H'
def spApart (C : Addr) : Sp := fun vs H Q _ => ∃ a y w v n, vs = [.ref a, y] ∧ IsW C H a w v ∧ Opd C H w y n ∧ ∀ H', Ex H H' → Q (.bl true) H'
end Z

/-! Z: a += b of own instances whose class has no __iadd__ or its like -/
namespace Z
open PySem PySem.Spec PyProof.Rows L2
section
variable {prog : Program} {w : World} {M : Model} {A : Around} {E : Value → Shared → Prop} {s : Shared} {K : PySem.W.Frag} {x C f : Addr} {ox : Obj} {od : Option Obj} {nm : String}
theorem no_inplace {h : Heap} {cd : ClassData} {add : Bool} (X : K.In h) (hc : PySem.W.clsIn K C = some cd) (hm : cd.mro = [.ref C, .type "object"]) (h1 : PySem.W.findIn K (.ref C) (dunderI nm) = some none) (h2 : PySem.W.findIn K (.type "object") (dunderI nm) = some none) :
    PySem.W.Looks M h (fillsInplaceSlot (.ref C) nm add) false := by
  intro A Q E s k q
  unfold fillsInplaceSlot
  refine wpAny_bind ((PySem.W.looks_clsIn X hc).andThen (f := fun cd => pure cd.mro) .now A _ E s k ?_)
  rw [hm, List.anyM_cons]
  refine wpAny_bind (wpAny_bind (PySem.W.looks_findIn X h1 A _ E s k (wpAny_pure ?_)))
  rw [List.anyM_cons]
  refine wpAny_bind (wpAny_bind (PySem.W.looks_findIn X h2 A _ E s k (wpAny_pure ?_)))
  rw [List.anyM_nil]
  exact wpAny_pure q
theorem bin1_oo {cd : ClassData} {rest : List Value} {b : Value} {Q : Value → Shared → Prop} (X : K.In s.heap) (I : PySem.W.InstAt s.heap x ox C od) (hb : PySem.W.Looks M s.heap (typeOf b) (.ref C)) (hcd : PySem.W.clsIn K C = some cd) (hm : cd.mro = .ref C :: rest)
    (hs : PySem.W.findIn K (.ref C) (PySem.dunder nm) = some (some (.ref f))) (hf : PySem.W.isFn K (.ref f) = true) (h : wpAny M A (call (.ref f) [.ref x, b]) (PySem.W.CmpBack Q) E s) :
    wpAny M A (binaryOp1 nm (.ref x) b) (fun r s' => ∃ v, r = some v ∧ Q v s') E s := by
  unfold binaryOp1
  refine wpAny_bind (I.type.here (wpAny_bind (hb.here (wpAny_bind ((PySem.W.fills_K X hcd hm hs).here ?_)))))
  simp only [beq_self_eq_true, if_true]
  refine wpAny_bind (wpAny_pure ?_)
  simp only [Bool.and_false, Bool.false_eq_true, if_false, Bool.false_and]
  refine wpAny_bind (wpAny_pure ?_)
  simp only [Bool.false_eq_true, if_false]
  refine wpAny_bind (m := tryMethod (.ref x) _ b) (wpAny_mono (PySem.W.ksp_try X I hs hf h) (fun r s' hr => ?_) fun _ _ e => e)
  obtain ⟨v, rfl, hq⟩ := hr
  exact wpAny_pure ⟨v, rfl, hq⟩
theorem bin1_oi {b : Value} {T : String} {fo ro rc : Option Value} {Q : Value → Shared → Prop} (X : K.In s.heap) (I : PySem.W.InstAt s.heap x ox C od) (hb : typeOf b = pure (.type T)) (hc : PySem.W.selfFirst K C = true)
    (hs : PySem.W.findIn K (.ref C) (PySem.dunder nm) = some (some (.ref f))) (hf : PySem.W.isFn K (.ref f) = true) (hr : PySem.W.findIn K (.ref C) (dunderR nm) = some rc) (hp : rc = none ∨ ∃ g : Addr, rc = some (.ref g))
    (h1 : PySem.W.findIn K (.type T) (PySem.dunder nm) = some fo) (h2 : PySem.W.findIn K (.type T) (dunderR nm) = some ro) (hsub : PySem.W.subIn K (.type T) (.ref C) = some false)
    (h : wpAny M A (call (.ref f) [.ref x, b]) (PySem.W.CmpBack Q) E s) : wpAny M A (binaryOp1 nm (.ref x) b) (fun r s' => ∃ v, r = some v ∧ Q v s') E s := by
  obtain ⟨cd, rest, hcd, hm⟩ := PySem.W.ksp_first hc
  have one := PySem.W.ksp_try X I hs hf h
  obtain ⟨hh, g, d, tt, os⟩ := s
  have L1 : PySem.W.Looks M hh (typeOf (.ref x)) (.ref C) := I.type
  have L2 : PySem.W.Looks M hh (typeOf b) (.type T) := PySem.W.Looks.of_pure hb
  have L3 : PySem.W.Looks M hh (fillsNumberSlot (.ref C) nm) true := PySem.W.fills_K X hcd hm hs
  have L4 : PySem.W.Looks M hh (fillsNumberSlot (.type T) nm) ((fo.isSome && !isSeqSlot fo) || (ro.isSome && !isSeqSlot ro)) := PySem.W.ksp_fillsT X h1 h2
  have L5 : PySem.W.Looks M hh (isSubtype (.type T) (.ref C)) false := PySem.W.looks_subIn X hsub
  have L6 : PySem.W.Looks M hh (numberSlotInPython (.ref C) nm) true := PySem.W.ksp_inPy X hs hr hp
  have L7 : PySem.W.Looks M hh (numberSlotInPython (.type T) nm) false := PySem.W.Looks.of_pure rfl
  have L8 : PySem.W.Looks M hh (typeLookup (.type T) (dunderR nm)) ro := PySem.W.looks_findIn X h2
  generalize ((fo.isSome && !isSeqSlot fo) || (ro.isSome && !isSeqSlot ro)) = right at L4
  have ne : (Value.ref C == Value.type T) = false := Bool.eq_false_iff.mpr fun q => nomatch beq_iff_eq.mp q
  unfold binaryOp1
  refine wpAny_bind (L1.at (wpAny_bind (L2.at (wpAny_bind (L3.at ?_)))))
  simp only [ne, Bool.false_eq_true, if_false]
  cases right with
  | false =>
    ksp_lk
    refine wpAny_mono one (fun r s' hr' => ?_) fun _ _ e => e
    obtain ⟨v, rfl, hq⟩ := hr'
    exact wpAny_pure ⟨v, rfl, hq⟩
  | true =>
    ksp_lk
    refine wpAny_mono one (fun r s' hr' => ?_) fun _ _ e => e
    obtain ⟨v, rfl, hq⟩ := hr'
    exact wpAny_pure ⟨v, rfl, hq⟩
theorem in_of {op : Operator} {a b : Value} {ta : Value} {Q : Value → Shared → Prop} (ht : PySem.W.Looks M s.heap (typeOf a) ta) (hf : PySem.W.Looks M s.heap (fillsInplaceSlot ta op.info.2 (op == .Add)) false)
    (h : wpAny M A (binaryOp1 op.info.2 a b) (fun r s' => ∃ v, r = some v ∧ Q v s') E s) : wpAny M A (inplaceOp op a b) Q E s := by
  unfold inplaceOp
  refine wpAny_holding (wpAny_bind (ht.here (wpAny_bind (hf.here ?_))))
  simp only [Bool.false_eq_true, if_false]
  refine wpAny_bind (wpAny_mono h (fun r s' hr => ?_) fun _ _ e => e)
  obtain ⟨v, rfl, hq⟩ := hr
  exact wpAny_pure hq
end
/-- the class has no operator in place of this name -/
structure NoIn (K : PySem.W.Frag) (C : Addr) (nm : String) : Prop where
  mr : (PySem.W.clsIn K C).map (·.mro) = some [.ref C, .type "object"]
  h1 : PySem.W.findIn K (.ref C) (dunderI nm) = some none
  h2 : PySem.W.findIn K (.type "object") (dunderI nm) = some none
theorem NoIn.cd {K : PySem.W.Frag} {C : Addr} {nm : String} (n : NoIn K C nm) : ∃ cd, PySem.W.clsIn K C = some cd ∧ cd.mro = [.ref C, .type "object"] := by
  have h := n.mr
  cases q : PySem.W.clsIn K C with
  | none =>
    rw [q] at h
    cases h
  | some cd =>
    rw [q] at h
    exact ⟨cd, rfl, Option.some.inj h⟩
section
variable {X : Cx} {CX : CXT} {k : Nat} {C f : Addr} {fd : FuncData} {ps : List Str} {sp : Sp} {E : XK}
theorem ip_oo {op : Operator} (n : NoIn X.K C op.info.2) (hs : PySem.W.findIn X.K (.ref C) (PySem.dunder op.info.2) = some (some (.ref f))) (hf : PySem.W.isFn X.K (.ref f) = true)
    (F : FnOk X.prog X.w X.K X.mg X.base CX k f fd ps sp) (hr : Room k X.A) (hb : Binds X.K fd ps []) (hx : Passes CX X E) : PIp X op (rOO C sp E) := by
  intro pins s σ H x y v u Q I rx ry h
  obtain ⟨a, b, dx, dy, fs, gs, rfl, rfl, ha, hb2, hsp⟩ := h
  obtain rfl : v = Value.ref a := rx
  obtain rfl : u = Value.ref b := ry
  obtain ⟨ox, od, i1⟩ := ins_look I ha
  obtain ⟨oy, oe, i2⟩ := ins_look I hb2
  obtain ⟨cd, hcd, hm⟩ := n.cd
  exact in_of i1.type (no_inplace I.kIn hcd hm n.h1 n.h2) (bin1_oo I.kIn i1 i2.type hcd hm hs hf (wpAny_mono (run_fn (vs := [.ref a, .ref b]) F hr hb .nil hx I (.cons rfl (.cons rfl .nil)) (by simpa using hsp)) (fun _ _ q => back_of q) fun _ _ q => q))
theorem ip_oi {op : Operator} {rc : Option Value} (n : NoIn X.K C op.info.2) (hc : PySem.W.selfFirst X.K C = true) (hs : PySem.W.findIn X.K (.ref C) (PySem.dunder op.info.2) = some (some (.ref f))) (hf : PySem.W.isFn X.K (.ref f) = true)
    (hr2 : PySem.W.findIn X.K (.ref C) (dunderR op.info.2) = some rc) (hp : rc = none ∨ ∃ g : Addr, rc = some (.ref g)) (h1 : (PySem.W.findIn X.K (.type "int") (PySem.dunder op.info.2)).isSome = true) (h2 : (PySem.W.findIn X.K (.type "int") (dunderR op.info.2)).isSome = true)
    (hsub : PySem.W.subIn X.K (.type "int") (.ref C) = some false)
    (F : FnOk X.prog X.w X.K X.mg X.base CX k f fd ps sp) (hr : Room k X.A) (hb : Binds X.K fd ps []) (hx : Passes CX X E) : PIp X op (rOI C sp E) := by
  intro pins s σ H x y v u Q I rx ry h
  obtain ⟨a, m, dx, fs, rfl, rfl, ha, hsp⟩ := h
  obtain rfl : v = Value.ref a := rx
  obtain ⟨t, rfl⟩ : ∃ t, u = Value.int m t := ry
  obtain ⟨ox, od, i1⟩ := ins_look I ha
  obtain ⟨cd, hcd, hm⟩ := n.cd
  exact in_of i1.type (no_inplace I.kIn hcd hm n.h1 n.h2) (bin1_oi I.kIn i1 rfl hc hs hf hr2 hp (Option.isSome_iff_exists.mp h1).choose_spec (Option.isSome_iff_exists.mp h2).choose_spec hsub (wpAny_mono (run_fn (vs := [.ref a, .int m]) F hr hb .nil hx I (.cons rfl (.cons ⟨t, rfl⟩ .nil)) (by simpa using hsp)) (fun _ _ q => back_of q) fun _ _ q => q))
end
end Z

/-! Z: lambdas without parameters handed to a def: heaps with tables of code, facts, the end of a law -/
namespace Z
open PySem PySem.Spec PyProof.Rows L2 LamX
def isTbl : HO → Bool
  | .tbl _ => true
  | _ => false
/-- all but tables of code stays -/
def Tx (H H' : Hp) : Prop := ∀ a o, H a = some o → isTbl o = false → H' a = some o
section
variable {H H' H1 H2 : Hp} {a l : Addr} {o : HO} {K : PySem.W.Frag} {xs : List V} {T : List (Addr × Str)}
theorem Tx.refl (H : Hp) : Tx H H := fun _ _ h _ => h
theorem Tx.trans (x : Tx H H1) (y : Tx H1 H2) : Tx H H2 := fun a o h n => y a o (x a o h n) n
theorem Ex.tx (e : Ex H H') : Tx H H' := fun a o h _ => e a o h
theorem Tx.of (e : ExtN H H') : Tx H H' := fun a o h n => e a o h fun ps z => by
  subst z
  cases n
theorem Tx.get (e : Tx H H') (h : H a = some o) (n : isTbl o = false) : H' a = some o := e a o h n
theorem Tx.sql (e : Tx H H') (h : SqL K H a xs) : SqL K H' a xs := by
  rcases h with (h | ⟨u, h⟩) | h
  · exact .inl (.inl (e.get h rfl))
  · exact .inl (.inr ⟨u, e.get h rfl⟩)
  · exact .inr h
theorem Tx.sqt (e : Tx H H') (h : SqT K H a xs) : SqT K H' a xs := by
  rcases h with (h | ⟨u, h⟩) | h
  · exact .inl (.inl (e.get h rfl))
  · exact .inl (.inr ⟨u, e.get h rfl⟩)
  · exact .inr h
theorem IsW.tx {C : Addr} {w v : Int} (e : Tx H H') (h : IsW C H a w v) : IsW C H' a w v := ⟨h.1, h.2.choose, e.get h.2.choose_spec rfl⟩
theorem Ws.tx {C : Addr} {w : Int} (e : Tx H H') : ∀ {as : List Addr} {vs : List Int}, Ws C H w as vs → Ws C H' w as vs
  | [], [], _ => True.intro
  | _ :: _, _ :: _, h => ⟨h.1.tx e, Ws.tx e h.2⟩
theorem PenAt.tx {p : Addr} {n : Nat} (e : Tx H H') (h : PenAt K H p n) : PenAt K H' p n := by
  obtain ⟨l, cs, i, j, h1, h2, h3, h4, h5⟩ := h
  exact ⟨l, cs, i, j, e.get h1 rfl, e.get h2 rfl, h3, h4, h5⟩
theorem tabs_ex (t : Tabs T H) (e : Ex H H') : Tabs T H' := t.ext e
theorem tabs_gr (t : Tabs T H) (g : Gr H H') : Tabs T H' := fun p hp => by
  obtain ⟨ps, h1, h2, h3⟩ := t p hp
  refine ⟨ps, g.get h1 rfl, h2, fun pos cv hc => ?_⟩
  obtain ⟨c, e1, e2⟩ := h3 pos cv hc
  exact ⟨c, e1, g.get e2 rfl⟩
theorem tabs_but (t : Tabs T H) (e : But l H H') (hl : H l = some (.lst xs)) : Tabs T H' := fun p hp => by
  obtain ⟨ps, h1, h2, h3⟩ := t p hp
  refine ⟨ps, e.get h1 (ne_of h1 hl (by intro z; cases z)), h2, fun pos cv hc => ?_⟩
  obtain ⟨c, e1, e2⟩ := h3 pos cv hc
  exact ⟨c, e1, e.get e2 (ne_of e2 hl (by intro z; unfold CodeO at z; cases z))⟩
end
/-- a def's code object and its table -/
def codeAd (K : PySem.W.Frag) (f : Addr) : Addr := match (K.lookup f).map (fun o : Obj => o.data) with
  | some (.func d) => (match d.code with
    | .ref c => c
    | _ => 0)
  | _ => 0
def tabAd (K : PySem.W.Frag) (f : Addr) : Addr := match (K.lookup (codeAd K f)).map (fun o : Obj => o.data) with
  | some (.fields vs) => (match (vs[11]? : Option Value) with
    | some (.ref p) => p
    | _ => 0)
  | _ => 0
def codeB (K : PySem.W.Frag) (f : Addr) : Bool := match (K.lookup f).map (fun o : Obj => o.data) with
  | some (.func d) => decide (d.code = .ref (codeAd K f))
  | _ => false
theorem code_of {K : PySem.W.Frag} {x ql : Str} {pr : Arguments} {bd : List Stmt} {sc : Scope} {dvs : List V} {kws : List (Str × V)} {f : Addr} {fd : FuncData} (F : FunD K x ql pr bd sc dvs kws f fd) (h : codeB K f = true) : fd.code = .ref (codeAd K f) := by
  obtain ⟨oc, od, dV, kV, doc, pm, an, cdv, ct, osl, e, lk, _⟩ := F.ex
  unfold codeB at h
  rw [lk] at h
  exact of_decide_eq_true h
/-- a def by its body, its code object known -/
theorem okGL {P : Program} {w : World} {K : PySem.W.Frag} {mg : Str → Option Value} {base : Heap} {x ql : Str} {pr : Arguments} {bd : List Stmt} {sc : Scope} {dvs : List V} {kws : List (Str × V)} {f : Addr} {fd : FuncData}
    {N ps : List Str} {k : Nat} {sp : Sp} (F : FunD K x ql pr bd sc dvs kws f fd) (S : FnScope N ps sc) (hc : codeB K f = true) (len : ∀ vs H Q E, sp vs H Q E → vs.length = ps.length)
    (hb : ∀ (A : Around) (outer : List Env) (s : Shared) (H : Hp) (vs : List V) (Q : VK) (E : XK), Room k (A.deeper (envOfC ql sc s.heap.objs.size f (.ref (codeAd K f)))) → (A.deeper (envOfC ql sc s.heap.objs.size f (.ref (codeAd K f)))).guards = some [] → sp vs H Q E →
      ∃ t, PSs (cxOf (L2.CX P w) P w K mg base N ql sc f (.ref (codeAd K f)) A outer s H E) bd t ∧ t { nx := fun _ H' => Q .non H', rt := Q } (L2.start N vs) H) : FnG P w K mg base (k + 1) f fd ps sp := by
  have hcd := code_of F hc
  obtain ⟨oc, od, dV, kV, doc, pm, an, cdv, ct, osl, rfl, lk, hcI, _, _⟩ := F.ex
  have ec : cdv = .ref (codeAd K f) := hcd
  subst ec
  refine ⟨len, fun A outer s H args us vs Q E hr hg e0 bi rv hsp => ?_⟩
  have lv := len _ _ _ _ hsp
  have old : ∀ b o, base.get? b = some o → s.heap.get? b = some o := fun b o e => (e0.bs b o e).1
  have KX : K.In s.heap := e0.mod.kin.keeps old
  have kinds : ∀ y ∈ ps.zip us, sc.names.lookup y.1 = some .local ∨ (sc.names.lookup y.1 = some .cell ∧ ((cellsFrom (s.heap.objs.size + 1) sc.names []).lookup y.1).isSome = true) := by
    rintro ⟨n, v⟩ hy
    exact (S.par n (List.of_mem_zip hy).1).imp id fun q => ⟨q, PySem.W.cellsFrom_some _ _ _ (.inl q)⟩
  refine codeAny_call_function hr.depth (KX _ _ lk) rfl S.co S.gen rfl (PySem.W.codeRec_of KX hcI) (bi _ _ _ _ ?_)
  refine wpAny_newFunctionEnv_cells S.kind kinds fun env he s1 ic => ?_
  subst he
  refine ⟨(e0.mod.nolimit.keeps old).keeps ic.toInCall.keep, codeAny_func ?_⟩
  obtain ⟨t, ht, hq⟩ := hb A outer s H vs Q E (hr.deeper _) hg hsp
  have I := inv_start (CX := L2.CX P w) (E := E) S hr.hd e0 lv rv ic
  refine wpAny_mono (ht.run [] s1 (L2.start N vs) H _ I hq) (fun fl s' hs => ?_) fun _ _ z => z
  cases fl with
  | ret u =>
    obtain ⟨v, σ', H', J, r', q⟩ := hs
    exact ⟨v, H', J.os, J.bare, J.base, J.hok, r', q⟩
  | next =>
    obtain ⟨σ', H', J, q⟩ := hs
    exact ⟨V.non, H', J.os, J.bare, J.base, J.hok, rfl, q⟩
  | brk => exact (hs.choose_spec.choose_spec.2 : False).elim
  | cont => exact (hs.choose_spec.choose_spec.2 : False).elim
/-! the head's facts, tables left out of the written part -/
abbrev tabO : Obj := { cls := .none, data := .fields #[] }
def noTab (g : Addr → Option Obj) (a : Addr) : Bool := match g a with
  | some ⟨.none, _, .fields vs, _⟩ => !vs.isEmpty
  | _ => true
def frL (g : Addr → Option Obj) (n : Nat) : PySem.W.Frag := He.frG g ((PySem.cStatics :: He.asD g n).filter (noTab g))
def csOf (ls : List (PySem.W.Frag → Addr)) (K : PySem.W.Frag) : List (Addr × Addr) := ls.map fun f => (codeAd K (f K), tabAd K (f K))
abbrev AlL : Type := Al × List (Option Obj)
def obsL (n : Nat) (fs : List Fn) (ex : PySem.W.Frag → List Bool) (ls : List (PySem.W.Frag → Addr)) (g : Addr → Option Obj) : AlL :=
  ((fs.map (fun f => f.at_ (frL g n)), (fs.all fun f => f.good (frL g n)), (ex (frL g n)).all fun b => b), (csOf ls (frL g n)).map fun p => g p.2)
def valL (fs : List Fn) (ls : List (PySem.W.Frag → Addr)) : AlL := (val fs, ls.map fun _ => some tabO)
theorem map_all {α β γ : Type} {f : α → γ} {c : γ} : ∀ {l : List α} {m : List β}, l.map f = m.map (fun _ => c) → ∀ x ∈ l, f x = c
  | [], _, _, x, hx => by cases hx
  | a :: l, [], h, x, hx => by cases h
  | a :: l, b :: m, h, x, hx => by
    rw [List.map_cons, List.map_cons] at h
    injection h with h1 h2
    rcases List.mem_cons.mp hx with rfl | hx
    · exact h1
    · exact map_all h2 x hx
def hookL (n : Nat) (fs : List Fn) (ex : PySem.W.Frag → List Bool) (ls : List (PySem.W.Frag → Addr)) : PySem.W.Hook where
  α := AlL
  obs := fun s => obsL n fs ex ls s.heap.get?
  val := fun _ => valL fs ls
  says := fun _ h => ∃ K : PySem.W.Frag, K.In h ∧ Says fs ex K ∧ ∀ p ∈ csOf ls K, h.get? p.2 = some tabO
  of := fun _ _ e => ⟨_, He.frG_in, ⟨congrArg (·.1.1) e, congrArg (·.1.2.1) e, congrArg (·.1.2.2) e⟩, map_all (congrArg (·.2) e)⟩
  keeps := fun _ _ _ ⟨K, hK, c, t⟩ k => ⟨K, PySem.W.Frag.In.keeps hK k, c, fun p hp => k _ _ (t p hp)⟩
theorem obsL_eq {n : Nat} {fs : List Fn} {ex : PySem.W.Frag → List Bool} {ls : List (PySem.W.Frag → Addr)} {g : Addr → Option Obj} {s : Shared} (h : ∀ a, g a = s.heap.get? a) : obsL n fs ex ls g = (hookL n fs ex ls).obs s := by
  have e : g = s.heap.get? := funext h
  rw [e]
  rfl
end Z

/-! Z: the end of a law whose defs hand lambdas on -/
namespace Z
open PySem PySem.Spec PyProof.Rows L2 LamX
theorem law_callGT {P : Program} {w : World} {K : PySem.W.Frag} {mg mb : Str → Option Value} {k : Nat} {fa a : Addr} {cs : List (Addr × Addr)} {fd : FuncData} {x : Str} {sp : Sp} {s1 : Shared} {vs : List Value} {ns : List Int}
    (KX : K.In s1.heap) (hns : s1.heap.Ns mainGlobals mg) (hb : s1.heap.Ns builtinsNs mb) (hbb : ∀ x : Str, x ≠ "__name__" → mb x = bootBuiltins x) (lim : s1.heap.NoLimit) (hg : s1.gens = #[])
    (hT : ∀ p ∈ cs, s1.heap.get? p.2 = some tabO) (nT : ∀ p ∈ cs, K.lookup p.2 = none) (cd : ∀ p ∈ cs, PySem.W.CodeHd s1.heap p.1 p.2)
    (hbm : ∃ (bm : Addr) (ob : Obj), mg "__builtins__" = some (.ref bm) ∧ bm ≠ builtinsNs ∧ s1.heap.get? bm = some ob ∧ ob.cls = .type "module" ∧ ob.dict = some builtinsNs ∧ ob.data = .plain)
    (ha : s1.heap.get? a = some { cls := .type "list", data := .seq vs.toArray }) (hi : IntsAre vs ns) (hl : ns.length ≤ sizeLine) (hr : Room k callerA)
    (F : ∀ base : Heap, K.In base → base.Ns mainGlobals mg → (∀ p ∈ cs, TabB base mg p.1 p.2) → FnG P w K mg base k fa fd [x] sp) (bi : ∀ (s : Shared) (u : Value), BindsTo s fd ⟨[u], []⟩ [(x, u)])
    (hsp : ∀ H : Hp, (∀ p ∈ cs, H p.2 = some (.tbl #[])) → SqL K H a (ns.map V.int) → sp [.ref a] H (fun v _ => v = .bl true) fun _ _ _ => False) :
    codeAny (model P w) callerA (.call (.ref fa) ⟨[.ref a], []⟩) (fun r s' => r = .ok (.ret (.bool true)) ∧ OldK s1.heap s'.heap ∧ s'.os = s1.os ∧ AllBare s'.gens) s1 := by
  have rv := vals_ints hi
  have lv := hi.length
  have mem : ∀ p ∈ cs, p.2 ∈ cs.map (·.2) := fun p hp => List.mem_map_of_mem (f := (·.2)) hp
  have tab : ∀ b ∈ cs.map (·.2), s1.heap.get? b = some tabO := fun b m => by
    obtain ⟨p, hp, rfl⟩ := List.mem_map.mp m
    exact hT p hp
  have noA : a ∉ cs.map (·.2) := fun z => by
    have q := (tab a z).symm.trans ha
    have q2 := congrArg Obj.data (Option.some.inj q)
    cases q2
  have go : ∀ H : Hp, (∀ p ∈ cs, H p.2 = some (.tbl #[])) → (∀ b, H b = none ∨ b ∈ cs.map (·.2) ∨ ∃ o xs, H b = some (.frz o (.lst xs))) → SqL K H a (ns.map V.int) → HOk P w H s1.heap → (∀ b, H b ≠ none → b = a ∨ b ∈ cs.map (·.2)) → (H a ≠ none → K.lookup a = none) →
      codeAny (model P w) callerA (.call (.ref fa) ⟨[.ref a], []⟩) (fun r s' => r = .ok (.ret (.bool true)) ∧ OldK s1.heap s'.heap ∧ s'.os = s1.os ∧ AllBare s'.gens) s1 := by
    intro H hH kinds hS ok only noK
    have free : ∀ {b : Addr} {o : Obj}, s1.heap.get? b = some o → (∀ us n, o.data ≠ .seq us n) → o.data ≠ .fields #[] → H b = none := fun {b o} e q1 q2 => by
      cases q : H b with
      | none => rfl
      | some u =>
        rcases only b (by rw [q]; simp) with z | z
        · subst z
          rw [ha] at e
          cases e
          exact absurd rfl (q1 _ _)
        · rw [tab b z] at e
          cases e
          exact absurd rfl q2
    have hid : ∀ {b : Addr} {o : Obj}, s1.heap.get? b = some o → (∀ us n, o.data ≠ .seq us n) → o.data ≠ .fields #[] → (hidT s1.heap H).get? b = some o := fun e q1 q2 => hidT_get e (free e q1 q2)
    have ns' : ∀ {b : Addr} {m : Str → Option Value}, s1.heap.Ns b m → (hidT s1.heap H).Ns b m := fun {b m} n => by
      obtain ⟨o, es, ep, e, d, r⟩ := n
      exact ⟨o, es, ep, hid e (fun us n z => by rw [d] at z; cases z) (fun z => by rw [d] at z; cases z), d, r⟩
    have K' : K.In (hidT s1.heap H) := fun b o e => hidT_get (KX b o e) (by
      cases q : H b with
      | none => rfl
      | some u =>
        rcases only b (by rw [q]; simp) with z | z
        · subst z
          rw [noK (by rw [q]; simp)] at e
          cases e
        · obtain ⟨p, hp, rfl⟩ := List.mem_map.mp z
          rw [nT p hp] at e
          cases e)
    have lim' : (hidT s1.heap H).NoLimit := by
      obtain ⟨mc, h1, h2⟩ := lim
      exact ⟨mc, ns' h1, h2⟩
    have tb : ∀ p ∈ cs, TabB (hidT s1.heap H) mg p.1 p.2 := fun p hp => by
      have tp := hT p hp
      refine ⟨?_, ?_, fun z => ?_⟩
      · obtain ⟨o, us, file, tf, flags, tg, inF, text, tt, e1, r1, r2, r3, rest⟩ := cd p hp
        refine ⟨o, us, file, tf, flags, tg, inF, text, tt, hid e1 (fun us n z => by rw [r2] at z; cases z) (fun z => ?_), r1, r2, r3, rest⟩
        rw [r2] at z
        cases z
        simp at r3
      · obtain ⟨bm, ob, b1, b2, b3, b4, b5, b6⟩ := hbm
        refine ⟨bm, ob, b1, b2, fun q => ?_, fun q => ?_, hid b3 (fun us n z => by rw [b6] at z; cases z) (fun z => by rw [b6] at z; cases z), b4, b5, b6⟩
        · obtain ⟨o, es, ep, e, d, _⟩ := hns
          rw [q, e] at b3
          cases b3
          rw [d] at b6
          cases b6
        · rw [q, tp] at b3
          cases b3
          cases b6
      · obtain ⟨o, es, ep, e, d, _⟩ := hns
        rw [z, tp] at e
        cases e
        cases d
    have e0 : Env0 P w K mg (hidT s1.heap H) callerA [] s1 H := ⟨rfl, ⟨K', ns' hns, ⟨mb, ns' hb, hbb⟩, lim'⟩, fun _ _ e => of_hidT e, Nat.le_of_eq (hidT_size _ _), trivial, fun b z => absurd (show b ∈ ([] : List Addr) from z) (by simp), ok, .of_eq hg⟩
    refine codeAny_mono ((F _ K' (ns' hns) tb).run callerA [] s1 H ⟨[.ref a], []⟩ [.ref a] [.ref a] _ _ hr rfl e0 (bi s1 (.ref a)) (.cons rfl .nil) (hsp H hH hS)) ?_
    intro r s' h
    cases r with
    | error e =>
      obtain ⟨_, _, _, _, _, _, _, _, _, _, _, _, z⟩ := h
      exact z.elim
    | ok fl =>
      cases fl with
      | ret u =>
        obtain ⟨v, H', os, bare, un, ok', rr, q⟩ := h
        obtain rfl : v = .bl true := q
        obtain rfl : u = Value.bool true := rr
        have stay : ∀ b o, b ∉ cs.map (·.2) → s1.heap.get? b = some o → s'.heap.get? b = some o := fun b o nb e => by
          rcases kinds b with z | z | ⟨ob, xs, z⟩
          · exact un.keep b o e z (fun y => absurd (show b ∈ ([] : List Addr) from y) (by simp)) (by simp)
          · exact absurd z nb
          · have e1 := (ok b _ z).1
            have e2 := (ok' b _ (un.frzs b ob _ z)).1
            rw [e] at e1
            cases e1
            exact e2
        have grew : ∀ p ∈ cs, ∃ more : Array Value, s'.heap.get? p.2 = some { cls := .none, data := .fields more } := fun p hp => by
          obtain ⟨more, z⟩ := un.tbls p.2 #[] (hH p hp)
          exact ⟨_, ok' p.2 _ z⟩
        refine ⟨rfl, ⟨fun b o e => ?_, fun b o e => ?_⟩, os, bare⟩
        · by_cases m : b ∈ cs.map (·.2)
          · obtain ⟨p, hp, rfl⟩ := List.mem_map.mp m
            obtain ⟨more, hm⟩ := grew p hp
            rw [hT p hp] at e
            cases e
            exact .inr (.inl ⟨((cd p hp).tab (hT p hp)).isCodeTable, rfl, #[], more, rfl, by rw [Array.empty_append]; exact hm⟩)
          · exact .inl (stay b o m e)
        · by_cases m : b ∈ cs.map (·.2)
          · obtain ⟨p, hp, rfl⟩ := List.mem_map.mp m
            obtain ⟨more, hm⟩ := grew p hp
            exact ⟨_, hm⟩
          · exact ⟨o, stay b o m e⟩
      | next => exact h.elim
      | brk => exact h.elim
      | cont => exact h.elim
  cases hk : K.lookup a with
  | some o =>
    have e := KX a o hk
    rw [ha] at e
    cases e
    have at_ : ∀ b, b ∉ cs.map (·.2) → (if b ∈ cs.map (·.2) then some (HO.tbl #[]) else none) = none := fun b m => if_neg m
    refine go (fun b => if b ∈ cs.map (·.2) then some (.tbl #[]) else none) (fun p hp => if_pos (mem p hp)) (fun b => ?_) (.inr ⟨_, vs.toArray, _, hk, rfl, rfl, rfl, by rw [List.size_toArray, lv]; exact hl, by simpa using rv⟩) (fun b u z => ?_) (fun b z => ?_) fun z => absurd (at_ a noA) z
    · by_cases m : b ∈ cs.map (·.2)
      · exact .inr (.inl m)
      · exact .inl (if_neg m)
    · by_cases m : b ∈ cs.map (·.2)
      · cases (if_pos m).symm.trans z
        exact tab b m
      · cases (if_neg m).symm.trans z
    · exact .inr (Classical.byContradiction fun m => z (if_neg m))
  | none =>
    refine go (fun b => if b = a then some (.frz { cls := .type "list", data := .seq vs.toArray } (.lst (ns.map V.int))) else if b ∈ cs.map (·.2) then some (.tbl #[]) else none) (fun p hp => (if_neg (show ¬ p.2 = a from fun z => noA (z ▸ mem p hp))).trans (if_pos (mem p hp))) (fun b => ?_) (.inl (.inr ⟨_, if_pos rfl⟩)) (fun b u z => ?_) (fun b z => ?_) fun _ => hk
    · by_cases q : b = a
      · exact .inr (.inr ⟨_, _, if_pos q⟩)
      · by_cases m : b ∈ cs.map (·.2)
        · exact .inr (.inl m)
        · exact .inl ((if_neg q).trans (if_neg m))
    · by_cases q : b = a
      · cases (if_pos q).symm.trans z
        subst q
        exact ⟨ha, by rw [List.length_map]; exact hl, vs, _, rv, ha⟩
      · have z1 := (if_neg q).symm.trans z
        by_cases m : b ∈ cs.map (·.2)
        · cases (if_pos m).symm.trans z1
          exact tab b m
        · cases (if_neg m).symm.trans z1
    · by_cases q : b = a
      · exact .inl q
      · exact .inr (Classical.byContradiction fun m => z ((if_neg q).trans (if_neg m)))
theorem walk_endGT {l : PySem.W.OpenLaw} {n k : Nat} {q : Program} {loose : List Str} {XP : (Str → Option Value) → Heap → Prop} {YP : World → Heap → Prop} {d : DefRec} {x : Str} (hn : l.most = some n) (hn2 : n ≤ sizeLine) (hdf : d.params.defaults = []) (hr : Room k callerA)
    (F : ∀ (w : World) (mg : Str → Option Value) (fa : Addr) (h : Heap), YP w h → h.Ns mainGlobals mg → mg d.name = some (.ref fa) →
      ∃ (K : PySem.W.Frag) (fd : FuncData) (cs : List (Addr × Addr)) (sp : Sp), K.In h ∧ (∀ p ∈ cs, h.get? p.2 = some tabO) ∧ (∀ p ∈ cs, K.lookup p.2 = none) ∧ (∀ p ∈ cs, PySem.W.CodeHd h p.1 p.2) ∧ (∀ (s : Shared) (u : Value), BindsTo s fd ⟨[u], []⟩ [(x, u)]) ∧
        (∀ (H : Hp) (a : Addr) (ns : List Int), ns.length ≤ n → (∀ p ∈ cs, H p.2 = some (.tbl #[])) → SqL K H a (ns.map V.int) → sp [.ref a] H (fun v _ => v = .bl true) fun _ _ _ => False) ∧
        ∀ base : Heap, K.In base → base.Ns mainGlobals mg → (∀ p ∈ cs, TabB base mg p.1 p.2) → FnG l.prog w K mg base k fa fd [x] sp) :
    PySem.W.WalkO q loose XP YP l.row.toRowW d [] (fun f vs => PySem.call f vs) := by
  refine Att.attach_call hn hdf fun w s₀ s₁ mg mb fa o pm cd doc a vs ns G Y ho hd hcd hmg hobj hints hlen hg => ?_
  obtain ⟨K, fd, cs, sp, KX, hT, nT, C, hb, hsp, hF⟩ := F w mg fa _ Y G.T.g hmg
  exact law_callGT KX G.T.g G.T.b G.T.builtins G.T.nolimit hg hT nT C G.T.bmain hobj hints (Nat.le_trans hlen hn2) hr hF hb (fun H hH hS => hsp H a ns hlen hH hS)
end Z

/-! Z: several clauses except x as n; a lambda handed to a def; what is heard of it -/
namespace Z
open PySem PySem.W PySem.Calls PyProof.Rows PySem.HandSPX L2 LamX
/-- what the clauses wish of an exception, one after the other -/
def wMa (K : Frag) (Wout : WX) (D : Ends) : List (Value × Nat × (Addr → Value → Option Addr → TS)) → WX
  | [] => Wout
  | (c, i, ts) :: r => fun cls d σ H => ∃ b, exmOne K cls c = some b ∧ (b = true → ∀ a, H a = none → ts a cls d { nx := fun σ' H' => D.nx (σ'.set i none) H', rt := D.rt, bk := fun σ' H' => D.bk (σ'.set i none) H', ct := fun σ' H' => D.ct (σ'.set i none) H' } (σ.set i (some (.ref a))) H) ∧ (b = false → wMa K Wout D r cls d σ H)
inductive HdsA (X : Cx) : List ExceptHandler → List (Value × Nat × (Addr → Value → Option Addr → TS)) → Prop
  | nil : HdsA X [] []
  | cons {x n : Str} {c : Value} {i : Nat} {ts : Addr → Value → Option Addr → TS} {b₀ : Stmt} {suite : List Stmt} {np pos' : Pos} {hds : List ExceptHandler} {l : List (Value × Nat × (Addr → Value → Option Addr → TS))} (hc : Names X x c) (hi : X.N[i]? = some n) (hln : X.env.kindOf n = some .local)
      (hsu : ∀ (a : Addr) (oe : Obj) (cls : Value) (d : Option Addr) (pn : List (Addr × Obj)), Zc cls d oe → (∃ vs, oe.data = .fields vs) → PSs (X.suite a ((a, oe) :: pn)) (b₀ :: suite) (ts a cls d)) (r : HdsA X hds l) :
      HdsA X (.ExceptHandler (some (.Name x np)) (some n) (b₀ :: suite) pos' :: hds) ((c, i, ts) :: l)
section
variable {X : Cx} {body : List Stmt} {h₀ : ExceptHandler} {hds : List ExceptHandler} {l : List (Value × Nat × (Addr → Value → Option Addr → TS))} {pos : Pos} {tb : WX → TS} {Wout : WX}
theorem ps_try_ma (hs : X.stack = X.env :: X.outer) (hf : X.env.frame = some X.env.locals) (hN : X.N.Nodup) (tk : Takes X Wout)
    (hb : ∀ (W : WX) (pn : List (Addr × Obj)) (xe : Value → Shared → Prop), Takes (X.tr pn xe) W → PassesOwn (model X.prog X.w) X.A X.env xe → PSs (X.tr pn xe) body (tb W))
    (hh : HdsA X (h₀ :: hds) l) : PS X (.Try body (h₀ :: hds) [] [] pos) (fun D σ H => tb (fun cls d σ' H' => σ'.length = X.N.length → wMa X.K Wout D l cls d σ' H') D σ H) := by
  constructor
  intro pins s σ H D I h
  have ok := I.ok
  have fr2 : X.A.frames = some (X.env :: X.outer) := by rw [ok.frames, hs]
  refine wpAny_Try_except (wpAny_mono ((hb (fun cls d σ' H' => σ'.length = X.N.length → wMa X.K Wout D l cls d σ' H') (X.pn ++ pins) _ (fun u s' xx => ?_) PassesOwn.looking).run [] s σ H D (I.toTry _) h) (fun f s1 sp => ?_) fun e s1 he => he)
  case refine_2 =>
    cases f with
    | ret u =>
      obtain ⟨v, σ', H', J', r, q⟩ := sp
      exact ⟨v, σ', H', J'.ofTry ok, r, q⟩
    | next =>
      obtain ⟨σ', H', J', q⟩ := sp
      exact wpAny_execs_nil ⟨σ', H', J'.ofTry ok, q⟩
    | brk =>
      obtain ⟨σ', H', J', q⟩ := sp
      exact ⟨σ', H', J'.ofTry ok, q⟩
    | cont =>
      obtain ⟨σ', H', J', q⟩ := sp
      exact ⟨σ', H', J'.ofTry ok, q⟩
  obtain ⟨a, B, sI, pins', σ', H', cls, d, rfl, J', nb, up, sky, na, os, ag, wish⟩ := xx
  have J : Inv X pins σ' H' sI := J'.ofTry ok
  rw [hs] at sky
  refine Sky.land Zc.steady fr2 hf sky fun h3 fl3 up3 => ?_
  obtain ⟨oe3, vs3, at3, zc3, fd3⟩ := fl3.there
  have offFr : a ∉ frs (X.env :: X.outer) := fun hm => by
    obtain ⟨_, o', q1, q2⟩ := fl3.2.2.1.mem hm
    rw [at3] at q1
    cases q1
    exact q2 _ fd3
  have nL : a ≠ X.env.locals := fun z => offFr (List.mem_filterMap.mpr ⟨X.env, List.mem_cons_self, by rw [hf, z]⟩)
  have nF : a ∉ X.fs := fun hm => by
    obtain ⟨e, q1, q2⟩ := List.mem_filterMap.mp hm
    exact offFr (List.mem_filterMap.mpr ⟨e, List.mem_cons_of_mem _ q1, q2⟩)
  have J3 : Inv X pins σ' H' { s' with heap := h3 } := J.landed nb fl3.1 (up.trans up3) os ag
  have S3 := J3.suite at3 fd3 na nL nF
  have run : ∀ {hds' : List ExceptHandler} {l' : List (Value × Nat × (Addr → Value → Option Addr → TS))}, HdsA X hds' l' → wMa X.K Wout D l' cls d σ' H' → wpAny (model X.prog X.w) X.A (handleBy (.ref a) X.env hds') (SP X pins D) X.xe { s' with heap := h3 } := by
    intro hds' l' hk
    induction hk with
    | nil =>
      intro wo
      refine wpAny_handleBy_nil ?_
      obtain ⟨_, _, _, oe, vs, T, oT, ts', q1, q2, q3, q4, q5⟩ := id fl3
      unfold PySem.passOn
      refine wpAny_bind (wpAny_field q1 q3 q4 ?_)
      rw [if_neg (show ¬ ((Value.ref T == Value.none) = true) from by simp)]
      have out : wpAny (model X.prog X.w) X.A (setFlight (.ref a) X.env.frame) (fun _ s4 => wpAny (model X.prog X.w) X.A (throw (.ref a) : Sem Flow) (SP X pins D) X.xe s4) X.xe { s' with heap := h3 } := by
        rw [hf]
        exact setFlight_upZ fl3 fun h4 hh4 up4 => wpAny_throw (tk _ _ ⟨a, B, sI, pins, σ', H', cls, d, rfl, J, nb, (up.trans up3).trans up4, .inr (.inr (by rw [hs]; exact hh4)), na, os, ag, wo⟩)
      first
        | exact wpAny_bind (wpAny_pure (wpAny_bind out))
        | exact wpAny_bind out
    | @cons x n c i ts b₀ suite np pos' hds2 l2 hc hi hln hsu r ih =>
      intro wo
      obtain ⟨b, hb1, yes, no⟩ := wo
      refine wpAny_handleBy_cons (codeAny_handlers_test ?_) (by intro q; cases q)
      have LM := exm_one (M := model X.prog X.w) J3.kIn (fun A Q E s k q => wpAny_typeOf_ref (k _ _ at3) (by rw [zc3.1]; exact q)) hb1
      have name : ∀ {Q : Value → Shared → Prop} {E : Value → Shared → Prop}, Q c { s' with heap := h3 } → wpAny (model X.prog X.w) (X.A.mark (some (.ref a))) (eval (.Name x np) X.env) Q E { s' with heap := h3 } := fun {Q E} q => by
        obtain ⟨hg, hdb, hm | ⟨hm, hv, hnn⟩⟩ := hc
        · exact ld_glob (X := X.suite a _) S3 hg hm q hdb
        · exact ld_blt (X := X.suite a _) S3 hg hm hv q hnn hdb
      refine name (LM.here ?_)
      cases b with
      | false =>
        show wpAny _ X.A (handleBy (.ref a) X.env hds2) _ _ _
        exact ih (no rfl)
      | true =>
        refine codeAny_handlers_suite_as (lands_againZ fl3 fun h4 fl4 up4 => ?_)
        have J4 : Inv X pins σ' H' { s' with heap := h4 } := J.landed nb fl4.1 ((up.trans up3).trans up4) os ag
        obtain ⟨oe4, vs4, at4, zc4, fd4⟩ := fl4.there
        refine store_ok (X := X.suite a ((a, oe4) :: (X.pn ++ pins))) (v := .ref a) (J4.suite at4 fd4 na nL nF) hN hi (.inl hln) rfl (fun s5 S5 => ?_) (.inr hln)
        refine wpAny_mono ((hsu a oe4 cls d (X.pn ++ pins) zc4 ⟨_, fd4⟩).run [] s5 _ H' _ S5 (yes rfl a na)) (fun f s6 sp => ?_) fun _ _ z => False.elim z
        cases f with
        | next =>
          obtain ⟨σ6, H6, S6, q6⟩ := sp
          exact gone_ok (S6.unsuite ok) hN hi hln fun s7 J7 => ⟨_, _, J7, q6⟩
        | ret u =>
          obtain ⟨v6, σ6, H6, S6, r6, q6⟩ := sp
          exact gone_ok (S6.unsuite ok) hN hi hln fun s7 J7 => ⟨_, _, _, J7, r6, q6⟩
        | brk =>
          obtain ⟨σ6, H6, S6, q6⟩ := sp
          exact gone_ok (S6.unsuite ok) hN hi hln fun s7 J7 => ⟨_, _, J7, q6⟩
        | cont =>
          obtain ⟨σ6, H6, S6, q6⟩ := sp
          exact gone_ok (S6.unsuite ok) hN hi hln fun s7 J7 => ⟨_, _, J7, q6⟩
  exact run hh (wish J.len)
/-- x(lambda: body), x by its facts -/
theorem pe_lamF {T : List (Addr × Str)} {TT : (XK → Hp → VK → Prop) → Hp → VK → Prop} {x a : Str} {g c P : Addr} {k : Nat} {pg : Arguments} {bg : List Stmt} {sg : Scope} {fd : FuncData} {Ng : List Str} {params : Arguments} {body : Expr} {scope : Scope} {t : XK → TE} {p lpos pos : Pos}
    (F : FunD X.K x x pg bg sg [] [] g fd) (hb : L2.Binds X.K fd [a] []) (hg : Gl X x) (hm : X.mg x = some (.ref g)) (Sg : FnScope Ng [a] sg) (hNg : Ng[0]? = some a) (hva : Vis sg a) (hG : ∀ cdv, GivesTo X Ng x sg g cdv bg a (X.env.qual ++ "<lambda>") TT)
    (TB : TabB X.base X.mg c P) (hcode : X.env.code = .ref c) (hmT : (P, X.env.qual ++ "<lambda>") ∈ T) (hu : ∀ p ∈ T, p.1 = P → p.2 = X.env.qual ++ "<lambda>") (hr : Room (k + 2) X.A) (L : LamS X.env.scope scope) (hdef : defaultsOf params X.env = ([], []))
    (hbind : ∀ (q : Str) (cl : List (Str × Addr)) (pm cv ctv : Value), bindArgs (PySem.W.kla_fn "<lambda>" q params body scope cl pm cv ctv) ⟨[], []⟩ = pure [])
    (hbody : ∀ (A : Around) (outer : List Env) (s : Shared) (H : Hp) (E : XK) (f c' : Addr), Room k (A.deeper (lamEnv X scope s.heap.objs.size f c')) → PE (lamCx X A outer s H E scope f c') body (t E))
    (hdb : (x == ("__debug__" : Str)) = false := by decide) (hd : (a == ("__debug__" : Str)) = false := by decide) (hcd : (a == ("__classdict__" : Str)) = false := by decide) :
    PE X (.Call (.Name x p) [.Lambda params body scope lpos] [] pos) (tLam T TT t) := by
  obtain ⟨oc, od, dV, kV, doc, pm, an, cdv, ct, osl, rfl, lk, hc, _, _⟩ := F.ex
  exact pe_lamcall hg hm F.kp lk hc hb Sg hNg hva (hG cdv) TB hcode hmT hu hr L hdef hbind hbody hdb hd hcd
end
section
variable {X : Cx} {A : Around} {outer : List Env} {s : Shared} {H : Hp} {E : XK} {scope : Scope} {f c' : Addr}
theorem lT : Takes (lamCx X A outer s H E scope f c') (fun cls d _ H => E cls d H) := takes_of rfl rfl rfl rfl
theorem lX : Passes (L2.CX X.prog X.w) (lamCx X A outer s H E scope f c') E := passes_call lT fun _ _ _ _ h => h
end
theorem len3 {α : Type} : ∀ {l : List α}, l.length = 3 → ∃ a b c, l = [a, b, c]
  | [a, b, c], _ => ⟨a, b, c, rfl⟩
/-- a field of the caught error -/
def XfP (a : Addr) (cls : Value) (d : Option Addr) (C : Addr) (f : Str) (Q : VK) : VK := fun x H1 => x = .ref a ∧ cls = .ref C ∧ ∃ (dd : Addr) (fs : List (Str × V)) (v : V), d = some dd ∧ H1 dd = some (.xd fs) ∧ fs.lookup f = some v ∧ Q v H1
theorem s_xf {a C : Addr} {cls : Value} {d : Option Addr} {f : Str} {te : TE} {σ : L2.St} {H : Hp} {Q : VK} (k : te σ H (XfP a cls d C f Q)) : tXf a cls d C f te σ H Q := k
theorem v_xf {a C dd : Addr} {f : Str} {H : Hp} {Q : VK} {fs : List (Str × V)} {v : V} (hd : H dd = some (.xd fs)) (hl : fs.lookup f = some v) (k : Q v H) : XfP a (.ref C) (some dd) C f Q (.ref a) H := ⟨rfl, rfl, dd, fs, v, rfl, hd, hl, k⟩
theorem look1 {f : Str} {v : V} {r : List (Str × V)} : ((f, v) :: r).lookup f = some v := by simp [List.lookup]
theorem look2 {f g : Str} {u v : V} {r : List (Str × V)} (h : (f == g) = false) : ((g, u) :: (f, v) :: r).lookup f = some v := by
  show (match (f == g) with | true => some u | false => ((f, v) :: r).lookup f) = some v
  rw [h]
  exact look1
/-- a tuple of a text and one value, two values, that is handed back -/
def Tell (Q : VK) (z : Str) (vs : List V) (H : Hp) : Prop := ∀ p H2, H p = none → Ex H H2 → H2 p = some (.tup (.str z :: vs)) → Q (.ref p) H2
/-- an error that is heard -/
def HearE (Cw Cv Cu : Addr) (Q : VK) : XK := fun cls d H =>
  (cls = .ref Cw ∧ ∃ dd v, d = some dd ∧ H dd = some (.xd [("width", v)]) ∧ Tell Q "width" [v] H) ∨
  (cls = .ref Cv ∧ ∃ dd v, d = some dd ∧ H dd = some (.xd [("value", v)]) ∧ Tell Q "word" [v] H) ∨
  (cls = .ref Cu ∧ ∃ dd u v, d = some dd ∧ H dd = some (.xd [("other", v), ("one", u)]) ∧ Tell Q "unlike" [u, v] H)
def MadeQ (Q : VK) : VK := fun v H => [V.str "made", v].length ≤ sizeLine ∧ NewO Q (.tup [.str "made", v]) H
theorem made_q {Q : VK} {v : V} {H : Hp} (k : Tell Q "made" [v] H) : MadeQ Q v H := ⟨by show 2 ≤ sizeLine; decide, s_new fun p H' n e h => k p H' n e h⟩
def TTh (Cw Cv Cu : Addr) : (XK → Hp → VK → Prop) → Hp → VK → Prop := fun tl H Q => ∀ H0, Ex H H0 → tl (HearE Cw Cv Cu Q) H0 (MadeQ Q)
theorem s_lam {T : List (Addr × Str)} {Cw Cv Cu : Addr} {t : XK → TE} {σ : L2.St} {H : Hp} {Q : VK} (hT : Tabs T H) (k : ∀ H1, Tx H H1 → Tabs T H1 → t (HearE Cw Cv Cu Q) σ H1 (MadeQ Q)) : tLam T (TTh Cw Cv Cu) t σ H Q :=
  ⟨hT, fun H1 e hT1 H0 e0 => k H0 ((Tx.of e).trans e0.tx) (hT1.ext e0)⟩
end Z

/-! Z: ranges by steps of two; halves; values of all sorts that are shown -/
namespace Z
open PySem PySem.Spec PyProof.Rows L2 LamX
theorem rg2_all : ((List.range 60).all fun m => Builtin.Range.small 0 (m : Nat) 2 && decide (Builtin.Range.rangeSize 0 (m : Nat) 2 = ((m + 1) / 2 : Nat))) = true := by decide +kernel
theorem rg2 {m : Nat} (h : m < 60) : RgC 0 m 2 ((m + 1) / 2) := by
  have z := List.all_eq_true.mp rg2_all m (List.mem_range.mpr h)
  obtain ⟨z1, z2⟩ := Bool.and_eq_true_iff.mp z
  exact ⟨by decide, by decide, z1, of_decide_eq_true z2⟩
section
variable {σ : L2.St} {H : Hp} {Q : VK} {D : Ends} {ta : TA} {te : TE} {g : TG} {tt : TT} {tb : TS} {vs : List Nat}
theorem s_for3 {m : Nat} (hm : m < 60) (h : ∀ R : List V → Hp → Prop, R [.int 0, .int m, .int 2] H → ta σ H R) (Pv : Nat → L2.St → Hp → Prop) (h0 : Pv 0 σ H)
    (hs : ∀ (i : Nat) σ' H', i < (m + 1) / 2 → Pv i σ' H' → g (.int (2 * i : Nat)) σ' H' fun σ2 H2 => tb { D with nx := Pv (i + 1), ct := Pv (i + 1), bk := D.nx } σ2 H2) (hd : ∀ σ' H', Pv ((m + 1) / 2) σ' H' → D.nx σ' H') : tFor (iRng3 ta) g tb D σ H := by
  refine h _ ⟨0, m, 2, _, rfl, rg2 hm, for_rangeC Pv h0 (fun i σ' H' hi p => ?_) hd⟩
  have e : (0 : Int) + (i : Nat) * 2 = ((2 * i : Nat) : Int) := by omega
  rw [e]
  exact hs i σ' H' hi p
theorem walk_c (lo c : Int) (n : Nat) : Walk (Itc lo c n) n (fun _ => True) (YFn fun i => .int (lo + (i : Nat) * c)) :=
  ⟨fun _ _ h _ => h, fun _ _ => Nat.le_refl _, fun _ _ _ _ _ _ y => y⟩
theorem s_lc3 {m : Nat} (hm : m < 60) (h : ∀ R : List V → Hp → Prop, R [.int 0, .int m, .int 2] H → ta σ H R) (Pv : Addr → Nat → Hp → Prop) (h0 : ∀ L H', H L = none → Ex H H' → H' L = some (.lst []) → Pv L 0 H')
    (hs : ∀ L (i : Nat) H', H L = none → i < (m + 1) / 2 → Pv L i H' → g (.int (2 * i : Nat)) (wipe σ vs) H' fun σ2 H2 => wipe σ2 vs = wipe σ vs ∧ tt σ2 H2 fun b H3 => if b = true then te σ2 H3 fun y H4 => LcN (Pv L (i + 1)) L y H4 else Pv L (i + 1) H3)
    (hd : ∀ L H', H L = none → Pv L ((m + 1) / 2) H' → Q (.ref L) H') : tLc (iRng3 ta) g tt te vs σ H Q := by
  refine h _ ⟨0, m, 2, _, rfl, rg2 hm, fun L hL => lc_it (walk_c 0 2 _) (Pv L) (h0 L _ hL (Ex.new hL) upd_same) (fun _ _ _ _ => trivial) (fun i x H1 H2 hi p y => ?_) fun H' p => hd L H' hL p⟩
  obtain ⟨rfl, rfl⟩ := y
  have e : (0 : Int) + (i : Nat) * 2 = ((2 * i : Nat) : Int) := by omega
  dsimp only
  rw [e]
  exact hs L i _ hL hi p
end
theorem ixB {X : Cx} {K : PySem.W.Frag} (h : X.K = K) : IxR X (rIxL K) := by
  subst h
  exact ix_list
theorem Ex.but {H0 H1 H2 : Hp} {L : Addr} (e : Ex H0 H1) (hL : H0 L = none) (b : But L H1 H2) : Ex H0 H2 := fun a o h => b a o (ne_of_none h hL) (e a o h)
/-- the value of the i-th word packed of halves of h bits -/
def vp (h : Nat) (hs : List Int) (i : Nat) : Int := hs.getD (2 * i) 0 * 2 ^ h + hs.getD (2 * i + 1) 0
def pk (h : Nat) (hs : List Int) : List Int := (List.range ((hs.length + 1) / 2)).map (vp h hs)
theorem getD_all {hs : List Int} {P : Int → Prop} (h0 : P 0) (h : ∀ y ∈ hs, P y) (i : Nat) : P (hs.getD i 0) := by
  rw [List.getD_eq_getElem?_getD]
  cases e : hs[i]? with
  | none => exact h0
  | some y => exact h y (List.mem_of_getElem? e)
theorem vp_in {h : Nat} {w : Int} {hs : List Int} (hw : w = 2 * (h : Int)) (h1 : 1 ≤ h) (h2 : h ≤ 32) (hh : ∀ y ∈ hs, 0 ≤ y ∧ y ≤ 2 ^ h - 1) (i : Nat) : InW w (vp h hs i) := by
  have hp : (1 : Int) ≤ 2 ^ h := by have : (0 : Int) < 2 ^ h := Int.pow_pos (by decide); omega
  obtain ⟨a0, a1⟩ := getD_all (P := fun y => 0 ≤ y ∧ y ≤ 2 ^ h - 1) ⟨by omega, by omega⟩ hh (2 * i)
  obtain ⟨b0, b1⟩ := getD_all (P := fun y => 0 ≤ y ∧ y ≤ 2 ^ h - 1) ⟨by omega, by omega⟩ hh (2 * i + 1)
  unfold vp
  generalize hs.getD (2 * i) 0 = a at *
  generalize hs.getD (2 * i + 1) 0 = b at *
  have e : topI w = 2 ^ h * 2 ^ h - 1 := by
    unfold topI
    have : w.toNat = h + h := by omega
    rw [this, Int.pow_add]
  have m0 : 0 ≤ a * 2 ^ h := Int.mul_nonneg a0 (by omega)
  have m1 : a * 2 ^ h ≤ (2 ^ h - 1) * 2 ^ h := Int.mul_le_mul_of_nonneg_right a1 (by omega)
  rw [Int.sub_mul] at m1
  refine ⟨by omega, by omega, by omega, ?_⟩
  rw [e]
  omega
theorem pk_succ (h : Nat) (hs : List Int) (i : Nat) : (List.range (i + 1)).map (vp h hs) = (List.range i).map (vp h hs) ++ [vp h hs i] := by
  rw [List.range_succ, List.map_append]
  rfl
/-- ints all of them -/
theorem ints_of {P : Int → Prop} : ∀ {xs : List V}, (∀ x ∈ xs, ∃ n, x = .int n ∧ P n) → ∃ hs : List Int, xs = hs.map V.int ∧ ∀ y ∈ hs, P y
  | [], _ => ⟨[], rfl, by simp⟩
  | x :: xs, h => by
    obtain ⟨n, rfl, hn⟩ := h x (by simp)
    obtain ⟨hs, rfl, hh⟩ := ints_of (xs := xs) fun y hy => h y (by simp [hy])
    refine ⟨n :: hs, rfl, fun y hy => ?_⟩
    rcases List.mem_cons.mp hy with rfl | hy
    · exact hn
    · exact hh y hy
theorem btw_int {x : V} {lo hi : Int} (h : btw x lo hi = true) : ∃ n, x = .int n ∧ lo ≤ n ∧ n ≤ hi := by
  cases x with
  | int n =>
    obtain ⟨h1, h2⟩ := Bool.and_eq_true_iff.mp (show (decide (lo ≤ n) && decide (n ≤ hi)) = true from h)
    exact ⟨n, rfl, of_decide_eq_true h1, of_decide_eq_true h2⟩
  | _ => cases h
/-- is_between told by btw -/
theorem use_btwV {K : PySem.W.Frag} {H : Hp} {Q : VK} {E : XK} {v : V} {lo hi : Int} (h : KI K H v) (k : Q (.bl (btw v lo hi)) H) : spBtw K [v, .int lo, .int hi] H Q E := ⟨v, lo, hi, rfl, h, k⟩
/-- a value that stands somewhere and is shown as t -/
inductive Odd (C : Addr) (H : Hp) : V → Str → Prop
  | int {i : Int} (h : i.natAbs < 2 ^ 100) : Odd C H (.int i) (toString i)
  | bl {b : Bool} : Odd C H (.bl b) (if b then "True" else "False" : String)
  | non : Odd C H .non ("None" : String)
  | str {z : Str} (h : (reprText z).length ≤ 100) : Odd C H (.str z) (reprText z)
  | word {a : Addr} {w v : Int} (h : IsW C H a w v) : Odd C H (.ref a) (wT w v)
section
variable {C : Addr} {H H' : Hp} {v : V} {t : Str}
theorem Odd.ex (e : Ex H H') (h : Odd C H v t) : Odd C H' v t := by
  cases h with
  | int h => exact .int h
  | bl => exact .bl
  | non => exact .non
  | str h => exact .str h
  | word h => exact .word (h.ex e)
theorem Odd.tx (e : Tx H H') (h : Odd C H v t) : Odd C H' v t := by
  cases h with
  | int h => exact .int h
  | bl => exact .bl
  | non => exact .non
  | str h => exact .str h
  | word h => exact .word (h.tx e)
theorem Odd.gr (e : Gr H H') (h : Odd C H v t) : Odd C H' v t := by
  cases h with
  | int h => exact .int h
  | bl => exact .bl
  | non => exact .non
  | str h => exact .str h
  | word h => exact .word (h.gr e)
theorem log_100 {i : Int} (h : i.natAbs < 2 ^ 100) : i.natAbs.log2 < 1920 := by
  by_cases hz : i.natAbs = 0
  · rw [hz]
    decide
  · exact Nat.lt_trans ((Nat.log2_lt hz).mpr h) (by decide)
theorem str_len {i : Int} (h : i.natAbs < 2 ^ 100) : ((toString i : String) : Str).length ≤ 100 := by
  have big : (2 : Nat) ^ 100 ≤ 10 ^ 40 := by decide
  by_cases h0 : 0 ≤ i
  · have h1 : ((toString i : String) : Str).length ≤ 40 := toString_length_le h0 (by decide) (by omega)
    omega
  · have h1 : ((toString (0 - i) : String) : Str).length ≤ 40 := toString_length_le (by omega) (by decide) (by omega)
    have e := len_text_neg (n := i) (by omega)
    show (Str.ofString (toString i)).length ≤ 100
    rw [e]
    have h2 : (Str.ofString (toString (0 - i))).length ≤ 40 := h1
    omega
theorem Odd.len (h : Odd C H v t) : t.length ≤ 100 := by
  cases h with
  | int h => exact str_len h
  | @bl b => cases b <;> decide
  | non => decide
  | str h => exact h
  | word h => exact Nat.le_trans (wT_len h.1) (by decide)
end
end Z
/-! DL: pure data over the abstract heap: what is frozen, what a frame owns, the pen. -/
namespace DL
open PySem PySem.Spec PyProof.Rows L2 Z LamX

/-- data -/
inductive D where
  | non | bl (b : Bool) | int (i : Int) | str (x : Str) | ty (n : String) | ref (a : Addr)
  | tup (xs : List D) | lst (xs : List D) | obj (C : Addr) (fs : List (Str × D)) | dic (kvs : List (Key × D))

/-- a tuple stands at a: a tracked one, or one of the written part -/
def TpAt (K : PySem.W.Frag) (H : Hp) (a : Addr) (xs : List V) : Prop := H a = some (.tup xs) ∨
  ∃ (o : Obj) (its : Array Value) (n : Nat), K.lookup a = some o ∧ o.cls = .type "tuple" ∧ o.data = .seq its n ∧ its.size ≤ sizeLine ∧ Vals xs its.toList
theorem TpAt.sqt {K : PySem.W.Frag} {H : Hp} {a : Addr} {xs : List V} (h : TpAt K H a xs) : SqT K H a xs := h.elim (fun h => .inl (.inl h)) .inr
theorem _root_.Z.Ex.tp {K : PySem.W.Frag} {H H' : Hp} {a : Addr} {xs : List V} (e : Ex H H') (h : TpAt K H a xs) : TpAt K H' a xs := h.elim (fun h => .inl (e _ _ h)) .inr
theorem _root_.Z.Ex.tq {K : PySem.W.Frag} {H H' : Hp} {a : Addr} {xs : List V} (e : Ex H H') (h : TpAt K H a xs) : SqT K H' a xs := (e.tp h).sqt
theorem tp_of {K : PySem.W.Frag} {H : Hp} {a : Addr} {xs : List V} (h : H a = some (.tup xs)) : TpAt K H a xs := .inl h
section
variable (K : PySem.W.Frag) (H : Hp)
mutual
/-- over H, the value v is the data -/
def Rep : D → V → Prop
  | .non, v => v = .non
  | .bl b, v => v = .bl b
  | .int i, v => v = .int i
  | .str x, v => v = .str x ∧ x.length ≤ sizeLine
  | .ty n, v => v = .ty n
  | .ref a, v => v = .ref a
  | .tup ds, v => ∃ a xs, v = .ref a ∧ TpAt K H a xs ∧ Reps ds xs ∧ ds.length ≤ sizeLine
  | .lst ds, v => ∃ a xs, v = .ref a ∧ H a = some (.lst xs) ∧ Reps ds xs ∧ ds.length ≤ sizeLine
  | .obj C gs, v => ∃ a dx fs, v = .ref a ∧ H a = some (.ins C dx fs) ∧ RepF gs fs
  | .dic ds, v => ∃ a ks, v = .ref a ∧ H a = some (.dK ks) ∧ RepK ds ks ∧ ds.length ≤ sizeLine
def Reps : List D → List V → Prop
  | [], xs => xs = []
  | d :: ds, xs => ∃ x r, xs = x :: r ∧ Rep d x ∧ Reps ds r
def RepF : List (Str × D) → List (Str × V) → Prop
  | [], xs => xs = []
  | (f, d) :: ds, xs => ∃ x r, xs = (f, x) :: r ∧ Rep d x ∧ RepF ds r
def RepK : List (Key × D) → List (Key × V) → Prop
  | [], xs => xs = []
  | (f, d) :: ds, xs => ∃ x r, xs = (f, x) :: r ∧ Rep d x ∧ RepK ds r
end
end
section
variable {K : PySem.W.Frag} {H H' : Hp}
mutual
theorem Rep.ex (e : Ex H H') : ∀ {d : D} {v : V}, Rep K H d v → Rep K H' d v
  | .non, _, h => h
  | .bl _, _, h => h
  | .int _, _, h => h
  | .str _, _, h => h
  | .ty _, _, h => h
  | .ref _, _, h => h
  | .tup _, _, ⟨a, xs, h1, h2, h3, h4⟩ => ⟨a, xs, h1, e.tp h2, Reps.ex e h3, h4⟩
  | .lst _, _, ⟨a, xs, h1, h2, h3, h4⟩ => ⟨a, xs, h1, e _ _ h2, Reps.ex e h3, h4⟩
  | .obj _ _, _, ⟨a, dx, fs, h1, h2, h3⟩ => ⟨a, dx, fs, h1, e _ _ h2, RepF.ex e h3⟩
  | .dic _, _, ⟨a, ks, h1, h2, h3, h4⟩ => ⟨a, ks, h1, e _ _ h2, RepK.ex e h3, h4⟩
theorem Reps.ex (e : Ex H H') : ∀ {ds : List D} {xs : List V}, Reps K H ds xs → Reps K H' ds xs
  | [], _, h => h
  | _ :: _, _, ⟨x, r, h1, h2, h3⟩ => ⟨x, r, h1, Rep.ex e h2, Reps.ex e h3⟩
theorem RepF.ex (e : Ex H H') : ∀ {ds : List (Str × D)} {xs : List (Str × V)}, RepF K H ds xs → RepF K H' ds xs
  | [], _, h => h
  | (_, _) :: _, _, ⟨x, r, h1, h2, h3⟩ => ⟨x, r, h1, Rep.ex e h2, RepF.ex e h3⟩
theorem RepK.ex (e : Ex H H') : ∀ {ds : List (Key × D)} {xs : List (Key × V)}, RepK K H ds xs → RepK K H' ds xs
  | [], _, h => h
  | (_, _) :: _, _, ⟨x, r, h1, h2, h3⟩ => ⟨x, r, h1, Rep.ex e h2, RepK.ex e h3⟩
end
theorem Reps.len : ∀ {ds : List D} {xs : List V}, Reps K H ds xs → xs.length = ds.length
  | [], _, h => by cases h; rfl
  | _ :: _, _, ⟨_, _, h1, _, h3⟩ => by subst h1; exact congrArg Nat.succ (Reps.len h3)
theorem Reps.app : ∀ {ds es : List D} {xs ys : List V}, Reps K H ds xs → Reps K H es ys → Reps K H (ds ++ es) (xs ++ ys)
  | [], _, _, _, h, h' => by cases h; exact h'
  | _ :: _, _, _, _, ⟨x, r, h1, h2, h3⟩, h' => by subst h1; exact ⟨x, _, rfl, h2, Reps.app h3 h'⟩
theorem Reps.one {d : D} {x : V} (h : Rep K H d x) : Reps K H [d] [x] := ⟨x, [], rfl, h, rfl⟩
theorem Reps.get : ∀ {ds : List D} {xs : List V} (i : Nat) {d : D}, Reps K H ds xs → ds[i]? = some d → ∃ x, xs[i]? = some x ∧ Rep K H d x
  | [], _, i, d, _, e => by simp at e
  | _ :: _, _, 0, d, ⟨x, r, h1, h2, h3⟩, e => by
    subst h1
    cases e
    exact ⟨x, rfl, h2⟩
  | _ :: _, _, i + 1, d, ⟨x, r, h1, h2, h3⟩, e => by
    subst h1
    exact Reps.get i h3 (by simpa using e)
theorem Reps.get' : ∀ {ds : List D} {xs : List V} (i : Nat) {x : V}, Reps K H ds xs → xs[i]? = some x → ∃ d, ds[i]? = some d ∧ Rep K H d x
  | [], _, i, d, h, e => by cases h; simp at e
  | _ :: _, _, 0, d, ⟨x, r, h1, h2, h3⟩, e => by
    subst h1
    cases e
    exact ⟨_, rfl, h2⟩
  | _ :: _, _, i + 1, d, ⟨x, r, h1, h2, h3⟩, e => by
    subst h1
    exact Reps.get' i h3 (by simpa using e)
theorem Reps.take (n : Nat) : ∀ {ds : List D} {xs : List V}, Reps K H ds xs → Reps K H (ds.take n) (xs.take n) := by
  induction n with
  | zero => intro ds xs _; simp only [List.take_zero]; exact rfl
  | succ n ih =>
    intro ds xs h
    match ds, h with
    | [], h => cases h; exact rfl
    | d :: ds, ⟨x, r, h1, h2, h3⟩ => subst h1; exact ⟨x, _, rfl, h2, ih h3⟩
theorem Reps.drop (n : Nat) : ∀ {ds : List D} {xs : List V}, Reps K H ds xs → Reps K H (ds.drop n) (xs.drop n) := by
  induction n with
  | zero => intro ds xs h; simp only [List.drop_zero]; exact h
  | succ n ih =>
    intro ds xs h
    match ds, h with
    | [], h => cases h; exact rfl
    | d :: ds, ⟨x, r, h1, h2, h3⟩ => subst h1; exact ih h3
theorem Reps.set : ∀ {ds : List D} {xs : List V} (i : Nat) {d : D} {x : V}, Reps K H ds xs → Rep K H d x → Reps K H (ds.set i d) (xs.set i x)
  | [], _, i, d, x, h, _ => by cases h; exact rfl
  | _ :: _, _, 0, d, x, ⟨y, r, h1, h2, h3⟩, h => by subst h1; exact ⟨x, r, rfl, h, h3⟩
  | _ :: _, _, i + 1, d, x, ⟨y, r, h1, h2, h3⟩, h => by subst h1; exact ⟨y, _, rfl, h2, Reps.set i h3 h⟩
theorem Reps.rev {ds : List D} {xs : List V} (h : Reps K H ds xs) : Reps K H ds.reverse xs.reverse := by
  induction ds generalizing xs with
  | nil => cases h; exact rfl
  | cons d ds ih =>
    obtain ⟨x, r, rfl, h2, h3⟩ := h
    simp only [List.reverse_cons]
    exact (ih h3).app (.one h2)
theorem RepF.len : ∀ {ds : List (Str × D)} {xs : List (Str × V)}, RepF K H ds xs → xs.length = ds.length
  | [], _, h => by cases h; rfl
  | (_, _) :: _, _, ⟨_, _, h1, _, h3⟩ => by subst h1; exact congrArg Nat.succ (RepF.len h3)
theorem RepF.look (f : Str) : ∀ {ds : List (Str × D)} {xs : List (Str × V)}, RepF K H ds xs → (∀ d, ds.lookup f = some d → ∃ x, xs.lookup f = some x ∧ Rep K H d x) ∧ (ds.lookup f = none → xs.lookup f = none)
  | [], _, h => by cases h; exact ⟨fun d e => by simp at e, fun _ => rfl⟩
  | (g, d) :: ds, _, ⟨x, r, h1, h2, h3⟩ => by
    subst h1
    by_cases e : f == g
    · simp only [List.lookup, e]
      exact ⟨fun d' e' => by cases e'; exact ⟨x, rfl, h2⟩, fun e' => by cases e'⟩
    · have e' : (f == g) = false := by simpa using e
      simp only [List.lookup, e']
      exact RepF.look f h3
def putD (f : Str) (v : D) : List (Str × D) → List (Str × D)
  | [] => [(f, v)]
  | (g, x) :: r => if g = f then (g, v) :: r else (g, x) :: putD f v r
theorem RepF.put {f : Str} {d : D} {x : V} (h : Rep K H d x) : ∀ {ds : List (Str × D)} {xs : List (Str × V)}, RepF K H ds xs → RepF K H (putD f d ds) (putF f x xs)
  | [], _, h' => by cases h'; exact ⟨x, [], rfl, h, rfl⟩
  | (g, y) :: ds, _, ⟨z, r, h1, h2, h3⟩ => by
    subst h1
    show RepF K H (if g = f then (g, d) :: ds else (g, y) :: putD f d ds) (if g = f then (g, x) :: r else (g, z) :: putF f x r)
    split
    · exact ⟨x, r, rfl, h, h3⟩
    · exact ⟨z, _, rfl, h2, RepF.put h h3⟩
end

/-- what one frame owns alone -/
inductive OD where
  | lst (ds : List D) | dic (kvs : List (Key × D)) | obj (C : Addr) (fs : List (Str × D))
/-- what a slot holds: data, or something of its own: made here, or handed in to be changed -/
inductive LV where
  | val (d : D) | own (here : Bool) (o : OD)
/-- the state of a frame: its slots, the pen and how often it may draw -/
structure S where
  lv : List (Option LV)
  p : Addr
  n : Nat
def OD.d : OD → D
  | .lst ds => .lst ds
  | .dic ks => .dic ks
  | .obj C fs => .obj C fs
/-- what stands at a -/
def OwnAt (K : PySem.W.Frag) (f H : Hp) (a : Addr) : OD → Prop
  | .lst ds => f a = none ∧ ∃ xs, H a = some (.lst xs) ∧ Reps K f ds xs ∧ ds.length ≤ sizeLine
  | .dic ks => f a = none ∧ ∃ xs, H a = some (.dK xs) ∧ RepK K f ks xs ∧ ks.length ≤ sizeLine
  | .obj C fs => f a = none ∧ ∃ dx xs, H a = some (.ins C dx xs) ∧ RepF K f fs xs
/-- what stays: all but tables, where there are any -/
abbrev Sol (T : List (Addr × Str)) (o : HO) : Prop := T = [] ∨ isTbl o = false
/-- from one state to a later one: f the frozen part, H the heap, ex what may have been changed -/
structure Fr (T : List (Addr × Str)) (ex : Addr → Prop) (f H f' H' : Hp) : Prop where
  sub : Ex f f'
  inn : Ex f' H'
  old : ∀ a o, H a = some o → f a = none → ¬ ex a → Sol T o → H' a = some o
  out : ∀ a o, H a = some o → Sol T o → f a = none → f' a = none
  there : ∀ a o, H a = some o → Sol T o → ∃ u, H' a = some u ∧ Sol T u
/-- nothing but a table stood there -/
def Nx (T : List (Addr × Str)) (H : Hp) (a : Addr) : Prop := ∀ o, H a = some o → ¬ Sol T o
theorem Nx.of {T : List (Addr × Str)} {H : Hp} {a : Addr} (h : H a = none) : Nx T H a := fun o e => by rw [h] at e; cases e
theorem Nx.no {T : List (Addr × Str)} {H : Hp} {a : Addr} {o : HO} (h : Nx T H a) (e : H a = some o) (t : Sol T o) : False := h o e t
theorem Nx.fr {T : List (Addr × Str)} {ex : Addr → Prop} {f H f' H' : Hp} {a : Addr} (x : Fr T ex f H f' H') (h : H' a = none) : Nx T H a := fun o e t => by
  obtain ⟨u, hu, _⟩ := x.there a o e t
  rw [h] at hu
  cases hu
/-- .. nothing is changed -/
structure Gro (f H f' H' : Hp) : Prop where
  sub : Ex f f'
  inn : Ex f' H'
  all : Ex H H'
  out : ∀ a o, H a = some o → f a = none → f' a = none
  nt : ∀ a o, f' a = some o → f a = none → isTbl o = false
/-- the pen and the tables -/
structure Wo (T : List (Addr × Str)) (f H : Hp) (p : Addr) (n : Nat) : Prop where
  pen : n = 0 ∨ (f p = none ∧ ∃ (l : Addr) (cs : List Int) (i j : Int), H p = some (.lst [.ref l, .int i, .int j]) ∧ f l = some (.lst (cs.map V.int)) ∧ 0 ≤ i ∧ i + n ≤ 1000000 ∧ cs.length ≤ 1000)
  tab : Tabs T H
  nt : ∀ a o, f a = some o → isTbl o = false
def plainO : HO → Bool
  | .lst _ => true
  | .tup _ => true
  | .dK _ => true
  | .dT _ => true
  | .ins _ _ _ => true
  | _ => false
theorem plainO.tbl {u : HO} (h : plainO u = true) : isTbl u = false := by cases u <;> first | rfl | cases h
/-- where a frame began: its frozen part, its heap, what it may change -/
structure Gd where
  f : Hp
  H : Hp
  ex : Addr → Prop
  io : Addr → Prop
  ioe : ∀ a, io a → ex a
  rs : List (Addr × HO)
  pn : Addr → Nat → Prop
  dn : ∀ p n n', n' ≤ n → pn p n → pn p n'
structure Okay (K : PySem.W.Frag) (T : List (Addr × Str)) (g : Gd) (f H : Hp) (σ : L2.St) (s : S) : Prop where
  fr : Fr T g.ex g.f g.H f H
  px : s.n ≠ 0 → g.ex s.p
  pq : g.pn s.p s.n
  wo : Wo T f H s.p s.n
  len : σ.length = s.lv.length
  val : ∀ (i : Nat) (d : D), s.lv[i]? = some (some (LV.val d)) → ∃ v, σ[i]? = some (some v) ∧ Rep K f d v
  own : ∀ (i : Nat) (b : Bool) (o : OD), s.lv[i]? = some (some (LV.own b o)) → ∃ a : Addr, σ[i]? = some (some (V.ref a)) ∧ OwnAt K f H a o ∧ (b = true → Nx T g.H a) ∧ (b = false → g.io a) ∧ (s.n ≠ 0 → a ≠ s.p)
  rs : ∀ q ∈ g.rs, H q.1 = some q.2 ∧ f q.1 = none ∧ Nx T g.H q.1 ∧ plainO q.2 = true ∧ (s.n ≠ 0 → q.1 ≠ s.p) ∧ ∀ (i : Nat) (b : Bool) (o : OD), s.lv[i]? = some (some (LV.own b o)) → σ[i]? ≠ some (some (V.ref q.1))
  one : ∀ (i j : Nat) (bi : Bool) (oi : OD) (bj : Bool) (oj : OD), i ≠ j → s.lv[i]? = some (some (LV.own bi oi)) → s.lv[j]? = some (some (LV.own bj oj)) → σ[i]? ≠ σ[j]?
section
variable {K : PySem.W.Frag} {T : List (Addr × Str)} {ex : Addr → Prop} {g : Gd} {f f' f'' H H' H'' : Hp} {σ : L2.St} {s : S} {a : Addr} {o : OD} {d : D} {v : V} {i : Nat}
theorem Fr.refl (h : Ex f H) : Fr T ex f H f H := ⟨Ex.refl _, h, fun _ _ h _ _ _ => h, fun _ _ _ _ h => h, fun _ o h t => ⟨o, h, t⟩⟩
theorem Fr.trans (x : Fr T ex f H f' H') (y : Fr T ex f' H' f'' H'') : Fr T ex f H f'' H'' := by
  refine ⟨x.sub.trans y.sub, y.inn, fun a o h n e t => y.old a o (x.old a o h n e t) (x.out a o h t n) e t, fun a o h t n => ?_, fun a o h t => ?_⟩
  · obtain ⟨u, h', t'⟩ := x.there a o h t
    exact y.out a u h' t' (x.out a o h t n)
  · obtain ⟨u, h', t'⟩ := x.there a o h t
    exact y.there a u h' t'
theorem no_new {a : Addr} {o : HO} (h : f a = some o) (n : f a = none) : isTbl o = false := by
  rw [n] at h
  cases h
theorem Gro.refl (h : Ex f H) : Gro f H f H := ⟨Ex.refl _, h, Ex.refl _, fun _ _ _ h => h, fun _ _ => no_new⟩
theorem Gro.trans (x : Gro f H f' H') (y : Gro f' H' f'' H'') : Gro f H f'' H'' := ⟨x.sub.trans y.sub, y.inn, x.all.trans y.all, fun a o h n => y.out a o (x.all _ _ h) (x.out a o h n), fun a o h n => by
  cases q : f' a with
  | none => exact y.nt a o h q
  | some u =>
    have e := y.sub _ _ q
    rw [h] at e
    cases e
    exact x.nt a o q n⟩
theorem Gro.fr (x : Gro f H f' H') : Fr T ex f H f' H' := ⟨x.sub, x.inn, fun a o h _ _ _ => x.all a o h, fun a o h _ n => x.out a o h n, fun a o h t => ⟨o, x.all a o h, t⟩⟩
/-- a new object, frozen at once -/
theorem Gro.new {p : Addr} {u : HO} (h : Ex f H) (hp : H p = none) (ht : isTbl u = false := by rfl) : Gro f H (upd f p u) (upd H p u) := by
  have hf : f p = none := h.free hp
  refine ⟨Ex.new hf, fun a o e => ?_, Ex.new hp, fun a o e n => ?_, fun a o e n => ?_⟩
  · by_cases z : a = p
    · subst z
      rw [upd_same] at e ⊢
      exact e
    · rw [upd_ne z] at e ⊢
      exact h _ _ e
  · rw [upd_ne (ne_of_none e hp)]
    exact n
  · by_cases z : a = p
    · subst z
      rw [upd_same] at e
      cases e
      exact ht
    · rw [upd_ne z, n] at e
      cases e
/-- a new object, not frozen -/
theorem Gro.lay {p : Addr} {u : HO} (h : Ex f H) (hp : H p = none) : Gro f H f (upd H p u) :=
  ⟨Ex.refl _, h.trans (Ex.new hp), Ex.new hp, fun _ _ _ n => n, fun _ _ => no_new⟩
theorem Wo.gro {p : Addr} {n : Nat} (x : Gro f H f' H') (w : Wo T f H p n) : Wo T f' H' p n := by
  refine ⟨?_, w.tab.ext x.all, fun a o h => ?_⟩
  · rcases w.pen with h | ⟨h, l, cs, i, j, h1, h2, h3⟩
    · exact .inl h
    · exact .inr ⟨x.out _ _ h1 h, l, cs, i, j, x.all _ _ h1, x.sub _ _ h2, h3⟩
  · cases q : f a with
    | none => exact x.nt a o h q
    | some u =>
      have e := x.sub _ _ q
      rw [h] at e
      cases e
      exact w.nt a o q
theorem OwnAt.gro (x : Gro f H f' H') (w : OwnAt K f H a o) : OwnAt K f' H' a o := by
  cases o with
  | lst ds =>
    obtain ⟨n, xs, h, r, l⟩ := w
    exact ⟨x.out _ _ h n, xs, x.all _ _ h, r.ex x.sub, l⟩
  | dic ds =>
    obtain ⟨n, xs, h, r, l⟩ := w
    exact ⟨x.out _ _ h n, xs, x.all _ _ h, r.ex x.sub, l⟩
  | obj C ds =>
    obtain ⟨n, dx, xs, h, r⟩ := w
    exact ⟨x.out _ _ h n, dx, xs, x.all _ _ h, r.ex x.sub⟩
theorem Okay.gro (x : Gro f H f' H') (k : Okay K T g f H σ s) : Okay K T g f' H' σ s := by
  refine ⟨k.fr.trans x.fr, k.px, k.pq, k.wo.gro x, k.len, fun i d h => ?_, fun i b o h => ?_, fun q hq => ?_, k.one⟩
  · obtain ⟨v, h1, h2⟩ := k.val i d h
    exact ⟨v, h1, h2.ex x.sub⟩
  · obtain ⟨a, h1, h2, h3⟩ := k.own i b o h
    exact ⟨a, h1, h2.gro x, h3⟩
  · obtain ⟨q1, q2, q3⟩ := k.rs q hq
    exact ⟨x.all _ _ q1, x.out _ _ q1 q2, q3⟩
theorem OwnAt.there (w : OwnAt K f H a o) : f a = none ∧ ∃ u, H a = some u ∧ isTbl u = false := by
  cases o with
  | lst ds => exact ⟨w.1, _, w.2.choose_spec.1, rfl⟩
  | dic ds => exact ⟨w.1, _, w.2.choose_spec.1, rfl⟩
  | obj C ds => exact ⟨w.1, _, w.2.choose_spec.choose_spec.1, rfl⟩
/-- a slot is set to data -/
theorem Okay.set (k : Okay K T g f H σ s) (h : Rep K f d v) : Okay K T g f H (σ.set i (some v)) { s with lv := s.lv.set i (some (.val d)) } := by
  refine ⟨k.fr, k.px, k.pq, k.wo, by simp [k.len], fun j e h' => ?_, fun j b o h' => ?_, fun q hq => ?_, fun j l bi oi bj oj ne h1 h2 => ?_⟩
  · dsimp only at h'
    rw [List.getElem?_set] at h' ⊢
    split at h'
    · rename_i ej
      subst ej
      split at h'
      · rename_i hl
        rw [if_pos rfl, if_pos (by rw [k.len]; exact hl)]
        cases h'
        exact ⟨v, rfl, h⟩
      · cases h'
    · rename_i ej
      rw [if_neg ej]
      exact k.val j e h'
  · dsimp only at h'
    rw [List.getElem?_set] at h' ⊢
    split at h'
    · split at h' <;> cases h'
    · rename_i ej
      rw [if_neg ej]
      exact k.own j b o h'
  · obtain ⟨q1, q2, q3, q4, q5, q6⟩ := k.rs q hq
    refine ⟨q1, q2, q3, q4, q5, fun j b o h' => ?_⟩
    dsimp only at h'
    rw [List.getElem?_set] at h' ⊢
    split at h'
    · split at h' <;> cases h'
    · rename_i ej
      rw [if_neg ej]
      exact q6 j b o h'
  · dsimp only at h1 h2
    rw [List.getElem?_set] at h1 h2 ⊢
    rw [List.getElem?_set]
    split at h1
    · split at h1 <;> cases h1
    · rename_i e1
      split at h2
      · split at h2 <;> cases h2
      · rename_i e2
        rw [if_neg e1, if_neg e2]
        exact k.one j l bi oi bj oj ne h1 h2
/-- a slot is set to something new of the frame's own -/
theorem Okay.setOwn (k : Okay K T g f H σ s) (h : OwnAt K f H a o) (h0 : Nx T g.H a) (hs : ∀ (j : Nat) (b : Bool) (u : OD), s.lv[j]? = some (some (LV.own b u)) → σ[j]? ≠ some (some (V.ref a))) (hp : s.n ≠ 0 → a ≠ s.p) (hr : ∀ q ∈ g.rs, q.1 ≠ a) :
    Okay K T g f H (σ.set i (some (.ref a))) { s with lv := s.lv.set i (some (.own true o)) } := by
  refine ⟨k.fr, k.px, k.pq, k.wo, by simp [k.len], fun j e h' => ?_, fun j b o h' => ?_, fun q hq => ?_, fun j l bi oi bj oj ne h1 h2 => ?_⟩
  · dsimp only at h'
    rw [List.getElem?_set] at h' ⊢
    split at h'
    · split at h' <;> cases h'
    · rename_i ej
      rw [if_neg ej]
      exact k.val j e h'
  · dsimp only at h'
    rw [List.getElem?_set] at h' ⊢
    split at h'
    · rename_i ej
      subst ej
      split at h'
      · rename_i hl
        rw [if_pos rfl, if_pos (by rw [k.len]; exact hl)]
        cases h'
        exact ⟨a, rfl, h, fun _ => h0, fun z => (by cases z), hp⟩
      · cases h'
    · rename_i ej
      rw [if_neg ej]
      exact k.own j b o h'
  · obtain ⟨q1, q2, q3, q4, q5, q6⟩ := k.rs q hq
    refine ⟨q1, q2, q3, q4, q5, fun j b o h' => ?_⟩
    dsimp only at h'
    rw [List.getElem?_set] at h' ⊢
    split at h'
    · rename_i ej
      subst ej
      split at h'
      · rename_i hl
        rw [if_pos rfl, if_pos (by rw [k.len]; exact hl)]
        exact fun z => hr q hq (V.ref.inj (Option.some.inj (Option.some.inj z))).symm
      · cases h'
    · rename_i ej
      rw [if_neg ej]
      exact q6 j b o h'
  · dsimp only at h1 h2
    rw [List.getElem?_set] at h1 h2 ⊢
    rw [List.getElem?_set]
    split at h1
    · rename_i e1
      subst e1
      split at h2
      · rename_i e2
        exact absurd e2 ne
      · rename_i e2
        split at h1
        · rename_i hl
          rw [if_pos rfl, if_pos (by rw [k.len]; exact hl), if_neg e2]
          exact fun z => hs l _ _ h2 z.symm
        · cases h1
    · rename_i e1
      split at h2
      · rename_i e2
        subst e2
        split at h2
        · rename_i hl
          rw [if_neg e1, if_pos rfl, if_pos (by rw [k.len]; exact hl)]
          exact hs j _ _ h1
        · cases h2
      · rename_i e2
        rw [if_neg e1, if_neg e2]
        exact k.one j l bi oi bj oj ne h1 h2
/-- a slot's own thing is frozen -/
theorem OwnAt.rep (h : OwnAt K f H a o) : ∃ u, H a = some u ∧ f a = none ∧ isTbl u = false ∧ Rep K (upd f a u) o.d (.ref a) := by
  cases o with
  | lst ds =>
    obtain ⟨n, xs, h, r, l⟩ := h
    exact ⟨_, h, n, rfl, a, xs, rfl, upd_same, r.ex (Ex.new n), l⟩
  | dic ds =>
    obtain ⟨n, xs, h, r, l⟩ := h
    exact ⟨_, h, n, rfl, a, xs, rfl, upd_same, r.ex (Ex.new n), l⟩
  | obj C ds =>
    obtain ⟨n, dx, xs, h, r⟩ := h
    exact ⟨_, h, n, rfl, a, dx, xs, rfl, upd_same, r.ex (Ex.new n)⟩
theorem Okay.freeze (k : Okay K T g f H σ s) (h : s.lv[i]? = some (some (.own true o))) : ∃ (a : Addr) (f' : Hp), Ex f f' ∧ Okay K T g f' H σ { s with lv := s.lv.set i (some (.val o.d)) } ∧ σ[i]? = some (some (.ref a)) ∧ Rep K f' o.d (.ref a) := by
  obtain ⟨a, h1, h2, h3, _, h4⟩ := k.own i true o h
  obtain ⟨u, e1, e2, e3, r⟩ := h2.rep
  have e : Ex f (upd f a u) := Ex.new e2
  have out : ∀ b o, H b = some o → f b = none → b ≠ a → upd f a u b = none := fun b o _ n ne => by rw [upd_ne ne]; exact n
  have hli : i < s.lv.length := (List.getElem?_eq_some_iff.mp h).1
  refine ⟨a, upd f a u, e, ⟨⟨k.fr.sub.trans e, fun b o q => ?_, fun b o q n x t => k.fr.old b o q n x t, fun b o q t n => ?_, k.fr.there⟩, k.px, k.pq, ⟨?_, k.wo.tab, fun c w q => ?_⟩, by simp [k.len], fun j d h' => ?_, fun j b o' h' => ?_, fun q hq => ?_, fun j l bi oi bj oj ne q1 q2 => ?_⟩, h1, r⟩
  · by_cases z : b = a
    · subst z
      rw [upd_same] at q
      rw [e1]
      exact q
    · rw [upd_ne z] at q
      exact k.fr.inn _ _ q
  · obtain ⟨w, hw, _⟩ := k.fr.there b o q t
    refine out b w hw (k.fr.out b o q t n) fun z => ?_
    subst z
    exact (h3 rfl).no q t
  · rcases k.wo.pen with z | ⟨z, l, cs, i', j', q1, q2, q3⟩
    · exact .inl z
    · by_cases hn : s.n = 0
      · exact .inl hn
      · exact .inr ⟨out _ _ q1 z (Ne.symm (h4 hn)), l, cs, i', j', q1, e _ _ q2, q3⟩
  · by_cases z : c = a
    · subst z
      rw [upd_same] at q
      cases q
      exact e3
    · rw [upd_ne z] at q
      exact k.wo.nt c w q
  · dsimp only at h'
    rw [List.getElem?_set] at h'
    split at h'
    · rename_i ej
      subst ej
      cases h'
      exact ⟨.ref a, h1, r⟩
    · obtain ⟨v, p1, p2⟩ := k.val j d h'
      exact ⟨v, p1, p2.ex e⟩
  · dsimp only at h'
    rw [List.getElem?_set] at h'
    split at h'
    · cases h'
    · rename_i ej
      obtain ⟨b', p1, p2, p3⟩ := k.own j b o' h'
      have ne : b' ≠ a := fun z => k.one i j _ _ _ _ ej h h' (by rw [h1, p1, z])
      refine ⟨b', p1, ?_, p3⟩
      have nb : upd f a u b' = none := by rw [upd_ne ne]; exact p2.there.1
      cases o' with
      | lst ds =>
        obtain ⟨n, xs, q, r, l⟩ := p2
        exact ⟨nb, xs, q, r.ex e, l⟩
      | dic ds =>
        obtain ⟨n, xs, q, r, l⟩ := p2
        exact ⟨nb, xs, q, r.ex e, l⟩
      | obj C ds =>
        obtain ⟨n, dx, xs, q, r⟩ := p2
        exact ⟨nb, dx, xs, q, r.ex e⟩
  · obtain ⟨q1, q2, q3, q4, q5, q6⟩ := k.rs q hq
    refine ⟨q1, out _ _ q1 q2 fun z => q6 i _ _ h (by rw [h1, z]), q3, q4, q5, fun j b o h' => ?_⟩
    dsimp only at h'
    rw [List.getElem?_set] at h'
    split at h'
    · cases h'
    · exact q6 j b o h'
  · dsimp only at q1 q2
    rw [List.getElem?_set] at q1 q2
    split at q1
    · cases q1
    · split at q2
      · cases q2
      · exact k.one j l bi oi bj oj ne q1 q2
/-- a slot's own thing is changed -/
theorem Okay.mut {o' : OD} {u : HO} (k : Okay K T g f H σ s) {b : Bool} (h : s.lv[i]? = some (some (.own b o))) (hs : σ[i]? = some (some (.ref a))) (hc : isTbl u = false) (h' : OwnAt K f (upd H a u) a o') :
    Okay K T g f (upd H a u) σ { s with lv := s.lv.set i (some (.own b o')) } := by
  obtain ⟨a', h1, h2, h3, h3', h4⟩ := k.own i b o h
  rw [hs] at h1
  cases h1
  obtain ⟨n, w, hw, tw⟩ := h2.there
  have hli : i < s.lv.length := (List.getElem?_eq_some_iff.mp h).1
  have fr1 : Ex f (upd H a u) := fun c o q => by
    rw [upd_ne (ne_of_none q n)]
    exact k.fr.inn _ _ q
  refine ⟨⟨k.fr.sub, fr1, fun c o q nn x t => ?_, k.fr.out, fun c o q t => ?_⟩, k.px, k.pq, ⟨?_, fun c hc' => ?_, k.wo.nt⟩, by simp [k.len], fun j d q => ?_, fun j b2 o2 q => ?_, fun q hq => ?_, fun j l bi oi bj oj ne q1 q2 => ?_⟩
  · have ne : c ≠ a := fun z => by
      subst z
      cases b with
      | true => exact (h3 rfl).no q t
      | false => exact x (g.ioe _ (h3' rfl))
    rw [upd_ne ne]
    exact k.fr.old c o q nn x t
  · by_cases z : c = a
    · subst z
      exact ⟨u, upd_same, .inr hc⟩
    · rw [upd_ne z]
      exact k.fr.there c o q t
  · rcases k.wo.pen with z | ⟨z, l, cs, i', j', q1, q2, q3⟩
    · exact .inl z
    · by_cases hn : s.n = 0
      · exact .inl hn
      · exact .inr ⟨z, l, cs, i', j', by rw [upd_ne (Ne.symm (h4 hn))]; exact q1, q2, q3⟩
  · obtain ⟨ps, t1, t2, t3⟩ := k.wo.tab c hc'
    have ne : c.1 ≠ a := fun z => by
      rw [z, hw] at t1
      cases t1
      cases tw
    refine ⟨ps, by rw [upd_ne ne]; exact t1, t2, fun pos cv e => ?_⟩
    obtain ⟨cc, e1, e2⟩ := t3 pos cv e
    have ne2 : cc ≠ a := fun z => by
      subst z
      rw [hw] at e2
      cases e2
      cases o with
      | lst ds => obtain ⟨_, _, q, _⟩ := h2; rw [hw] at q; unfold CodeO at q; cases q
      | dic ds => obtain ⟨_, _, q, _⟩ := h2; rw [hw] at q; unfold CodeO at q; cases q
      | obj C ds => obtain ⟨_, _, _, q, _⟩ := h2; rw [hw] at q; unfold CodeO at q; cases q
    exact ⟨cc, e1, by rw [upd_ne ne2]; exact e2⟩
  · dsimp only at q
    rw [List.getElem?_set] at q
    split at q
    · cases q
    · exact k.val j d q
  · dsimp only at q
    rw [List.getElem?_set] at q
    split at q
    · rename_i ej
      subst ej
      cases q
      exact ⟨a, hs, h', h3, h3', h4⟩
    · rename_i ej
      obtain ⟨c, p1, p2, p3⟩ := k.own j b2 o2 q
      have ne : c ≠ a := fun z => k.one i j _ _ _ _ ej h q (by rw [hs, p1, z])
      refine ⟨c, p1, ?_, p3⟩
      cases o2 with
      | lst ds =>
        obtain ⟨n, xs, q, r⟩ := p2
        exact ⟨n, xs, by rw [upd_ne ne]; exact q, r⟩
      | dic ds =>
        obtain ⟨n, xs, q, r⟩ := p2
        exact ⟨n, xs, by rw [upd_ne ne]; exact q, r⟩
      | obj C ds =>
        obtain ⟨n, dx, xs, q, r⟩ := p2
        exact ⟨n, dx, xs, by rw [upd_ne ne]; exact q, r⟩
  · obtain ⟨q1, q2, q3, q4, q5, q6⟩ := k.rs q hq
    have ne : q.1 ≠ a := fun z => q6 i _ _ h (by rw [hs, z])
    refine ⟨by rw [upd_ne ne]; exact q1, q2, q3, q4, q5, fun j b' o'' h' => ?_⟩
    dsimp only at h'
    rw [List.getElem?_set] at h'
    split at h'
    · rename_i e
      subst e
      exact q6 i _ _ h
    · exact q6 j _ _ h'
  · dsimp only at q1 q2
    rw [List.getElem?_set] at q1 q2
    have own1 : ∀ (j : Nat) (bj : Bool) (oj : OD), (if i = j then (if i < s.lv.length then some (some (LV.own b o')) else none) else s.lv[j]?) = some (some (LV.own bj oj)) → ∃ oj', s.lv[j]? = some (some (LV.own bj oj')) := fun j bj oj z => by
      split at z
      · rename_i e
        subst e
        cases z
        exact ⟨o, h⟩
      · exact ⟨_, z⟩
    obtain ⟨o1, q1⟩ := own1 _ _ _ q1
    obtain ⟨o2, q2⟩ := own1 _ _ _ q2
    exact k.one j l _ _ _ _ ne q1 q2
/-- what a call may change: the pen -/
abbrev pex (p : Addr) (n : Nat) : Addr → Prop := fun a => n ≠ 0 ∧ a = p
/-- behind a call -/
theorem Okay.call {n' : Nat} (k : Okay K T g f H σ s) (x : Fr T (pex s.p s.n) f H f' H') (w : Wo T f' H' s.p n') (hn : n' ≤ s.n) : Okay K T g f' H' σ { s with n := n' } := by
  have px : ∀ a, pex s.p s.n a → g.ex a := fun a h => h.2 ▸ k.px h.1
  refine ⟨k.fr.trans ⟨x.sub, x.inn, fun a o h q e t => x.old a o h q (fun z => e (px a z)) t, x.out, x.there⟩, fun z => k.px (fun y => z (by show n' = 0; omega)), g.dn _ _ _ hn k.pq, w, k.len, fun i d h => ?_, fun i b o h => ?_, fun q hq => ?_, k.one⟩
  · obtain ⟨v, h1, h2⟩ := k.val i d h
    exact ⟨v, h1, h2.ex x.sub⟩
  · obtain ⟨a, h1, h2, h3, h4, h5⟩ := k.own i b o h
    refine ⟨a, h1, ?_, h3, h4, fun z => h5 fun y => z (by show n' = 0; omega)⟩
    have ne : ¬ pex s.p s.n a := fun z => h5 z.1 z.2
    cases o with
    | lst ds =>
      obtain ⟨n, xs, q, r, l⟩ := h2
      exact ⟨x.out _ _ q (.inr rfl) n, xs, x.old _ _ q n ne (.inr rfl), r.ex x.sub, l⟩
    | dic ds =>
      obtain ⟨n, xs, q, r, l⟩ := h2
      exact ⟨x.out _ _ q (.inr rfl) n, xs, x.old _ _ q n ne (.inr rfl), r.ex x.sub, l⟩
    | obj C ds =>
      obtain ⟨n, dx, xs, q, r⟩ := h2
      exact ⟨x.out _ _ q (.inr rfl) n, dx, xs, x.old _ _ q n ne (.inr rfl), r.ex x.sub⟩
  · obtain ⟨q1, q2, q3, q4, q5, q6⟩ := k.rs q hq
    exact ⟨x.old _ _ q1 q2 (fun z => q5 z.1 z.2) (.inr (plainO.tbl q4)), x.out _ _ q1 (.inr (plainO.tbl q4)) q2, q3, q4, fun z => q5 fun y => z (by show n' = 0; omega), q6⟩
/-- something new is laid aside -/
theorem Okay.rsNew {u : HO} (k : Okay K T g f H σ s) (hn : H a = none) (ht : plainO u = true) (hp : s.n ≠ 0 → a ≠ s.p) : Okay K T { g with rs := (a, u) :: g.rs } f (upd H a u) σ s := by
  have gr : Gro f H f (upd H a u) := Gro.lay k.fr.inn hn
  have k2 := k.gro gr
  refine ⟨k2.fr, k2.px, k2.pq, k2.wo, k2.len, k2.val, k2.own, fun q hq => ?_, k2.one⟩
  rcases List.mem_cons.mp hq with rfl | hq
  · refine ⟨upd_same, k.fr.inn.free hn, .fr k.fr hn, ht, hp, fun i b o h z => ?_⟩
    · obtain ⟨c, h1, h2, _⟩ := k.own i b o h
      rw [h1] at z
      cases z
      obtain ⟨_, w, hw, _⟩ := h2.there
      rw [hn] at hw
      cases hw
  · exact k2.rs q hq
/-- .. is changed -/
theorem Okay.rsSet {u u' : HO} {r : List (Addr × HO)} (k : Okay K T { g with rs := (a, u) :: r } f H σ s) (hr : ∀ q ∈ r, q.1 ≠ a) (ht : plainO u' = true) : Okay K T { g with rs := (a, u') :: r } f (upd H a u') σ s := by
  obtain ⟨q1, q2, q3, q4, q5, q6⟩ := k.rs (a, u) (by simp)
  dsimp only at q1 q2 q3 q4 q5 q6
  have ne : ∀ {c : Addr} {o : HO}, f c = some o → c ≠ a := fun h z => by
    subst z
    rw [q2] at h
    cases h
  refine ⟨⟨k.fr.sub, fun c o h => ?_, fun c o h n x t => ?_, k.fr.out, fun c o h t => ?_⟩, k.px, k.pq, ⟨?_, fun c hc => ?_, k.wo.nt⟩, k.len, k.val, fun i b o h => ?_, fun q hq => ?_, k.one⟩
  · rw [upd_ne (ne h)]
    exact k.fr.inn _ _ h
  · have z : c ≠ a := fun z => by
      subst z
      exact q3.no h t
    rw [upd_ne z]
    exact k.fr.old c o h n x t
  · have z : c ≠ a := fun z => by
      subst z
      exact q3.no h t
    rw [upd_ne z]
    exact k.fr.there c o h t
  · rcases k.wo.pen with z | ⟨z, l, cs, i', j', p1, p2, p3⟩
    · exact .inl z
    · by_cases hn : s.n = 0
      · exact .inl hn
      · exact .inr ⟨z, l, cs, i', j', by rw [upd_ne (Ne.symm (q5 hn))]; exact p1, p2, p3⟩
  · obtain ⟨ps, t1, t2, t3⟩ := k.wo.tab c hc
    have n1 : c.1 ≠ a := fun z => by
      rw [z, q1] at t1
      cases t1
      cases q4
    refine ⟨ps, by rw [upd_ne n1]; exact t1, t2, fun pos cv e => ?_⟩
    obtain ⟨cc, e1, e2⟩ := t3 pos cv e
    by_cases z : cc = a
    · subst z
      rw [q1] at e2
      cases e2
      cases q4
    · exact ⟨cc, e1, by rw [upd_ne z]; exact e2⟩
  · obtain ⟨c, h1, h2, h3⟩ := k.own i b o h
    have z : c ≠ a := fun z => q6 i b o h (by rw [h1, z])
    refine ⟨c, h1, ?_, h3⟩
    cases o with
    | lst ds =>
      obtain ⟨n, xs, q, r⟩ := h2
      exact ⟨n, xs, by rw [upd_ne z]; exact q, r⟩
    | dic ds =>
      obtain ⟨n, xs, q, r⟩ := h2
      exact ⟨n, xs, by rw [upd_ne z]; exact q, r⟩
    | obj C ds =>
      obtain ⟨n, dx, xs, q, r⟩ := h2
      exact ⟨n, dx, xs, by rw [upd_ne z]; exact q, r⟩
  · rcases List.mem_cons.mp hq with rfl | hq
    · exact ⟨upd_same, q2, q3, ht, q5, q6⟩
    · obtain ⟨p1, p2⟩ := k.rs q (by simp [hq])
      exact ⟨by rw [upd_ne (hr q hq)]; exact p1, p2⟩
theorem Okay.rsDrop {q : Addr × HO} {r : List (Addr × HO)} (k : Okay K T { g with rs := q :: r } f H σ s) : Okay K T { g with rs := r } f H σ s :=
  ⟨k.fr, k.px, k.pq, k.wo, k.len, k.val, k.own, fun p hp => k.rs p (by simp [hp]), k.one⟩
/-- tables grow, all else stays -/
theorem Okay.tx (k : Okay K T g f H σ s) (hT : T ≠ []) (x : Tx H H') (t : Tabs T H') : Okay K T g f H' σ s := by
  have fr : Ex f H' := fun a o h => x a o (k.fr.inn a o h) (k.wo.nt a o h)
  refine ⟨⟨k.fr.sub, fr, fun a o h n e z => x a o (k.fr.old a o h n e z) (z.resolve_left hT), k.fr.out, fun a o h t => ?_⟩, k.px, k.pq, ⟨?_, t, k.wo.nt⟩, k.len, k.val, fun i b o h => ?_, fun q hq => ?_, k.one⟩
  · obtain ⟨u, hu, tu⟩ := k.fr.there a o h t
    exact ⟨u, x a u hu (tu.resolve_left hT), tu⟩
  · rcases k.wo.pen with z | ⟨z, l, cs, i', j', p1, p2, p3⟩
    · exact .inl z
    · exact .inr ⟨z, l, cs, i', j', x _ _ p1 rfl, p2, p3⟩
  · obtain ⟨a, h1, h2, h3⟩ := k.own i b o h
    refine ⟨a, h1, ?_, h3⟩
    cases o with
    | lst ds =>
      obtain ⟨n, xs, q, r⟩ := h2
      exact ⟨n, xs, x _ _ q rfl, r⟩
    | dic ds =>
      obtain ⟨n, xs, q, r⟩ := h2
      exact ⟨n, xs, x _ _ q rfl, r⟩
    | obj C ds =>
      obtain ⟨n, dx, xs, q, r⟩ := h2
      exact ⟨n, dx, xs, x _ _ q rfl, r⟩
  · obtain ⟨q1, q2⟩ := k.rs q hq
    exact ⟨x _ _ q1 (plainO.tbl q2.2.2.1), q2⟩
end
end DL

/-! DL: readings by data: expressions, tests, statements. -/
namespace DL
open PySem PySem.Spec PyProof.Rows L2 Z LamX

abbrev XD := Value → List (Str × D) → S → Prop
abbrev DE := S → (D → S → Prop) → XD → Prop
abbrev DT := S → (Bool → S → Prop) → XD → Prop
abbrev DR := S → (List D → S → Prop) → XD → Prop
abbrev DO := S → (Option Int → S → Prop) → XD → Prop
abbrev DG := D → S → (S → Prop) → Prop
/-- what is wanted behind a statement -/
structure En where
  nx : S → Prop
  rt : D → S → Prop
  bk : S → Prop
  ct : S → Prop
  ex : XD
abbrev DS := S → En → Prop
/-- a two-place operation on data, a one-place one -/
abbrev D2 := D → D → (D → Prop) → Prop
abbrev D1 := D → (D → Prop) → Prop

section
variable (K : PySem.W.Frag) (T : List (Addr × Str)) (W : WX)
def XOk (g : Gd) (σ : L2.St) (XQ : XD) : Prop := ∀ cls fs s f H xs dd, Okay K T g f H σ s → f dd = some (.xd xs) → RepF K f fs xs → XQ cls fs s → W cls (some dd) σ H
def XOkS (g : Gd) (XQ : XD) : Prop := ∀ σ, XOk K T W g σ XQ
def lE (t : DE) : TE := fun σ H Q => ∃ g f s XQ Kd, Okay K T g f H σ s ∧ XOk K T W g σ XQ ∧ t s Kd XQ ∧ ∀ d s' v f' H', Kd d s' → Ex f f' → Okay K T g f' H' σ s' → Rep K f' d v → Q v H'
def lT (t : DT) : TT := fun σ H Q => ∃ g f s XQ Kd, Okay K T g f H σ s ∧ XOk K T W g σ XQ ∧ t s Kd XQ ∧ ∀ b s' f' H', Kd b s' → Ex f f' → Okay K T g f' H' σ s' → Q b H'
def lA (t : DR) : TA := fun σ H Q => ∃ g f s XQ Kd, Okay K T g f H σ s ∧ XOk K T W g σ XQ ∧ t s Kd XQ ∧ ∀ ds s' vs f' H', Kd ds s' → Ex f f' → Okay K T g f' H' σ s' → Reps K f' ds vs → Q vs H'
def lO (t : DO) : TO := fun σ H Q => ∃ g f s XQ Kd, Okay K T g f H σ s ∧ XOk K T W g σ XQ ∧ t s Kd XQ ∧ ∀ o s' f' H', Kd o s' → Ex f f' → Okay K T g f' H' σ s' → Q o H'
def lG (vs : List Nat) (t : DG) : TG := fun v σ H N => ∃ g f s d Kd, Okay K T g f H σ s ∧ Rep K f d v ∧ t d s Kd ∧ ∀ s' σ' f' H', Kd s' → Ex f f' → wipe σ' vs = wipe σ vs → Okay K T g f' H' σ' s' → N σ' H'
def lS (t : DS) : TS := fun Dn σ H => ∃ g f s en, Okay K T g f H σ s ∧ XOkS K T W g en.ex ∧ t s en ∧
  (∀ s' σ' f' H', en.nx s' → Ex f f' → Okay K T g f' H' σ' s' → Dn.nx σ' H') ∧ (∀ s' σ' f' H', en.bk s' → Ex f f' → Okay K T g f' H' σ' s' → Dn.bk σ' H') ∧ (∀ s' σ' f' H', en.ct s' → Ex f f' → Okay K T g f' H' σ' s' → Dn.ct σ' H') ∧
  (∀ d s' σ' v f' H', en.rt d s' → Ex f f' → Okay K T g f' H' σ' s' → Rep K f' d v → Dn.rt v H')
def rP (o : D2) : R2 := fun x y H Q => ∃ f dx dy Kd, Ex f H ∧ Rep K f dx x ∧ Rep K f dy y ∧ o dx dy Kd ∧ ∀ d v f' H', Kd d → Gro f H f' H' → Rep K f' d v → Q v H'
def uP (o : D1) : V → Hp → VK → Prop := fun x H Q => ∃ f dx Kd, Ex f H ∧ Rep K f dx x ∧ o dx Kd ∧ ∀ d v f' H', Kd d → Gro f H f' H' → Rep K f' d v → Q v H'
end
/-! ### readings -/
def dVar (i : Nat) (s : S) (k : D → S → Prop) (_ : XD) : Prop := match s.lv[i]? with
  | some (some (.val d)) => k d s
  | _ => False
def dC (d : D) (s : S) (k : D → S → Prop) (_ : XD) : Prop := k d s
def dBin (o : D2) (ta tb : DE) (s : S) (k : D → S → Prop) (x : XD) : Prop := ta s (fun a s1 => tb s1 (fun b s2 => o a b (fun z => k z s2)) x) x
def dUn (o : D1) (ta : DE) (s : S) (k : D → S → Prop) (x : XD) : Prop := ta s (fun a s1 => o a (fun z => k z s1)) x
/-- truth -/
def tru : D → (Bool → Prop) → Prop
  | .non, k => k false
  | .bl b, k => k b
  | .int i, k => k (i != 0)
  | .str x, k => k ((x.length : Int) != 0)
  | .lst xs, k => k (!xs.isEmpty)
  | .tup xs, k => k (!xs.isEmpty)
  | .dic xs, k => k (!xs.isEmpty)
  | _, _ => False
def dTru (ta : DE) (s : S) (k : Bool → S → Prop) (x : XD) : Prop := ta s (fun a s1 => tru a fun b => k b s1) x
def dTst (ta : DE) (s : S) (k : Bool → S → Prop) (x : XD) : Prop := ta s (fun a s1 => match a with
  | .bl b => k b s1
  | _ => False) x
def dNotT (ta : DT) (s : S) (k : Bool → S → Prop) (x : XD) : Prop := ta s (fun b s1 => k (!b) s1) x
def dAndT (ta tb : DT) (s : S) (k : Bool → S → Prop) (x : XD) : Prop := ta s (fun b s1 => if b = true then tb s1 k x else k false s1) x
def dOrT (ta tb : DT) (s : S) (k : Bool → S → Prop) (x : XD) : Prop := ta s (fun b s1 => if b = true then k true s1 else tb s1 k x) x
def dNot (ta : DE) (s : S) (k : D → S → Prop) (x : XD) : Prop := ta s (fun a s1 => tru a fun b => k (.bl (!b)) s1) x
def dAnd (ta tb : DE) (s : S) (k : D → S → Prop) (x : XD) : Prop := ta s (fun a s1 => tru a fun b => if b = true then tb s1 k x else k a s1) x
def dOr (ta tb : DE) (s : S) (k : D → S → Prop) (x : XD) : Prop := ta s (fun a s1 => tru a fun b => if b = true then k a s1 else tb s1 k x) x
def dIf (tc : DT) (ta tb : DE) (s : S) (k : D → S → Prop) (x : XD) : Prop := tc s (fun b s1 => if b = true then ta s1 k x else tb s1 k x) x
def dChain (o o' : D2) (ta tb tc : DE) (s : S) (k : D → S → Prop) (x : XD) : Prop := ta s (fun a s1 => tb s1 (fun b s2 => o a b fun z => match z with
  | .bl c => if c = true then tc s2 (fun c' s3 => o' b c' (fun z => k z s3)) x else k (.bl false) s2
  | _ => False) x) x
def dNil (s : S) (k : List D → S → Prop) (_ : XD) : Prop := k [] s
def dCons (ta : DE) (tr : DR) (s : S) (k : List D → S → Prop) (x : XD) : Prop := ta s (fun a s1 => tr s1 (fun as s2 => k (a :: as) s2) x) x
def dTup (tr : DR) (s : S) (k : D → S → Prop) (x : XD) : Prop := tr s (fun as s1 => as.length ≤ sizeLine ∧ k (.tup as) s1) x
def dLst (tr : DR) (s : S) (k : D → S → Prop) (x : XD) : Prop := tr s (fun as s1 => as.length ≤ sizeLine ∧ k (.lst as) s1) x
/-! statements -/
def dNext (s : S) (en : En) : Prop := en.nx s
/-- what is left -/
def nxT (u : DS) (en : En) (s : S) : Prop := u s en
def dSeq (t u : DS) (s : S) (en : En) : Prop := t s { en with nx := nxT u en }
def dDrop (te : DE) (s : S) (en : En) : Prop := te s (fun _ s' => en.nx s') en.ex
def dRet (te : DE) (s : S) (en : En) : Prop := te s en.rt en.ex
def dRetN (s : S) (en : En) : Prop := en.rt .non s
def dIfS (tc : DT) (t u : DS) (s : S) (en : En) : Prop := tc s (fun b s1 => if b = true then t s1 en else u s1 en) en.ex
def dBrk (s : S) (en : En) : Prop := en.bk s
def dCnt (s : S) (en : En) : Prop := en.ct s
def S.put (s : S) (i : Nat) (d : D) : S := { s with lv := s.lv.set i (some (.val d)) }
def dSet (i : Nat) (te : DE) (s : S) (en : En) : Prop := te s (fun d s' => en.nx (s'.put i d)) en.ex
def dAsg (te : DE) (tg : DG) (s : S) (en : En) : Prop := te s (fun d s' => tg d s' en.nx) en.ex
def gNm (i : Nat) (d : D) (s : S) (k : S → Prop) : Prop := k (s.put i d)
def gNo (ds : List D) (s : S) (k : S → Prop) : Prop := ds = [] ∧ k s
def gCo (t : DG) (u : List D → S → (S → Prop) → Prop) (ds : List D) (s : S) (k : S → Prop) : Prop := match ds with
  | d :: r => t d s fun s1 => u r s1 k
  | [] => False
def gTu (t : List D → S → (S → Prop) → Prop) (d : D) (s : S) (k : S → Prop) : Prop := match d with
  | .tup ds => t ds s k
  | _ => False
def dPar (i j : Nat) (tr : DR) (s : S) (en : En) : Prop := tr s (fun ds s1 => match ds with
  | [a, b] => en.nx ((s1.put i a).put j b)
  | _ => False) en.ex
def dPar3 (i j l : Nat) (tr : DR) (s : S) (en : En) : Prop := tr s (fun ds s1 => match ds with
  | [a, b, c] => en.nx (((s1.put i a).put j b).put l c)
  | _ => False) en.ex
/-- a slot's own thing becomes data -/
def S.frz (s : S) (i : Nat) : S := match s.lv[i]? with
  | some (some (.own true o)) => s.put i o.d
  | _ => s
def dFrz (i : Nat) (t : DS) (s : S) (en : En) : Prop := t (s.frz i) en
def dAug (i : Nat) (o : D2) (te : DE) (s : S) (en : En) : Prop := match s.lv[i]? with
  | some (some (.val a)) => te s (fun b s1 => o a b fun z => en.nx (s1.put i z)) en.ex
  | _ => False

section
variable {X : Cx} {T : List (Addr × Str)} {W : WX} {a b c e : Expr} {ta tb tc te : DE} {tt tu : DT} {tr : DR} {es : List Expr} {pos : Pos} {st : Stmt} {sts : List Stmt} {t u : DS} {o o' : D2} {i j l : Nat}
theorem _root_.L2.PE.up {e : Expr} {t t' : TE} (h : PE X e t) (k : ∀ σ H Q, t' σ H Q → t σ H Q) : PE X e t' := ⟨fun pins s σ H Q I q => h.run pins s σ H Q I (k _ _ _ q)⟩
theorem _root_.L2.PT.up {e : Expr} {t t' : TT} (h : PT X e t) (k : ∀ σ H Q, t' σ H Q → t σ H Q) : PT X e t' := ⟨fun pins s σ H Q I q => h.run pins s σ H Q I (k _ _ _ q)⟩
theorem _root_.L2.PW.up {e : Expr} {t t' : TT} (h : PW X e t) (k : ∀ σ H Q, t' σ H Q → t σ H Q) : PW X e t' := ⟨fun w pins s σ H Q I q => h.run w pins s σ H Q I (k _ _ _ q)⟩
theorem _root_.L2.PA.up {e : List Expr} {t t' : TA} (h : PA X e t) (k : ∀ σ H Q, t' σ H Q → t σ H Q) : PA X e t' := ⟨fun p pins s σ H Q I q => h.run p pins s σ H Q I (k _ _ _ q)⟩
theorem _root_.L2.PS.up {e : Stmt} {t t' : TS} (h : PS X e t) (k : ∀ D σ H, t' D σ H → t D σ H) : PS X e t' := ⟨fun pins s σ H D I q => h.run pins s σ H D I (k _ _ _ q)⟩
theorem _root_.L2.PSs.up {e : List Stmt} {t t' : TS} (h : PSs X e t) (k : ∀ D σ H, t' D σ H → t D σ H) : PSs X e t' := ⟨fun pins s σ H D I q => h.run pins s σ H D I (k _ _ _ q)⟩
theorem d_var {x : Str} (hN : X.N[i]? = some x) (hv : Vis X.env.scope x) (hd : (x == ("__debug__" : Str)) = false := by decide) (hcd : (x == ("__classdict__" : Str)) = false := by decide) : PE X (.Name x pos) (lE X.K T W (dVar i)) :=
  (pe_var hN hv hd hcd).up fun σ H Q ⟨g, f, s, XQ, Kd, ok, xo, h, hQ⟩ => by
    unfold dVar at h
    split at h
    · rename_i d e
      obtain ⟨v, h1, h2⟩ := ok.val i d e
      exact ⟨v, h1, hQ d s v f H h (Ex.refl _) ok h2⟩
    · exact h.elim
theorem d_c {v : V} {d : D} (h : PE X e (tC v)) (r : ∀ f, Rep X.K f d v) : PE X e (lE X.K T W (dC d)) :=
  h.up fun σ H Q ⟨g, f, s, XQ, Kd, ok, xo, h, hQ⟩ => hQ d s v f H h (Ex.refl _) ok (r f)
theorem d_int {i : Int} {j pos} : PE X (.Constant (.int i) j pos) (lE X.K T W (dC (.int i))) := d_c pe_int fun _ => rfl
theorem d_bl {i : Bool} {j pos} : PE X (.Constant (.bool i) j pos) (lE X.K T W (dC (.bl i))) := d_c pe_bl fun _ => rfl
theorem d_non {j pos} : PE X (.Constant .none j pos) (lE X.K T W (dC .non)) := d_c pe_non fun _ => rfl
theorem d_str {x : Str} {j pos} (h : x.length ≤ sizeLine := by decide) : PE X (.Constant (.str x) j pos) (lE X.K T W (dC (.str x))) := d_c pe_str fun _ => ⟨rfl, h⟩
theorem d_bin {op : Operator} (ho : OpR X (binaryOp op) (rP X.K o)) (ha : PE X a (lE X.K T W ta)) (hb : PE X b (lE X.K T W tb)) : PE X (.BinOp a op b pos) (lE X.K T W (dBin o ta tb)) :=
  (pe_op ho ha hb).up fun σ H Q ⟨g, f, s, XQ, Kd, ok, xo, h, hQ⟩ => ⟨g, f, s, XQ, _, ok, xo, h, fun x s1 v f1 H1 hx e1 ok1 r1 => ⟨g, f1, s1, XQ, _, ok1, xo, hx, fun y s2 u f2 H2 hy e2 ok2 r2 =>
    ⟨f2, x, y, _, ok2.fr.inn, r1.ex e2, r2, hy, fun z u' f3 H3 hz gr r3 => hQ z s2 u' f3 H3 hz (e1.trans (e2.trans gr.sub)) (ok2.gro gr) r3⟩⟩⟩
theorem d_cmp {op : CmpOp} (ho : OpR X (compareOp op) (rP X.K o)) (ha : PE X a (lE X.K T W ta)) (hb : PE X b (lE X.K T W tb)) (hm : behindInMarks op b = false) : PE X (.Compare a [op] [b] pos) (lE X.K T W (dBin o ta tb)) :=
  (pe_cmpR ho ha hb hm).up fun σ H Q ⟨g, f, s, XQ, Kd, ok, xo, h, hQ⟩ => ⟨g, f, s, XQ, _, ok, xo, h, fun x s1 v f1 H1 hx e1 ok1 r1 => ⟨g, f1, s1, XQ, _, ok1, xo, hx, fun y s2 u f2 H2 hy e2 ok2 r2 =>
    ⟨f2, x, y, _, ok2.fr.inn, r1.ex e2, r2, hy, fun z u' f3 H3 hz gr r3 => hQ z s2 u' f3 H3 hz (e1.trans (e2.trans gr.sub)) (ok2.gro gr) r3⟩⟩⟩
theorem d_un {op : UnaryOp} {o : D1} (ho : UnR X (unaryOp op) (uP X.K o)) (ha : PE X a (lE X.K T W ta)) : PE X (.UnaryOp op a pos) (lE X.K T W (dUn o ta)) :=
  (pe_un ho ha).up fun σ H Q ⟨g, f, s, XQ, Kd, ok, xo, h, hQ⟩ => ⟨g, f, s, XQ, _, ok, xo, h, fun x s1 v f1 H1 hx e1 ok1 r1 =>
    ⟨f1, x, _, ok1.fr.inn, r1, hx, fun z u' f3 H3 hz gr r3 => hQ z s1 u' f3 H3 hz (e1.trans gr.sub) (ok1.gro gr) r3⟩⟩
theorem reps_empty {K : PySem.W.Frag} {f : Hp} : ∀ {ds : List D} {xs : List V}, Reps K f ds xs → (!xs.isEmpty) = !ds.isEmpty
  | [], _, h => by cases h; rfl
  | _ :: _, _, ⟨_, _, h, _⟩ => by subst h; rfl
theorem repk_empty {K : PySem.W.Frag} {f : Hp} : ∀ {ds : List (Key × D)} {xs : List (Key × V)}, RepK K f ds xs → (!xs.isEmpty) = !ds.isEmpty
  | [], _, h => by cases h; rfl
  | (_, _) :: _, _, ⟨_, _, h, _⟩ => by subst h; rfl
/-- the truth of data -/
theorem tru_v {K : PySem.W.Frag} {f H : Hp} {d : D} {v : V} {k : Bool → Prop} (e : Ex f H) (r : Rep K f d v) (h : tru d k) : ∃ b, TruV K v H b ∧ k b := by
  cases d with
  | non => cases r; exact ⟨false, rfl, h⟩
  | bl b => cases r; exact ⟨b, rfl, h⟩
  | int i => cases r; exact ⟨_, rfl, h⟩
  | str x => obtain ⟨rfl, l⟩ := r; exact ⟨_, ⟨l, rfl⟩, h⟩
  | lst xs => obtain ⟨a, ys, rfl, h1, h2, _⟩ := r; exact ⟨_, .inl ⟨ys, sql_of (e _ _ h1), rfl⟩, by rw [reps_empty h2]; exact h⟩
  | tup xs => obtain ⟨a, ys, rfl, h1, h2, _⟩ := r; exact ⟨_, .inr (.inl ⟨ys, e.tq h1, rfl⟩), by rw [reps_empty h2]; exact h⟩
  | dic xs => obtain ⟨a, ys, rfl, h1, h2, _⟩ := r; exact ⟨_, .inr (.inr ⟨ys, e _ _ h1, rfl⟩), by rw [repk_empty h2]; exact h⟩
  | _ => exact h.elim
theorem d_tru (ha : PE X a (lE X.K T W ta)) (he : ∀ whole, isTrue a X.env whole = (do let v ← whole; standAt a.pos; holding [v] (truthy v)) := by intro _; rfl) : PT X a (lT X.K T W (dTru ta)) :=
  (pt_truth ha he).up fun σ H Q ⟨g, f, s, XQ, Kd, ok, xo, h, hQ⟩ => ⟨g, f, s, XQ, _, ok, xo, h, fun x s1 v f1 H1 hx e1 ok1 r1 => by
    obtain ⟨b, h1, h2⟩ := tru_v ok1.fr.inn r1 hx
    exact ⟨b, h1, hQ b s1 f1 H1 h2 e1 ok1⟩⟩
/-- a comparison as a test -/
theorem d_tcmp {op : CmpOp} (ho : OpR X (compareOp op) (rP X.K o)) (ha : PE X a (lE X.K T W ta)) (hb : PE X b (lE X.K T W tb)) (hm : behindInMarks op b = false) : PT X (.Compare a [op] [b] pos) (lT X.K T W (dTst (dBin o ta tb))) :=
  (pt_cmpR ho ha hb hm).up fun σ H Q ⟨g, f, s, XQ, Kd, ok, xo, h, hQ⟩ => ⟨g, f, s, XQ, _, ok, xo, h, fun x s1 v f1 H1 hx e1 ok1 r1 => ⟨g, f1, s1, XQ, _, ok1, xo, hx, fun y s2 u f2 H2 hy e2 ok2 r2 =>
    ⟨f2, x, y, _, ok2.fr.inn, r1.ex e2, r2, hy, fun z u' f3 H3 hz gr r3 => by
      cases z with
      | bl b => cases r3; exact ⟨b, rfl, hQ b s2 f3 H3 hz (e1.trans (e2.trans gr.sub)) (ok2.gro gr)⟩
      | _ => exact (show False from hz).elim⟩⟩⟩
theorem d_tchain {op op' : CmpOp} (ho : OpR X (compareOp op) (rP X.K o)) (ho' : OpR X (compareOp op') (rP X.K o')) (ha : PE X a (lE X.K T W ta)) (hb : PE X b (lE X.K T W tb)) (hc : PE X c (lE X.K T W tc))
    (hm : lastMarks [op, op'] [b, c] = false := by with_unfolding_all rfl) : PT X (.Compare a [op, op'] [b, c] pos) (lT X.K T W (dTst (dChain o o' ta tb tc))) :=
  (pt_chain ho ho' ha hb hc hm).up fun σ H Q ⟨g, f, s, XQ, Kd, ok, xo, h, hQ⟩ => ⟨g, f, s, XQ, _, ok, xo, h, fun x s1 v f1 H1 hx e1 ok1 r1 => ⟨g, f1, s1, XQ, _, ok1, xo, hx, fun y s2 u f2 H2 hy e2 ok2 r2 =>
    ⟨f2, x, y, _, ok2.fr.inn, r1.ex e2, r2, hy, fun z u' f3 H3 hz gr r3 => by
      cases z with
      | bl k =>
        cases r3
        refine ⟨k, rfl, ?_⟩
        have ok3 := ok2.gro gr
        cases k with
        | true => exact iteT ⟨g, f3, s2, XQ, _, ok3, xo, hz, fun w s3 u3 f4 H4 hw e4 ok4 r4 => ⟨f4, y, w, _, ok4.fr.inn, (r2.ex gr.sub).ex e4, r4, hw, fun z' u5 f5 H5 hz' gr5 r5 => by
            cases z' with
            | bl b => cases r5; exact ⟨b, rfl, hQ b s3 f5 H5 hz' (e1.trans (e2.trans (gr.sub.trans (e4.trans gr5.sub)))) (ok4.gro gr5)⟩
            | _ => exact (show False from hz').elim⟩⟩
        | false => exact iteF ⟨false, rfl, hQ false s2 f3 H3 hz (e1.trans (e2.trans gr.sub)) ok3⟩
      | _ => exact (show False from hz).elim⟩⟩⟩
theorem d_chain {op op' : CmpOp} (ho : OpR X (compareOp op) (rP X.K o)) (ho' : OpR X (compareOp op') (rP X.K o')) (ha : PE X a (lE X.K T W ta)) (hb : PE X b (lE X.K T W tb)) (hc : PE X c (lE X.K T W tc))
    (hm : lastMarks [op, op'] [b, c] = false := by with_unfolding_all rfl) : PE X (.Compare a [op, op'] [b, c] pos) (lE X.K T W (dChain o o' ta tb tc)) :=
  (pe_chain ho ho' ha hb hc hm).up fun σ H Q ⟨g, f, s, XQ, Kd, ok, xo, h, hQ⟩ => ⟨g, f, s, XQ, _, ok, xo, h, fun x s1 v f1 H1 hx e1 ok1 r1 => ⟨g, f1, s1, XQ, _, ok1, xo, hx, fun y s2 u f2 H2 hy e2 ok2 r2 =>
    ⟨f2, x, y, _, ok2.fr.inn, r1.ex e2, r2, hy, fun z u' f3 H3 hz gr r3 => by
      cases z with
      | bl k =>
        cases r3
        refine ⟨k, rfl, ?_⟩
        have ok3 := ok2.gro gr
        cases k with
        | true => exact iteT ⟨g, f3, s2, XQ, _, ok3, xo, hz, fun w s3 u3 f4 H4 hw e4 ok4 r4 => ⟨f4, y, w, _, ok4.fr.inn, (r2.ex gr.sub).ex e4, r4, hw, fun z' u5 f5 H5 hz' gr5 r5 => hQ z' s3 u5 f5 H5 hz' (e1.trans (e2.trans (gr.sub.trans (e4.trans gr5.sub)))) (ok4.gro gr5) r5⟩⟩
        | false => exact iteF (hQ (.bl false) s2 _ f3 H3 hz (e1.trans (e2.trans gr.sub)) ok3 rfl)
      | _ => exact (show False from hz).elim⟩⟩⟩
theorem d_notT (ha : PT X a (lT X.K T W tt)) : PT X (.UnaryOp .Not a pos) (lT X.K T W (dNotT tt)) :=
  (pt_not ha).up fun σ H Q ⟨g, f, s, XQ, Kd, ok, xo, h, hQ⟩ => ⟨g, f, s, XQ, _, ok, xo, h, fun b s1 f1 H1 hx e1 ok1 => hQ _ s1 f1 H1 hx e1 ok1⟩
theorem d_andT1 (ha : PT X a (lT X.K T W tt)) : PW X (.BoolOp .And [a] pos) (lT X.K T W tt) := pw_and1 ha
theorem d_orT1 (ha : PT X a (lT X.K T W tt)) : PW X (.BoolOp .Or [a] pos) (lT X.K T W tt) := pw_or1 ha
theorem d_andT {rest : List Expr} (ha : PT X a (lT X.K T W tt)) (hb : PW X (.BoolOp .And (b :: rest) pos) (lT X.K T W tu)) : PW X (.BoolOp .And (a :: b :: rest) pos) (lT X.K T W (dAndT tt tu)) :=
  (pw_and ha hb).up fun σ H Q ⟨g, f, s, XQ, Kd, ok, xo, h, hQ⟩ => ⟨g, f, s, XQ, _, ok, xo, h, fun k s1 f1 H1 hx e1 ok1 => by
    cases k with
    | true => exact iteT ⟨g, f1, s1, XQ, _, ok1, xo, hx, fun b s2 f2 H2 hb e2 ok2 => hQ b s2 f2 H2 hb (e1.trans e2) ok2⟩
    | false => exact iteF (hQ false s1 f1 H1 hx e1 ok1)⟩
theorem d_orT {rest : List Expr} (ha : PT X a (lT X.K T W tt)) (hb : PW X (.BoolOp .Or (b :: rest) pos) (lT X.K T W tu)) : PW X (.BoolOp .Or (a :: b :: rest) pos) (lT X.K T W (dOrT tt tu)) :=
  (pw_or ha hb).up fun σ H Q ⟨g, f, s, XQ, Kd, ok, xo, h, hQ⟩ => ⟨g, f, s, XQ, _, ok, xo, h, fun k s1 f1 H1 hx e1 ok1 => by
    cases k with
    | true => exact iteT (hQ true s1 f1 H1 hx e1 ok1)
    | false => exact iteF ⟨g, f1, s1, XQ, _, ok1, xo, hx, fun b s2 f2 H2 hb e2 ok2 => hQ b s2 f2 H2 hb (e1.trans e2) ok2⟩⟩
theorem d_not (ha : PE X a (lE X.K T W ta)) : PE X (.UnaryOp .Not a pos) (lE X.K T W (dNot ta)) :=
  (pe_notT ha).up fun σ H Q ⟨g, f, s, XQ, Kd, ok, xo, h, hQ⟩ => ⟨g, f, s, XQ, _, ok, xo, h, fun x s1 v f1 H1 hx e1 ok1 r1 => by
    obtain ⟨b, h1, h2⟩ := tru_v ok1.fr.inn r1 hx
    exact ⟨b, h1, hQ _ s1 _ f1 H1 h2 e1 ok1 rfl⟩⟩
theorem d_one {op} (h : PE X a (lE X.K T W ta)) : PE X (.BoolOp op [a] pos) (lE X.K T W ta) := pe_one h
theorem d_and {rest : List Expr} (ha : PE X a (lE X.K T W ta)) (hb : PE X (.BoolOp .And (b :: rest) pos) (lE X.K T W tb)) : PE X (.BoolOp .And (a :: b :: rest) pos) (lE X.K T W (dAnd ta tb)) :=
  (pe_andT ha hb).up fun σ H Q ⟨g, f, s, XQ, Kd, ok, xo, h, hQ⟩ => ⟨g, f, s, XQ, _, ok, xo, h, fun x s1 v f1 H1 hx e1 ok1 r1 => by
    obtain ⟨k, h1, h2⟩ := tru_v ok1.fr.inn r1 hx
    refine ⟨k, h1, ?_⟩
    cases k with
    | true => exact iteT ⟨g, f1, s1, XQ, _, ok1, xo, h2, fun y s2 u f2 H2 hy e2 ok2 r2 => hQ y s2 u f2 H2 hy (e1.trans e2) ok2 r2⟩
    | false => exact iteF (hQ x s1 v f1 H1 h2 e1 ok1 r1)⟩
theorem d_or {rest : List Expr} (ha : PE X a (lE X.K T W ta)) (hb : PE X (.BoolOp .Or (b :: rest) pos) (lE X.K T W tb)) : PE X (.BoolOp .Or (a :: b :: rest) pos) (lE X.K T W (dOr ta tb)) :=
  (pe_orT ha hb).up fun σ H Q ⟨g, f, s, XQ, Kd, ok, xo, h, hQ⟩ => ⟨g, f, s, XQ, _, ok, xo, h, fun x s1 v f1 H1 hx e1 ok1 r1 => by
    obtain ⟨k, h1, h2⟩ := tru_v ok1.fr.inn r1 hx
    refine ⟨k, h1, ?_⟩
    cases k with
    | true => exact iteT (hQ x s1 v f1 H1 h2 e1 ok1 r1)
    | false => exact iteF ⟨g, f1, s1, XQ, _, ok1, xo, h2, fun y s2 u f2 H2 hy e2 ok2 r2 => hQ y s2 u f2 H2 hy (e1.trans e2) ok2 r2⟩⟩
theorem d_if (hc : PT X c (lT X.K T W tt)) (ha : PE X a (lE X.K T W ta)) (hb : PE X b (lE X.K T W tb)) : PE X (.IfExp c a b pos) (lE X.K T W (dIf tt ta tb)) :=
  (pe_ifExp hc ha hb).up fun σ H Q ⟨g, f, s, XQ, Kd, ok, xo, h, hQ⟩ => ⟨g, f, s, XQ, _, ok, xo, h, fun k s1 f1 H1 hx e1 ok1 => by
    cases k with
    | true => exact iteT ⟨g, f1, s1, XQ, _, ok1, xo, hx, fun y s2 u f2 H2 hy e2 ok2 r2 => hQ y s2 u f2 H2 hy (e1.trans e2) ok2 r2⟩
    | false => exact iteF ⟨g, f1, s1, XQ, _, ok1, xo, hx, fun y s2 u f2 H2 hy e2 ok2 r2 => hQ y s2 u f2 H2 hy (e1.trans e2) ok2 r2⟩⟩
theorem d_nil : PA X [] (lA X.K T W dNil) := pa_nil.up fun σ H Q ⟨g, f, s, XQ, Kd, ok, xo, h, hQ⟩ => hQ [] s [] f H h (Ex.refl _) ok rfl
theorem d_cons (ha : PE X e (lE X.K T W te)) (hr : PA X es (lA X.K T W tr)) (hs : starEach (e :: es) X.env = (false, eval e X.env) :: starEach es X.env := by rfl) : PA X (e :: es) (lA X.K T W (dCons te tr)) :=
  (pa_cons ha hr hs).up fun σ H Q ⟨g, f, s, XQ, Kd, ok, xo, h, hQ⟩ => ⟨g, f, s, XQ, _, ok, xo, h, fun x s1 v f1 H1 hx e1 ok1 r1 => ⟨g, f1, s1, XQ, _, ok1, xo, hx, fun ys s2 us f2 H2 hy e2 ok2 r2 =>
    hQ (x :: ys) s2 (v :: us) f2 H2 hy (e1.trans e2) ok2 ⟨v, us, rfl, r1.ex e2, r2⟩⟩⟩
theorem d_tup {x1} (ha : PA X es (lA X.K T W tr)) : PE X (.Tuple es x1 pos) (lE X.K T W (dTup tr)) :=
  (pe_tup ha).up fun σ H Q ⟨g, f, s, XQ, Kd, ok, xo, h, hQ⟩ => ⟨g, f, s, XQ, _, ok, xo, h, fun xs s1 vs f1 H1 hx e1 ok1 r1 => ⟨by rw [r1.len]; exact hx.1, fun p hp => by
    have gr := Gro.new (u := .tup vs) ok1.fr.inn hp
    exact hQ (.tup xs) s1 _ _ _ hx.2 (e1.trans gr.sub) (ok1.gro gr) ⟨p, vs, rfl, tp_of upd_same, r1.ex gr.sub, hx.1⟩⟩⟩
theorem d_lst (ha : PA X es (lA X.K T W tr)) : PE X (.List es pos) (lE X.K T W (dLst tr)) :=
  (pe_lst ha).up fun σ H Q ⟨g, f, s, XQ, Kd, ok, xo, h, hQ⟩ => ⟨g, f, s, XQ, _, ok, xo, h, fun xs s1 vs f1 H1 hx e1 ok1 r1 => ⟨by rw [r1.len]; exact hx.1, fun p hp => by
    have gr := Gro.new (u := .lst vs) ok1.fr.inn hp
    exact hQ (.lst xs) s1 _ _ _ hx.2 (e1.trans gr.sub) (ok1.gro gr) ⟨p, vs, rfl, upd_same, r1.ex gr.sub, hx.1⟩⟩⟩
/-! statements -/
theorem ds_nil : PSs X [] (lS X.K T W dNext) := pss_nil.up fun D σ H ⟨g, f, s, en, ok, xo, h, h1, _⟩ => h1 s σ f H h (Ex.refl _) ok
theorem ds_cons (h1 : PS X st (lS X.K T W t)) (h2 : PSs X sts (lS X.K T W u)) : PSs X (st :: sts) (lS X.K T W (dSeq t u)) :=
  (pss_cons h1 h2).up fun D σ H ⟨g, f, s, en, ok, xo, h, q1, q2, q3, q4⟩ => ⟨g, f, s, { en with nx := nxT u en }, ok, xo, h, fun s' σ' f' H' hn e ok' =>
    ⟨g, f', s', en, ok', xo, hn, fun s2 σ2 f2 H2 h e2 ok2 => q1 s2 σ2 f2 H2 h (e.trans e2) ok2, fun s2 σ2 f2 H2 h e2 ok2 => q2 s2 σ2 f2 H2 h (e.trans e2) ok2, fun s2 σ2 f2 H2 h e2 ok2 => q3 s2 σ2 f2 H2 h (e.trans e2) ok2,
      fun d s2 σ2 v f2 H2 h e2 ok2 r => q4 d s2 σ2 v f2 H2 h (e.trans e2) ok2 r⟩, q2, q3, q4⟩
theorem ds_one (h1 : PS X st (lS X.K T W t)) : PSs X [st] (lS X.K T W t) := pss_one h1
theorem ds_pass : PS X (.Pass pos) (lS X.K T W dNext) := ps_pass.up fun D σ H ⟨g, f, s, en, ok, xo, h, h1, _⟩ => h1 s σ f H h (Ex.refl _) ok
theorem ds_brk : PS X (.Break pos) (lS X.K T W dBrk) := ps_break.up fun D σ H ⟨g, f, s, en, ok, xo, h, _, h1, _⟩ => h1 s σ f H h (Ex.refl _) ok
theorem ds_cnt : PS X (.Continue pos) (lS X.K T W dCnt) := ps_continue.up fun D σ H ⟨g, f, s, en, ok, xo, h, _, _, h1, _⟩ => h1 s σ f H h (Ex.refl _) ok
theorem ds_expr (he : PE X e (lE X.K T W te)) (hs : swapsWith e none pos.line X.env = pure false := by rfl) : PS X (.Expr e pos) (lS X.K T W (dDrop te)) :=
  (ps_expr he hs).up fun D σ H ⟨g, f, s, en, ok, xo, h, q1, _⟩ => ⟨g, f, s, en.ex, _, ok, xo _, h, fun x s1 v f1 H1 hx e1 ok1 r1 => q1 s1 σ f1 H1 hx e1 ok1⟩
theorem ds_ret (he : PE X e (lE X.K T W te)) : PS X (.Return (some e) pos) (lS X.K T W (dRet te)) :=
  (ps_ret he).up fun D σ H ⟨g, f, s, en, ok, xo, h, _, _, _, q4⟩ => ⟨g, f, s, en.ex, _, ok, xo _, h, fun x s1 v f1 H1 hx e1 ok1 r1 => q4 x s1 σ v f1 H1 hx e1 ok1 r1⟩
theorem ds_retN : PS X (.Return none pos) (lS X.K T W dRetN) :=
  ps_retN.up fun D σ H ⟨g, f, s, en, ok, xo, h, _, _, _, q4⟩ => q4 .non s σ .non f H h (Ex.refl _) ok rfl
theorem lS.to {K : PySem.W.Frag} {g : Gd} {f f1 H1 : Hp} {s1 : S} {en : En} {D : Ends} {σ1 : L2.St} {t : DS} (ok1 : Okay K T g f1 H1 σ1 s1) (xo : XOkS K T W g en.ex) (h : t s1 en) (e1 : Ex f f1)
    (q : (∀ s' σ' f' H', en.nx s' → Ex f f' → Okay K T g f' H' σ' s' → D.nx σ' H') ∧ (∀ s' σ' f' H', en.bk s' → Ex f f' → Okay K T g f' H' σ' s' → D.bk σ' H') ∧ (∀ s' σ' f' H', en.ct s' → Ex f f' → Okay K T g f' H' σ' s' → D.ct σ' H') ∧
  (∀ d s' σ' v f' H', en.rt d s' → Ex f f' → Okay K T g f' H' σ' s' → Rep K f' d v → D.rt v H')) : lS K T W t D σ1 H1 :=
  ⟨g, f1, s1, en, ok1, xo, h, fun s2 σ2 f2 H2 h e2 ok2 => q.1 s2 σ2 f2 H2 h (e1.trans e2) ok2, fun s2 σ2 f2 H2 h e2 ok2 => q.2.1 s2 σ2 f2 H2 h (e1.trans e2) ok2, fun s2 σ2 f2 H2 h e2 ok2 => q.2.2.1 s2 σ2 f2 H2 h (e1.trans e2) ok2,
      fun d s2 σ2 v f2 H2 h e2 ok2 r => q.2.2.2 d s2 σ2 v f2 H2 h (e1.trans e2) ok2 r⟩
theorem ds_if {p q : List Stmt} (hc : PT X c (lT X.K T W tt)) (ha : PSs X p (lS X.K T W t)) (hb : PSs X q (lS X.K T W u)) : PS X (.If c p q pos) (lS X.K T W (dIfS tt t u)) :=
  (ps_if hc ha hb).up fun D σ H ⟨g, f, s, en, ok, xo, h, q⟩ => ⟨g, f, s, en.ex, _, ok, xo _, h, fun k s1 f1 H1 hx e1 ok1 => by
    cases k with
    | true => exact iteT (lS.to ok1 xo hx e1 q)
    | false => exact iteF (lS.to ok1 xo hx e1 q)⟩
theorem ds_frz (h : PS X st (lS X.K T W t)) (i : Nat) : PS X st (lS X.K T W (dFrz i t)) := h.up fun D σ H ⟨g, f, s, en, ok, xo, h, q⟩ => by
  unfold dFrz S.frz at h
  split at h
  · rename_i o e
    obtain ⟨a, f1, e1, ok1, _⟩ := ok.freeze e
    exact lS.to ok1 xo h e1 q
  · exact ⟨g, f, s, en, ok, xo, h, q⟩
/-! targets -/
theorem dg_name {x : Str} (hN : X.N.Nodup) (hi : X.N[i]? = some x) (hx : Loc X.env.scope x) (hf : X.fn x = true ∨ X.env.scope.names.lookup x = some .local := by first | exact .inl rfl | exact .inr rfl | assumption) : PG X (.Name x pos) (lG X.K T [i] (gNm i)) := by
  refine ⟨fun pins s σ H x v Q I rx h => (pg_name hN hi hx hf).run pins s σ H x v Q I rx ?_⟩
  obtain ⟨g, f, s', d, Kd, ok, r, h, hQ⟩ := h
  exact hQ _ _ f H h (Ex.refl _) (by simp [wipe]) (ok.set r)
end
end DL

/-! DL: operations on data. -/
namespace DL
open PySem PySem.Spec PyProof.Rows L2 Z LamX

def MulOk (a b : Int) : Prop := CMul a b ∨ CMulX a b
def DivOk (b : Int) : Prop := b ≠ 0 ∧ b.natAbs.log2 < 9000
def fdv (a b : Int) : Int := if 0 ≤ b then a / b else a.fdiv b
def fmd (a b : Int) : Int := if 0 ≤ b then a % b else a.fmod b
theorem fdv_pos {a b : Int} (h : 0 ≤ b) : fdv a b = a / b := if_pos h
theorem fmd_pos {a b : Int} (h : 0 ≤ b) : fmd a b = a % b := if_pos h
theorem divOk_lt {b : Int} (h0 : 0 < b) (h1 : b < 2 ^ 64) : DivOk b := ⟨by omega, log_small (by omega) h1⟩
def oAdd : D2
  | .int a, .int b, k => k (.int (a + b))
  | .int a, .bl b, k => k (.int (a + b2i b))
  | .str a, .str b, k => a.length + b.length ≤ sizeLine ∧ k (.str (a ++ b))
  | .lst a, .lst b, k => a.length + b.length ≤ sizeLine ∧ k (.lst (a ++ b))
  | .tup a, .tup b, k => a.length + b.length ≤ sizeLine ∧ k (.tup (a ++ b))
  | _, _, _ => False
def oSub : D2
  | .int a, .int b, k => k (.int (a - b))
  | _, _, _ => False
def oMul : D2
  | .int a, .int b, k => MulOk a b ∧ k (.int (a * b))
  | .lst a, .int b, k => -(2 ^ 62) ≤ b ∧ b ≤ 2 ^ 62 ∧ a.length * b.toNat ≤ sizeLine ∧ k (.lst (List.replicate b.toNat a).flatten)
  | _, _, _ => False
def oDiv : D2
  | .int a, .int b, k => DivOk b ∧ k (.int (fdv a b))
  | _, _, _ => False
def oMod : D2
  | .int a, .int b, k => b ≠ 0 ∧ k (.int (fmd a b))
  | _, _, _ => False
def oPow : D2
  | .int a, .int b, k => CPow a b ∧ k (.int (a ^ b.toNat))
  | _, _, _ => False
def ShlOk (a b : Int) : Prop := CPow a b ∨ CShl a b
def oShl : D2
  | .int a, .int b, k => ShlOk a b ∧ k (.int (a * 2 ^ b.toNat))
  | _, _, _ => False
def oShr : D2
  | .int a, .int b, k => 0 ≤ b ∧ k (.int (a / 2 ^ b.toNat))
  | _, _, _ => False
def oAnd : D2
  | .int a, .int b, k => k (.int (Builtin.bitAnd a b))
  | _, _, _ => False
def oOr : D2
  | .int a, .int b, k => k (.int (Builtin.bitOr a b))
  | _, _, _ => False
def oXor : D2
  | .int a, .int b, k => k (.int (Builtin.bitXor a b))
  | _, _, _ => False
def oLt : D2
  | .int a, .int b, k => k (.bl (decide (a < b)))
  | .str a, .str b, k => k (.bl (decide (a.cps.toList < b.cps.toList)))
  | _, _, _ => False
def oLe : D2
  | .int a, .int b, k => k (.bl (decide (a ≤ b)))
  | .str a, .str b, k => k (.bl (!decide (b.cps.toList < a.cps.toList)))
  | _, _, _ => False
def oGt : D2
  | .int a, .int b, k => k (.bl (decide (b < a)))
  | .str a, .str b, k => k (.bl (decide (b.cps.toList < a.cps.toList)))
  | _, _, _ => False
def oGe : D2
  | .int a, .int b, k => k (.bl (decide (b ≤ a)))
  | .str a, .str b, k => k (.bl (!decide (a.cps.toList < b.cps.toList)))
  | _, _, _ => False
def D.isN : D → Bool
  | .non => true
  | _ => false
def oIs : D2
  | x, .non, k => k (.bl x.isN)
  | .bl a, .bl b, k => k (.bl (decide (a = b)))
  | _, _, _ => False
def oIsN : D2
  | x, .non, k => k (.bl (!x.isN))
  | .bl a, .bl b, k => k (.bl (!decide (a = b)))
  | _, _, _ => False
def vOf : D → Option V
  | .non => some .non
  | .bl b => some (.bl b)
  | .int i => some (.int i)
  | .str x => some (.str x)
  | _ => none
def vOfs : List D → Option (List V)
  | [] => some []
  | d :: r => match vOf d, vOfs r with
    | some v, some vs => some (v :: vs)
    | _, _ => none
def seqOf : D → Option (List D)
  | .lst xs => some xs
  | .tup xs => some xs
  | _ => none
def keyOf : D → Option Key
  | .int i => some (.inl i)
  | .str x => some (.inr x)
  | _ => none
def kget {α : Type} (k : Key) : List (Key × α) → Option α
  | [] => none
  | (j, v) :: r => if j = k then some v else kget k r
def oIn (neg : Bool) : D2
  | .str a, .str b, k => k (.bl (if neg then !(!(Builtin.Str.occurrences b a 0 b.length 1).isEmpty) else !(Builtin.Str.occurrences b a 0 b.length 1).isEmpty))
  | x, .lst ds, k => match vOf x, vOfs ds with
    | some v, some vs => k (.bl (if neg then !inV v vs else inV v vs))
    | _, _ => False
  | x, .tup ds, k => match vOf x, vOfs ds with
    | some v, some vs => k (.bl (if neg then !inV v vs else inV v vs))
    | _, _ => False
  | _, _, _ => False
mutual
/-- data that == compares as plain data -/
def D.pd : D → PyData
  | .non => .none
  | .bl b => .bool b
  | .int i => .int i
  | .str x => .str x
  | .lst xs => .list (pds xs)
  | .tup xs => .tuple (pds xs)
  | _ => .none
def pds : List D → List PyData
  | [] => []
  | d :: r => d.pd :: pds r
end
mutual
def D.flat : D → Bool
  | .non => true
  | .bl _ => true
  | .int _ => true
  | .str _ => true
  | .lst xs => flats xs
  | .tup xs => flats xs
  | _ => false
def flats : List D → Bool
  | [] => true
  | d :: r => d.flat && flats r
end
def D.shp (d : D) : Bool := d.flat && SeqAt.shaped d.pd
def oEq : D2
  | .int a, .int b, k => k (.bl (decide (a = b)))
  | .str a, .str b, k => k (.bl (decide (a = b)))
  | .bl a, .bl b, k => k (.bl (decide (a = b)))
  | x, y, k => (x.shp && y.shp) = true ∧ k (.bl (PyData.eqv x.pd y.pd))
def oNe : D2
  | .int a, .int b, k => k (.bl (!decide (a = b)))
  | .str a, .str b, k => k (.bl (!decide (a = b)))
  | .bl a, .bl b, k => k (.bl (!decide (a = b)))
  | x, y, k => (x.shp && y.shp) = true ∧ k (.bl (!PyData.eqv x.pd y.pd))
def uNeg : D1
  | .int a, k => k (.int (-a))
  | _, _ => False
def uInv : D1
  | .int a, k => k (.int (Builtin.bitNot a))
  | _, _ => False

section
variable {X : Cx} {K : PySem.W.Frag} {f H : Hp}
mutual
theorem Rep.dp : ∀ {d : D} {v : V}, d.flat = true → Rep K f d v → Dp K f v d.pd
  | .non, _, _, h => by cases h; exact .non
  | .bl b, _, _, h => by cases h; exact .bl b
  | .int i, _, _, h => by cases h; exact .int i
  | .str x, _, _, h => by obtain ⟨rfl, _⟩ := h; exact .str x
  | .lst xs, _, e, h => by obtain ⟨a, ys, rfl, h1, h2, _⟩ := h; exact .lst (sql_of h1) (Reps.dp e h2)
  | .tup xs, _, e, h => by obtain ⟨a, ys, rfl, h1, h2, _⟩ := h; exact .tup h1.sqt (Reps.dp e h2)
  | .ty _, _, e, _ => by cases e
  | .ref _, _, e, _ => by cases e
  | .obj _ _, _, e, _ => by cases e
  | .dic _, _, e, _ => by cases e
theorem Reps.dp : ∀ {ds : List D} {xs : List V}, flats ds = true → Reps K f ds xs → DpAll K f xs (pds ds)
  | [], _, _, h => by cases h; exact .nil
  | d :: ds, _, e, ⟨x, r, h1, h2, h3⟩ => by
    subst h1
    have e' := Bool.and_eq_true_iff.mp (show (d.flat && flats ds) = true from e)
    exact .cons (Rep.dp e'.1 h2) (Reps.dp e'.2 h3)
end
theorem Rep.vOf {d : D} {v w : V} (h : Rep K f d v) (e : DL.vOf d = some w) : v = w ∧ flatV v = true := by
  cases d <;> first
    | (cases e; cases h; exact ⟨rfl, rfl⟩)
    | (cases e; obtain ⟨rfl, _⟩ := h; exact ⟨rfl, rfl⟩)
    | (cases e; done)
theorem Reps.vOfs : ∀ {ds : List D} {xs ws : List V}, Reps K f ds xs → DL.vOfs ds = some ws → xs = ws ∧ xs.all flatV = true
  | [], _, _, h, e => by cases h; cases e; exact ⟨rfl, rfl⟩
  | d :: ds, _, ws, ⟨x, r, h1, h2, h3⟩, e => by
    subst h1
    unfold DL.vOfs at e
    split at e
    · rename_i v vs e1 e2
      cases e
      obtain ⟨rfl, f1⟩ := h2.vOf e1
      obtain ⟨rfl, f2⟩ := Reps.vOfs h3 e2
      exact ⟨rfl, by rw [List.all_cons, f1, f2]; rfl⟩
    · cases e
theorem opI2 {g : Value → Value → Sem Value} {C : Int → Int → Prop} {r : Int → Int → V} (h : OpR X g (rI C r)) {o : D2} {res : Int → Int → D} (hr : ∀ f a b, Rep X.K f (res a b) (r a b))
    (ho : ∀ {dx dy k}, o dx dy k → ∃ a b, dx = .int a ∧ dy = .int b ∧ C a b ∧ k (res a b)) : OpR X g (rP X.K o) := by
  intro pins s σ H x y v u Q I rx ry ⟨f, dx, dy, Kd, e, r1, r2, hh, hQ⟩
  obtain ⟨a, b, rfl, rfl, c, k⟩ := ho hh
  cases r1
  cases r2
  exact h pins s σ H _ _ v u Q I rx ry ⟨a, b, rfl, rfl, c, hQ _ _ f H k (Gro.refl e) (hr f a b)⟩
theorem p_add : OpR X (binaryOp .Add) (rP X.K oAdd) := by
  intro pins s σ H x y v u Q I rx ry ⟨f, dx, dy, Kd, e, r1, r2, h, hQ⟩
  unfold oAdd at h
  split at h
  · cases r1; cases r2
    exact op_add pins s σ H _ _ v u Q I rx ry ⟨_, _, rfl, rfl, hQ _ _ f H h (Gro.refl e) rfl⟩
  · cases r1; cases r2
    exact op_add_ib pins s σ H _ _ v u Q I rx ry ⟨_, _, rfl, rfl, hQ _ _ f H h (Gro.refl e) rfl⟩
  · obtain ⟨rfl, l1⟩ := r1; obtain ⟨rfl, l2⟩ := r2
    refine op_add_str pins s σ H _ _ v u Q I rx ry ⟨_, _, rfl, rfl, h.1, hQ _ _ f H h.2 (Gro.refl e) ⟨rfl, ?_⟩⟩
    rw [strLen_append]
    exact h.1
  · obtain ⟨a, xs, rfl, h1, h2, l1⟩ := r1; obtain ⟨b, ys, rfl, h3, h4, l2⟩ := r2
    refine op_cat pins s σ H _ _ v u Q I rx ry ⟨a, b, xs, ys, rfl, rfl, e _ _ h1, e _ _ h3, by rw [h2.len, h4.len]; exact h.1, fun p hp => ?_⟩
    have gr := Gro.new (u := .lst (xs ++ ys)) e hp
    exact hQ _ _ _ _ h.2 gr ⟨p, _, rfl, upd_same, (h2.ex gr.sub).app (h4.ex gr.sub), by rw [List.length_append]; exact h.1⟩
  · obtain ⟨a, xs, rfl, h1, h2, l1⟩ := r1; obtain ⟨b, ys, rfl, h3, h4, l2⟩ := r2
    refine op_catA pins s σ H _ _ v u Q I rx ry ⟨a, b, xs, ys, rfl, rfl, e.tq h1, e.tq h3, by rw [h2.len, h4.len]; exact h.1, fun z => ?_, fun _ z => ?_, fun _ _ p hp => ?_⟩
    · subst z
      have l0 := h2.len
      have z0 : _ = [] := List.eq_nil_of_length_eq_zero l0.symm
      rw [z0, List.nil_append] at h
      exact hQ _ _ f H h.2 (Gro.refl e) ⟨b, ys, rfl, h3, h4, l2⟩
    · subst z
      have l0 := h4.len
      have z0 : _ = [] := List.eq_nil_of_length_eq_zero l0.symm
      rw [z0, List.append_nil] at h
      exact hQ _ _ f H h.2 (Gro.refl e) ⟨a, xs, rfl, h1, h2, l1⟩
    · have gr := Gro.new (u := .tup (xs ++ ys)) e hp
      exact hQ _ _ _ _ h.2 gr ⟨p, _, rfl, tp_of upd_same, (h2.ex gr.sub).app (h4.ex gr.sub), by rw [List.length_append]; exact h.1⟩
  · exact h.elim
theorem p_sub : OpR X (binaryOp .Sub) (rP X.K oSub) := by
  intro pins s σ H x y v u Q I rx ry ⟨f, dx, dy, Kd, e, r1, r2, h, hQ⟩
  unfold oSub at h
  split at h
  · cases r1; cases r2
    exact op_sub pins s σ H _ _ v u Q I rx ry ⟨_, _, rfl, rfl, hQ _ _ f H h (Gro.refl e) rfl⟩
  · exact h.elim
theorem p_mul : OpR X (binaryOp .Mult) (rP X.K oMul) := by
  intro pins s σ H x y v u Q I rx ry ⟨f, dx, dy, Kd, e, r1, r2, h, hQ⟩
  unfold oMul at h
  split at h
  · cases r1; cases r2
    rcases h.1 with c | c
    · exact op_mul pins s σ H _ _ v u Q I rx ry ⟨_, _, rfl, rfl, c, hQ _ _ f H h.2 (Gro.refl e) rfl⟩
    · exact op_mulX pins s σ H _ _ v u Q I rx ry ⟨_, _, rfl, rfl, c, hQ _ _ f H h.2 (Gro.refl e) rfl⟩
  · obtain ⟨a, xs, rfl, h1, h2, l1⟩ := r1; cases r2
    refine op_rep pins s σ H _ _ v u Q I rx ry ⟨a, _, xs, rfl, rfl, e _ _ h1, by omega, by omega, by rw [h2.len]; exact h.2.2.1, fun p hp => ?_⟩
    rename_i b
    have gr := Gro.new (u := .lst (List.replicate b.toNat xs).flatten) e hp
    have hr : ∀ n, Reps X.K f (List.replicate n _).flatten (List.replicate n xs).flatten := fun n => by
      induction n with
      | zero => exact rfl
      | succ n ih =>
        rw [List.replicate_succ, List.replicate_succ, List.flatten_cons, List.flatten_cons]
        exact h2.app ih
    refine hQ _ _ _ _ h.2.2.2 gr ⟨p, _, rfl, upd_same, (hr _).ex gr.sub, ?_⟩
    rw [List.length_flatten, List.map_replicate, List.sum_replicate_nat, Nat.mul_comm]
    exact h.2.2.1
  · exact h.elim
theorem p_div : OpR X (binaryOp .FloorDiv) (rP X.K oDiv) := by
  intro pins s σ H x y v u Q I rx ry ⟨f, dx, dy, Kd, e, r1, r2, h, hQ⟩
  unfold oDiv at h
  split at h
  · cases r1; cases r2
    obtain ⟨⟨c1, c2⟩, h⟩ := h
    obtain ⟨t, rfl⟩ := rx
    obtain ⟨t', rfl⟩ := ry
    rename_i a b
    refine floordiv_int c1 ⟨.int (a.fdiv b), H, I.tok _, ⟨_, rfl⟩, ?_⟩ (.inl (PyProof.noPylong_of_log2 c2))
    have := hQ _ _ f H h (Gro.refl e) rfl
    unfold fdv at this
    split at this
    · rename_i z
      rw [Int.fdiv_eq_ediv_of_nonneg _ z]
      exact this
    · exact this
  · exact h.elim
theorem p_mod : OpR X (binaryOp .Mod) (rP X.K oMod) := by
  intro pins s σ H x y v u Q I rx ry ⟨f, dx, dy, Kd, e, r1, r2, h, hQ⟩
  unfold oMod at h
  split at h
  · cases r1; cases r2
    obtain ⟨c1, h⟩ := h
    rename_i a b
    refine op_modN pins s σ H _ _ v u Q I rx ry ⟨a, b, rfl, rfl, c1, ?_⟩
    have := hQ _ _ f H h (Gro.refl e) rfl
    unfold fmd at this
    split at this
    · rename_i z
      show Q (.int (a.fmod b)) H
      rw [Int.fmod_eq_emod_of_nonneg _ z]
      exact this
    · exact this
  · exact h.elim
theorem p_pow : OpR X (binaryOp .Pow) (rP X.K oPow) := opI2 (res := fun a b => .int (a ^ b.toNat)) op_pow (fun _ _ _ => rfl) fun {dx dy k} h => by
  unfold oPow at h
  split at h
  · exact ⟨_, _, rfl, rfl, h⟩
  · exact h.elim
theorem p_shl : OpR X (binaryOp .LShift) (rP X.K oShl) := by
  intro pins s σ H x y v u Q I rx ry ⟨f, dx, dy, Kd, e, r1, r2, h, hQ⟩
  unfold oShl at h
  split at h
  · cases r1; cases r2
    rcases h.1 with c | c
    · exact op_shl pins s σ H _ _ v u Q I rx ry ⟨_, _, rfl, rfl, c, hQ _ _ f H h.2 (Gro.refl e) rfl⟩
    · exact op_shlW pins s σ H _ _ v u Q I rx ry ⟨_, _, rfl, rfl, c, hQ _ _ f H h.2 (Gro.refl e) rfl⟩
  · exact h.elim
theorem p_shr : OpR X (binaryOp .RShift) (rP X.K oShr) := opI2 (res := fun a b => .int (a / 2 ^ b.toNat)) op_shr (fun _ _ _ => rfl) fun {dx dy k} h => by
  unfold oShr at h
  split at h
  · exact ⟨_, _, rfl, rfl, h⟩
  · exact h.elim
theorem opI3 {g : Value → Value → Sem Value} {r : Int → Int → V} (h : OpR X g (rI0 r)) {o : D2} {res : Int → Int → D} (hr : ∀ f a b, Rep X.K f (res a b) (r a b))
    (ho : ∀ {dx dy k}, o dx dy k → ∃ a b, dx = .int a ∧ dy = .int b ∧ k (res a b)) : OpR X g (rP X.K o) := by
  intro pins s σ H x y v u Q I rx ry ⟨f, dx, dy, Kd, e, r1, r2, hh, hQ⟩
  obtain ⟨a, b, rfl, rfl, k⟩ := ho hh
  cases r1
  cases r2
  exact h pins s σ H _ _ v u Q I rx ry ⟨a, b, rfl, rfl, hQ _ _ f H k (Gro.refl e) (hr f a b)⟩
theorem p_and : OpR X (binaryOp .BitAnd) (rP X.K oAnd) := opI3 (res := fun a b => .int (Builtin.bitAnd a b)) op_and (fun _ _ _ => rfl) fun {dx dy k} h => by
  unfold oAnd at h
  split at h
  · exact ⟨_, _, rfl, rfl, h⟩
  · exact h.elim
theorem p_or : OpR X (binaryOp .BitOr) (rP X.K oOr) := opI3 (res := fun a b => .int (Builtin.bitOr a b)) op_or (fun _ _ _ => rfl) fun {dx dy k} h => by
  unfold oOr at h
  split at h
  · exact ⟨_, _, rfl, rfl, h⟩
  · exact h.elim
theorem p_xor : OpR X (binaryOp .BitXor) (rP X.K oXor) := opI3 (res := fun a b => .int (Builtin.bitXor a b)) op_xor (fun _ _ _ => rfl) fun {dx dy k} h => by
  unfold oXor at h
  split at h
  · exact ⟨_, _, rfl, rfl, h⟩
  · exact h.elim
theorem p_lt : OpR X (compareOp .Lt) (rP X.K oLt) := by
  intro pins s σ H x y v u Q I rx ry ⟨f, dx, dy, Kd, e, r1, r2, h, hQ⟩
  unfold oLt at h
  split at h
  · cases r1; cases r2
    exact op_lt pins s σ H _ _ v u Q I rx ry ⟨_, _, rfl, rfl, hQ _ _ f H h (Gro.refl e) rfl⟩
  · obtain ⟨rfl, _⟩ := r1; obtain ⟨rfl, _⟩ := r2
    exact op_lt_str pins s σ H _ _ v u Q I rx ry ⟨_, _, rfl, rfl, hQ _ _ f H h (Gro.refl e) rfl⟩
  · exact h.elim
theorem p_le : OpR X (compareOp .LtE) (rP X.K oLe) := by
  intro pins s σ H x y v u Q I rx ry ⟨f, dx, dy, Kd, e, r1, r2, h, hQ⟩
  unfold oLe at h
  split at h
  · cases r1; cases r2
    exact op_le pins s σ H _ _ v u Q I rx ry ⟨_, _, rfl, rfl, hQ _ _ f H h (Gro.refl e) rfl⟩
  · obtain ⟨rfl, _⟩ := r1; obtain ⟨rfl, _⟩ := r2
    exact op_le_str pins s σ H _ _ v u Q I rx ry ⟨_, _, rfl, rfl, hQ _ _ f H h (Gro.refl e) rfl⟩
  · exact h.elim
theorem p_gt : OpR X (compareOp .Gt) (rP X.K oGt) := by
  intro pins s σ H x y v u Q I rx ry ⟨f, dx, dy, Kd, e, r1, r2, h, hQ⟩
  unfold oGt at h
  split at h
  · cases r1; cases r2
    exact op_gt pins s σ H _ _ v u Q I rx ry ⟨_, _, rfl, rfl, hQ _ _ f H h (Gro.refl e) rfl⟩
  · obtain ⟨rfl, _⟩ := r1; obtain ⟨rfl, _⟩ := r2
    exact op_gt_str pins s σ H _ _ v u Q I rx ry ⟨_, _, rfl, rfl, hQ _ _ f H h (Gro.refl e) rfl⟩
  · exact h.elim
theorem p_ge : OpR X (compareOp .GtE) (rP X.K oGe) := by
  intro pins s σ H x y v u Q I rx ry ⟨f, dx, dy, Kd, e, r1, r2, h, hQ⟩
  unfold oGe at h
  split at h
  · cases r1; cases r2
    exact op_ge pins s σ H _ _ v u Q I rx ry ⟨_, _, rfl, rfl, hQ _ _ f H h (Gro.refl e) rfl⟩
  · obtain ⟨rfl, _⟩ := r1; obtain ⟨rfl, _⟩ := r2
    exact op_ge_str pins s σ H _ _ v u Q I rx ry ⟨_, _, rfl, rfl, hQ _ _ f H h (Gro.refl e) rfl⟩
  · exact h.elim
theorem Rep.isN {d : D} {v : V} (h : Rep K f d v) : decide (v = .non) = d.isN := by
  cases d with
  | non => cases h; rfl
  | bl b => cases h; rfl
  | int b => cases h; rfl
  | str b => obtain ⟨rfl, _⟩ := h; rfl
  | ty b => cases h; rfl
  | ref b => cases h; rfl
  | _ =>
    obtain ⟨a, h⟩ := h
    first
      | (obtain ⟨_, rfl, _⟩ := h; rfl)
      | (obtain ⟨_, _, rfl, _⟩ := h; rfl)
theorem p_is : OpR X (compareOp .Is) (rP X.K oIs) := by
  intro pins s σ H x y v u Q I rx ry ⟨f, dx, dy, Kd, e, r1, r2, h, hQ⟩
  unfold oIs at h
  split at h
  · cases r2
    exact op_isN pins s σ H _ _ v u Q I rx ry ⟨rfl, by rw [r1.isN]; exact hQ _ _ f H h (Gro.refl e) rfl⟩
  · cases r1; cases r2
    exact op_is_bl pins s σ H _ _ v u Q I rx ry ⟨_, _, rfl, rfl, hQ _ _ f H h (Gro.refl e) rfl⟩
  · exact h.elim
theorem p_isN : OpR X (compareOp .IsNot) (rP X.K oIsN) := by
  intro pins s σ H x y v u Q I rx ry ⟨f, dx, dy, Kd, e, r1, r2, h, hQ⟩
  unfold oIsN at h
  split at h
  · cases r2
    exact op_notN pins s σ H _ _ v u Q I rx ry ⟨rfl, by rw [r1.isN]; exact hQ _ _ f H h (Gro.refl e) rfl⟩
  · cases r1; cases r2
    exact op_isnot_bl pins s σ H _ _ v u Q I rx ry ⟨_, _, rfl, rfl, hQ _ _ f H h (Gro.refl e) rfl⟩
  · exact h.elim
theorem p_in : OpR X (compareOp .In) (rP X.K (oIn false)) := by
  intro pins s σ H x y v u Q I rx ry ⟨f, dx, dy, Kd, e, r1, r2, h, hQ⟩
  unfold oIn at h
  split at h
  · obtain ⟨rfl, _⟩ := r1; obtain ⟨rfl, _⟩ := r2
    exact op_in_str pins s σ H _ _ v u Q I rx ry ⟨_, _, rfl, rfl, hQ _ _ f H h (Gro.refl e) rfl⟩
  · obtain ⟨a, xs, rfl, h1, h2, _⟩ := r2
    split at h
    · rename_i e1 e2
      obtain ⟨rfl, f1⟩ := r1.vOf e1
      obtain ⟨rfl, f2⟩ := h2.vOfs e2
      exact op_in_seq pins s σ H _ _ v u Q I rx ry ⟨a, xs, rfl, .inl (sql_of (e _ _ h1)), f1, f2, hQ _ _ f H h (Gro.refl e) rfl⟩
    · exact h.elim
  · obtain ⟨a, xs, rfl, h1, h2, _⟩ := r2
    split at h
    · rename_i e1 e2
      obtain ⟨rfl, f1⟩ := r1.vOf e1
      obtain ⟨rfl, f2⟩ := h2.vOfs e2
      exact op_in_seq pins s σ H _ _ v u Q I rx ry ⟨a, xs, rfl, .inr (e.tq h1), f1, f2, hQ _ _ f H h (Gro.refl e) rfl⟩
    · exact h.elim
  · exact h.elim
theorem p_notIn : OpR X (compareOp .NotIn) (rP X.K (oIn true)) := by
  intro pins s σ H x y v u Q I rx ry ⟨f, dx, dy, Kd, e, r1, r2, h, hQ⟩
  unfold oIn at h
  split at h
  · obtain ⟨rfl, _⟩ := r1; obtain ⟨rfl, _⟩ := r2
    exact op_notIn_str pins s σ H _ _ v u Q I rx ry ⟨_, _, rfl, rfl, hQ _ _ f H h (Gro.refl e) rfl⟩
  · obtain ⟨a, xs, rfl, h1, h2, _⟩ := r2
    split at h
    · rename_i e1 e2
      obtain ⟨rfl, f1⟩ := r1.vOf e1
      obtain ⟨rfl, f2⟩ := h2.vOfs e2
      exact op_notIn_seq pins s σ H _ _ v u Q I rx ry ⟨a, xs, rfl, .inl (sql_of (e _ _ h1)), f1, f2, hQ _ _ f H h (Gro.refl e) rfl⟩
    · exact h.elim
  · obtain ⟨a, xs, rfl, h1, h2, _⟩ := r2
    split at h
    · rename_i e1 e2
      obtain ⟨rfl, f1⟩ := r1.vOf e1
      obtain ⟨rfl, f2⟩ := h2.vOfs e2
      exact op_notIn_seq pins s σ H _ _ v u Q I rx ry ⟨a, xs, rfl, .inr (e.tq h1), f1, f2, hQ _ _ f H h (Gro.refl e) rfl⟩
    · exact h.elim
  · exact h.elim
theorem p_eq (hu : X.A.units + 64 < cLine) : OpR X (compareOp .Eq) (rP X.K oEq) := by
  intro pins s σ H x y v u Q I rx ry ⟨f, dx, dy, Kd, e, r1, r2, h, hQ⟩
  unfold oEq at h
  split at h
  · cases r1; cases r2
    exact op_eq pins s σ H _ _ v u Q I rx ry (r_eqI (hQ _ _ f H h (Gro.refl e) rfl))
  · obtain ⟨rfl, _⟩ := r1; obtain ⟨rfl, _⟩ := r2
    refine op_eq pins s σ H _ _ v u Q I rx ry ⟨rfl, ?_⟩
    rename_i a b _ _
    have e1 : decide (V.str a = V.str b) = decide (a = b) := by
      rw [dec_str]
      by_cases q : a = b <;> simp [q]
    rw [e1]
    exact hQ _ _ f H h (Gro.refl e) rfl
  · cases r1; cases r2
    exact op_eq pins s σ H _ _ v u Q I rx ry (r_eqB (hQ _ _ f H h (Gro.refl e) rfl))
  · obtain ⟨h1, h⟩ := h
    obtain ⟨h1, h2⟩ := Bool.and_eq_true_iff.mp h1
    obtain ⟨h3, h4⟩ := Bool.and_eq_true_iff.mp h1
    obtain ⟨h5, h6⟩ := Bool.and_eq_true_iff.mp h2
    exact op_eqD hu pins s σ H _ _ v u Q I rx ry ⟨_, _, (r1.ex e).dp h3, (r2.ex e).dp h5, h4, h6, hQ _ _ f H h (Gro.refl e) rfl⟩
theorem p_ne (hu : X.A.units + 64 < cLine) : OpR X (compareOp .NotEq) (rP X.K oNe) := by
  intro pins s σ H x y v u Q I rx ry ⟨f, dx, dy, Kd, e, r1, r2, h, hQ⟩
  unfold oNe at h
  split at h
  · cases r1; cases r2
    exact op_ne pins s σ H _ _ v u Q I rx ry (r_neI (hQ _ _ f H h (Gro.refl e) rfl))
  · obtain ⟨rfl, _⟩ := r1; obtain ⟨rfl, _⟩ := r2
    refine op_ne pins s σ H _ _ v u Q I rx ry ⟨rfl, ?_⟩
    rename_i a b _ _
    have e1 : decide (V.str a = V.str b) = decide (a = b) := by
      rw [dec_str]
      by_cases q : a = b <;> simp [q]
    rw [e1]
    exact hQ _ _ f H h (Gro.refl e) rfl
  · cases r1; cases r2
    exact op_ne pins s σ H _ _ v u Q I rx ry (r_neB (hQ _ _ f H h (Gro.refl e) rfl))
  · obtain ⟨h1, h⟩ := h
    obtain ⟨h1, h2⟩ := Bool.and_eq_true_iff.mp h1
    obtain ⟨h3, h4⟩ := Bool.and_eq_true_iff.mp h1
    obtain ⟨h5, h6⟩ := Bool.and_eq_true_iff.mp h2
    exact op_neD hu pins s σ H _ _ v u Q I rx ry ⟨_, _, (r1.ex e).dp h3, (r2.ex e).dp h5, h4, h6, hQ _ _ f H h (Gro.refl e) rfl⟩
theorem unI2 {g : Value → Sem Value} {r : Int → V} (h : UnR X g (rU r)) {o : D1} {res : Int → D} (hr : ∀ f a, Rep X.K f (res a) (r a)) (ho : ∀ {dx k}, o dx k → ∃ a, dx = .int a ∧ k (res a)) : UnR X g (uP X.K o) := by
  intro pins s σ H x v Q I rx ⟨f, dx, Kd, e, r1, hh, hQ⟩
  obtain ⟨a, rfl, k⟩ := ho hh
  cases r1
  exact h pins s σ H _ v Q I rx ⟨a, rfl, hQ _ _ f H k (Gro.refl e) (hr f a)⟩
theorem p_neg : UnR X (unaryOp .USub) (uP X.K uNeg) := unI2 (res := fun a => .int (-a)) un_neg (fun _ _ => rfl) fun {dx k} h => by
  unfold uNeg at h
  split at h
  · exact ⟨_, rfl, h⟩
  · exact h.elim
theorem p_inv : UnR X (unaryOp .Invert) (uP X.K uInv) := unI2 (res := fun a => .int (Builtin.bitNot a)) un_inv (fun _ _ => rfl) fun {dx k} h => by
  unfold uInv at h
  split at h
  · exact ⟨_, rfl, h⟩
  · exact h.elim
end
end DL

/-! DL: calls and defs. -/
namespace DL
open PySem PySem.Spec PyProof.Rows L2 Z LamX

abbrev FD := List D → Addr → Nat → (D → Nat → Prop) → (Value → List (Str × D) → Nat → Prop) → Prop
/-- a def's promise by data -/
def spD (K : PySem.W.Frag) (T : List (Addr × Str)) (φ : FD) : Sp := fun vs H Q E => ∃ f p n ds Kd Xd, Ex f H ∧ Wo T f H p n ∧ Reps K f ds vs ∧ φ ds p n Kd Xd ∧
  (∀ d n' v f' H', Kd d n' → n' ≤ n → Fr T (pex p n) f H f' H' → Wo T f' H' p n' → Rep K f' d v → Q v H') ∧
  (∀ cls fs n' f' H' xs dd, Xd cls fs n' → n' ≤ n → Fr T (pex p n) f H f' H' → Wo T f' H' p n' → f' dd = some (.xd xs) → RepF K f' fs xs → E cls (some dd) H')
def dCall (φ : FD) (tr : DR) (s : S) (k : D → S → Prop) (x : XD) : Prop := tr s (fun ds s1 => φ ds s1.p s1.n (fun d n' => k d { s1 with n := n' }) (fun c fs n' => x c fs { s1 with n := n' })) x
def S0 (N : List Str) (ds : List D) (p : Addr) (n : Nat) : S := ⟨ds.map (fun d => some (.val d)) ++ List.replicate (N.length - ds.length) none, p, n⟩
def E0 (kd : D → Nat → Prop) (xd : Value → List (Str × D) → Nat → Prop) : En := ⟨fun s => kd .non s.n, fun d s => kd d s.n, fun _ => False, fun _ => False, fun c fs s => xd c fs s.n⟩
abbrev wxE (E : XK) : WX := fun cls d _ H => E cls d H
section
variable {P : Program} {w : World} {K : PySem.W.Frag} {mg : Str → Option Value} {base : Heap} {T : List (Addr × Str)}
/-- the beginning of a def -/
theorem okay0 {f H : Hp} {p : Addr} {n : Nat} {N : List Str} {ds : List D} {vs : List V} (e : Ex f H) (wo : Wo T f H p n) (r : Reps K f ds vs) :
    Okay K T ⟨f, H, pex p n, fun _ => False, fun _ h => h.elim, [], fun p' n' => p' = p ∧ n' ≤ n, fun _ _ _ h1 h2 => ⟨h2.1, Nat.le_trans h1 h2.2⟩⟩ f H (L2.start N vs) (S0 N ds p n) := by
  have hl := r.len
  refine ⟨Fr.refl e, fun h => ⟨h, rfl⟩, ⟨rfl, Nat.le_refl _⟩, wo, ?_, fun i d h => ?_, fun i b o h => ?_, fun q hq => (by cases hq), fun i j bi oi bj oj _ h _ => ?_⟩
  · simp only [L2.start, S0, List.length_append, List.length_map, List.length_replicate]
    omega
  · unfold S0 at h
    dsimp only at h
    by_cases hi : i < ds.length
    · rw [List.getElem?_append_left (by simpa using hi), List.getElem?_map] at h
      obtain ⟨d', h1, h2⟩ := Option.map_eq_some_iff.mp h
      cases h2
      obtain ⟨v, h3, h4⟩ := r.get i h1
      refine ⟨v, ?_, h4⟩
      unfold L2.start
      rw [List.getElem?_append_left (by rw [List.length_map]; omega), List.getElem?_map, h3]
      rfl
    · rw [List.getElem?_append_right (by simpa using hi), List.getElem?_replicate] at h
      split at h <;> cases h
  all_goals
    exfalso
    unfold S0 at h
    dsimp only at h
    by_cases hi : i < ds.length
    · rw [List.getElem?_append_left (by simpa using hi), List.getElem?_map] at h
      obtain ⟨d', h1, h2⟩ := Option.map_eq_some_iff.mp h
      cases h2
    · rw [List.getElem?_append_right (by simpa using hi), List.getElem?_replicate] at h
      split at h <;> cases h
/-- what a body must do -/
theorem run0 {X : Cx} {bd : List Stmt} {t : DS} {φ : FD} {N : List Str} {vs : List V} {H : Hp} {Q : VK} {E : XK} (ht : ∀ ds p n kd xd, φ ds p n kd xd → t (S0 N ds p n) (E0 kd xd)) (h : spD K T φ vs H Q E) :
    lS K T (wxE E) t { nx := fun _ H' => Q .non H', rt := Q } (L2.start N vs) H := by
  obtain ⟨f, p, n, ds, Kd, Xd, e, wo, r, hφ, hK, hX⟩ := h
  refine ⟨_, f, _, E0 Kd Xd, okay0 e wo r, ?_, ht ds p n Kd Xd hφ, ?_, ?_, ?_, ?_⟩
  · intro σ cls fs s f' H' xs dd ok hd hr hx
    obtain ⟨hp, hn⟩ := ok.pq
    have wo' := ok.wo
    rw [hp] at wo'
    exact hX cls fs s.n f' H' xs dd hx hn ok.fr wo' hd hr
  · intro s' σ' f' H' h _ ok
    obtain ⟨hp, hn⟩ := ok.pq
    have wo' := ok.wo
    rw [hp] at wo'
    exact hK .non s'.n .non f' H' h hn ok.fr wo' rfl
  · intro s' σ' f' H' h _ _
    exact h.elim
  · intro s' σ' f' H' h _ _
    exact h.elim
  · intro d s' σ' v f' H' h _ ok r'
    obtain ⟨hp, hn⟩ := ok.pq
    have wo' := ok.wo
    rw [hp] at wo'
    exact hK d s'.n v f' H' h hn ok.fr wo' r'
theorem spD_len {φ : FD} {ps : List Str} (hl : ∀ ds p n kd xd, φ ds p n kd xd → ds.length = ps.length) : ∀ vs H Q E, spD K T φ vs H Q E → vs.length = ps.length := fun vs H Q E h => by
  obtain ⟨f, p, n, ds, Kd, Xd, e, wo, r, hφ, hK, hX⟩ := h
  rw [r.len]
  exact hl _ _ _ _ _ hφ
/-- a def by its body -/
theorem okD {x ql : Str} {pr : Arguments} {bd : List Stmt} {sc : Scope} {dvs : List V} {kws : List (Str × V)} {f : Addr} {fd : FuncData} {N ps : List Str} {k : Nat} {φ : FD} (F : FunD K x ql pr bd sc dvs kws f fd) (S : FnScope N ps sc)
    (hl : ∀ ds p n kd xd, φ ds p n kd xd → ds.length = ps.length)
    (hb : ∃ t : DS, (∀ (cdv : Value) (A : Around) (outer : List Env) (s : Shared) (H : Hp) (E : XK), Room k (A.deeper (envOfC ql sc s.heap.objs.size f cdv)) → PSs (cxOf (L2.CX P w) P w K mg base N ql sc f cdv A outer s H E) bd (lS K T (wxE E) t)) ∧
      ∀ ds p n kd xd, φ ds p n kd xd → t (S0 N ds p n) (E0 kd xd)) : FnOk P w K mg base (L2.CX P w) (k + 1) f fd ps (spD K T φ) := by
  obtain ⟨t, h1, h2⟩ := hb
  refine F.ok S (spD_len hl) (fun cdv A outer s H vs Q E hr h => ⟨_, h1 cdv A outer s H E hr, ?_⟩)
  exact run0 (X := cxOf (L2.CX P w) P w K mg base N ql sc f cdv A outer s H E) (bd := bd) h2 h
/-- .. one that shows data -/
theorem okDG {x ql : Str} {pr : Arguments} {bd : List Stmt} {sc : Scope} {dvs : List V} {kws : List (Str × V)} {f : Addr} {fd : FuncData} {N ps : List Str} {k : Nat} {φ : FD} (F : FunD K x ql pr bd sc dvs kws f fd) (S : FnScope N ps sc)
    (hl : ∀ ds p n kd xd, φ ds p n kd xd → ds.length = ps.length)
    (hb : ∃ t : DS, (∀ (cdv : Value) (A : Around) (outer : List Env) (s : Shared) (H : Hp) (E : XK), Room k (A.deeper (envOfC ql sc s.heap.objs.size f cdv)) → (A.deeper (envOfC ql sc s.heap.objs.size f cdv)).guards = some [] →
        PSs (cxOf (L2.CX P w) P w K mg base N ql sc f cdv A outer s H E) bd (lS K T (wxE E) t)) ∧
      ∀ ds p n kd xd, φ ds p n kd xd → t (S0 N ds p n) (E0 kd xd)) : FnG P w K mg base (k + 1) f fd ps (spD K T φ) := by
  obtain ⟨t, h1, h2⟩ := hb
  refine okG F S (spD_len hl) (fun cdv A outer s H vs Q E hr hG h => ⟨_, h1 cdv A outer s H E hr hG, ?_⟩)
  exact run0 (X := cxOf (L2.CX P w) P w K mg base N ql sc f cdv A outer s H E) (bd := bd) h2 h
end
section
variable {X : Cx} {T : List (Addr × Str)} {W : WX} {k : Nat} {f C : Addr} {fd : FuncData} {ps : List Str} {sp : Sp} {E : L2.St → XK} {x m : Str} {p pos apos : Pos} {e o : Expr} {es : List Expr} {ta : TA} {tr : DR} {te : DE} {φ : FD} {dvs : List V} {dds : List D} {us : List Value}
theorem runGS {pins : List (Addr × Obj)} {σ : L2.St} {H : Hp} {s : Shared} {Q : VK} {us : List Value} {vs : List V} {ds : List Value} (F : FnG X.prog X.w X.K X.mg X.base k f fd ps sp) (hr : Room k X.A) (hG : X.A.guards = some []) (hb : Binds X.K fd ps ds) (hd : Vals dvs ds)
    (hx : PassesAt (L2.CX X.prog X.w) X σ (E σ)) (I : Inv X pins σ H s) (r : Vals vs us) (h : sp (vs ++ dvs) H Q (E σ)) : wpAny (model X.prog X.w) X.A (call (.ref f) us) (EP X pins σ Q) X.xe s := by
  have r2 := r.append hd
  have hl : (us ++ ds).length = ps.length := by
    rw [← r2.length]
    exact F.len _ _ _ _ h
  refine wpAny_call (codeAny_mono (F.run X.A X.stack s H ⟨us, []⟩ (us ++ ds) (vs ++ dvs) Q (E σ) hr hG I.env0 (hb s us I.kIn hl) r2 h) fun r' s' hq => ?_)
  cases r' with
  | error er => exact hx pins H s er s' I hq
  | ok fl =>
    cases fl with
    | ret u => exact I.after hq
    | next => exact hq.elim
    | brk => exact hq.elim
    | cont => exact hq.elim
theorem runS {pins : List (Addr × Obj)} {σ : L2.St} {H : Hp} {s : Shared} {Q : VK} {us : List Value} {vs : List V} {ds : List Value} (F : FnOk X.prog X.w X.K X.mg X.base (L2.CX X.prog X.w) k f fd ps sp) (hr : Room k X.A) (hb : Binds X.K fd ps ds) (hd : Vals dvs ds)
    (hx : PassesAt (L2.CX X.prog X.w) X σ (E σ)) (I : Inv X pins σ H s) (r : Vals vs us) (h : sp (vs ++ dvs) H Q (E σ)) : wpAny (model X.prog X.w) X.A (call (.ref f) us) (EP X pins σ Q) X.xe s := by
  have r2 := r.append hd
  have hl : (us ++ ds).length = ps.length := by
    rw [← r2.length]
    exact F.len _ _ _ _ h
  refine wpAny_call (codeAny_mono (F.run X.A X.stack s H ⟨us, []⟩ (us ++ ds) (vs ++ dvs) Q (E σ) hr I.env0 (hb s us I.kIn hl) r2 h) fun r' s' hq => ?_)
  cases r' with
  | error er => exact hx pins H s er s' I hq
  | ok fl =>
    cases fl with
    | ret u => exact I.after hq
    | next => exact hq.elim
    | brk => exact hq.elim
    | cont => exact hq.elim
/-- f(..) -/
def tCallX (sp : Sp) (dvs : List V) (E : L2.St → XK) (t : TA) : TE := fun σ H Q => t σ H fun vs H1 => sp (vs ++ dvs) H1 Q (E σ)
/-- what is called by name, anyhow -/
def Runs (X : Cx) (f : Addr) (sp : Sp) (dvs : List V) (E : L2.St → XK) : Prop := ∀ (pins : List (Addr × Obj)) (σ : L2.St) (H : Hp) (s : Shared) (Q : VK) (us : List Value) (vs : List V), Inv X pins σ H s → Vals vs us → sp (vs ++ dvs) H Q (E σ) →
  wpAny (model X.prog X.w) X.A (call (.ref f) us) (EP X pins σ Q) X.xe s
theorem pe_callX (R : Runs X f sp dvs E) (hg : Gl X x) (hm : X.mg x = some (.ref f)) (hk : PySem.W.keepIn X.K (.ref f) = true)
    (ha : PA X (e :: es) ta) (hdb : (x == ("__debug__" : Str)) = false := by decide) (hst : starEach (e :: es) X.env = (false, eval e X.env) :: starEach es X.env := by rfl) (hpl : (backTo pos (starEach es X.env)).any (·.1) = false := by rfl) :
    PE X (.Call (.Name x p) (e :: es) [] pos) (tCallX sp dvs E ta) := by
  refine ⟨fun pins s σ H Q I h => ?_⟩
  refine wpAny_Call_Name_kw (ld_glob I hg hm ?_ hdb)
  refine PySem.W.callWith_K (h₀ := X.base) I.ok.mod.kin hk (thn (ha.run pos pins s σ H _ I h) ?_) hst hpl
  rintro us s1 ⟨vs, H1, I1, r, q⟩
  exact ⟨I1.kIn, R pins σ H1 s1 Q us vs I1 r q⟩
/-- what reaches the callee, and comes back -/
theorem spD_of {K : PySem.W.Frag} {g : Gd} {f1 H1 : Hp} {σ : L2.St} {s1 : S} {XQ : XD} {Kd : D → S → Prop} {Q : VK} {ds : List D} {vs : List V} (ok : Okay K T g f1 H1 σ s1) (xo : XOk K T W g σ XQ) (r : Reps K f1 ds vs)
    (h : φ ds s1.p s1.n (fun d n' => Kd d { s1 with n := n' }) (fun c fs n' => XQ c fs { s1 with n := n' })) (hQ : ∀ d s' v f' H', Kd d s' → Ex f1 f' → Okay K T g f' H' σ s' → Rep K f' d v → Q v H') : spD K T φ vs H1 Q (WE W σ) :=
  ⟨f1, s1.p, s1.n, ds, _, _, ok.fr.inn, ok.wo, r, h, fun d n' v f' H' hk le fr wo' rr => hQ d _ v f' H' hk fr.sub (ok.call fr wo' le) rr,
    fun cls fs n' f' H' xs dd hx le fr wo' hd rr => xo cls fs _ f' H' xs dd (ok.call fr wo' le) hd rr hx⟩
theorem d_callX (R : Runs X f (spD X.K T φ) dvs (WE W)) (hdd : ∀ h, Reps X.K h dds dvs) (hg : Gl X x) (hm : X.mg x = some (.ref f)) (hk : PySem.W.keepIn X.K (.ref f) = true)
    (ha : PA X (e :: es) (lA X.K T W tr)) (hdb : (x == ("__debug__" : Str)) = false := by decide) (hst : starEach (e :: es) X.env = (false, eval e X.env) :: starEach es X.env := by rfl) (hpl : (backTo pos (starEach es X.env)).any (·.1) = false := by rfl) :
    PE X (.Call (.Name x p) (e :: es) [] pos) (lE X.K T W (dCall (fun ds => φ (ds ++ dds)) tr)) :=
  (pe_callX R hg hm hk ha hdb hst hpl).up fun σ H Q ⟨g, f, s, XQ, Kd, ok, xo, h, hQ⟩ => ⟨g, f, s, XQ, _, ok, xo, h, fun ds s1 vs f1 H1 hx e1 ok1 r1 =>
    spD_of ok1 xo (r1.app (hdd f1)) hx fun d s' v f' H' hk e2 ok2 rr => hQ d s' v f' H' hk (e1.trans e2) ok2 rr⟩
theorem runs_ok (F : FnOk X.prog X.w X.K X.mg X.base (L2.CX X.prog X.w) k f fd ps sp) (hr : Room k X.A) (hb : Binds X.K fd ps us) (hd : Vals dvs us) (tk : Takes X W) : Runs X f sp dvs (WE W) :=
  fun pins σ H s Q us vs I r h => runS F hr hb hd (passAt tk σ) I r h
theorem runs_g (F : FnG X.prog X.w X.K X.mg X.base k f fd ps sp) (hr : Room k X.A) (hG : X.A.guards = some []) (hb : Binds X.K fd ps us) (hd : Vals dvs us) (tk : Takes X W) : Runs X f sp dvs (WE W) :=
  fun pins σ H s Q us vs I r h => runGS F hr hG hb hd (passAt tk σ) I r h
theorem dCall_nil {φ : FD} {tr : DR} : dCall (fun ds => φ (ds ++ [])) tr = dCall φ tr := by
  unfold dCall
  simp only [List.append_nil]
/-- f(a, b, ..) -/
theorem d_call (F : FnOk X.prog X.w X.K X.mg X.base (L2.CX X.prog X.w) k f fd ps (spD X.K T φ)) (hr : Room k X.A) (tk : Takes X W) (hg : Gl X x) (hm : X.mg x = some (.ref f)) (hk : PySem.W.keepIn X.K (.ref f) = true) (hb : Binds X.K fd ps [])
    (ha : PA X (e :: es) (lA X.K T W tr)) (hdb : (x == ("__debug__" : Str)) = false := by decide) (hst : starEach (e :: es) X.env = (false, eval e X.env) :: starEach es X.env := by rfl) (hpl : (backTo pos (starEach es X.env)).any (·.1) = false := by rfl) :
    PE X (.Call (.Name x p) (e :: es) [] pos) (lE X.K T W (dCall φ tr)) := by
  rw [← dCall_nil]
  exact d_callX (runs_ok F hr hb .nil tk) (fun _ => rfl) hg hm hk ha hdb hst hpl
theorem d_callG (F : FnG X.prog X.w X.K X.mg X.base k f fd ps (spD X.K T φ)) (hr : Room k X.A) (hG : X.A.guards = some []) (tk : Takes X W) (hg : Gl X x) (hm : X.mg x = some (.ref f)) (hk : PySem.W.keepIn X.K (.ref f) = true) (hb : Binds X.K fd ps [])
    (ha : PA X (e :: es) (lA X.K T W tr)) (hdb : (x == ("__debug__" : Str)) = false := by decide) (hst : starEach (e :: es) X.env = (false, eval e X.env) :: starEach es X.env := by rfl) (hpl : (backTo pos (starEach es X.env)).any (·.1) = false := by rfl) :
    PE X (.Call (.Name x p) (e :: es) [] pos) (lE X.K T W (dCall φ tr)) := by
  rw [← dCall_nil]
  exact d_callX (runs_g F hr hG hb .nil tk) (fun _ => rfl) hg hm hk ha hdb hst hpl
/-! fields, methods, properties of frozen instances -/
def dFld (f : Str) (te : DE) (s : S) (k : D → S → Prop) (x : XD) : Prop := te s (fun d s1 => match d with
  | .obj C fs => match fs.lookup f with
    | some v => k v s1
    | none => False
  | _ => False) x
/-- C's instances bear f as a field -/
structure FldOk (K : PySem.W.Frag) (C : Addr) (f : Str) : Prop where
  cls : Cls K C
  no : NoAttr K C f
def dFldC (C : Addr) (f : Str) (te : DE) (s : S) (k : D → S → Prop) (x : XD) : Prop := te s (fun d s1 => match d with
  | .obj C' fs => C' = C ∧ match fs.lookup f with
    | some v => k v s1
    | none => False
  | _ => False) x
theorem d_fld {fl : Str} (c : Cls X.K C) (no : NoAttr X.K C fl) (he : PE X e (lE X.K T W te)) (hb : attributeBase e fl X.env (eval e X.env) = eval e X.env := by rfl) : PE X (.Attribute e fl pos) (lE X.K T W (dFldC C fl te)) :=
  (pe_fld he hb).up fun σ H Q ⟨g, f, s, XQ, Kd, ok, xo, h, hQ⟩ => ⟨g, f, s, XQ, _, ok, xo, h, fun d s1 v f1 H1 hx e1 ok1 r1 => by
    cases d with
    | obj C' fs =>
      obtain ⟨rfl, hx⟩ := hx
      obtain ⟨a, dx, xs, rfl, h1, h2⟩ := r1
      split at hx
      · rename_i d' e'
        obtain ⟨v, h3, h4⟩ := (h2.look fl).1 d' e'
        exact ⟨a, C', dx, xs, v, rfl, ok1.fr.inn _ _ h1, c, no, h3, hQ d' s1 v f1 H1 hx e1 ok1 h4⟩
      · exact hx.elim
    | _ => exact (show False from hx).elim⟩
def noField (m : Str) (fs : List (Str × D)) : Bool := (fs.lookup m).isNone
/-- o.m(..) of a frozen instance -/
def dMeth (C : Addr) (m : Str) (φ : FD) (te : DE) (tr : DR) (s : S) (k : D → S → Prop) (x : XD) : Prop := te s (fun d s1 => match d with
  | .obj C' fs => C' = C ∧ noField m fs = true ∧ tr s1 (fun ds s2 => φ (d :: ds) s2.p s2.n (fun d n' => k d { s2 with n := n' }) (fun c gs n' => x c gs { s2 with n := n' })) x
  | _ => False) x
theorem d_methX {pl : Sem Bool} {ee : XK} (hW : W = wxE ee) (he : PE X o (lE X.K T W te)) (c : Cls X.K C) (hm : Meth X.K C m f) (F : FnOk X.prog X.w X.K X.mg X.base (L2.CX X.prog X.w) k f fd ps (spD X.K T φ)) (hr : Room k X.A) (hb : Binds X.K fd ps []) (tk : Takes X W) (ha : PA X (e :: es) (lA X.K T W tr))
    (hst : starEach (e :: es) X.env = (false, eval e X.env) :: starEach es X.env := by rfl) (hpl : (backTo pos (starEach es X.env)).any (·.1) = false := by rfl)
    (ht : eval (.Call (.Attribute o m apos) (e :: es) [] pos) X.env = (do
      let ov ← eval o X.env
      standAt apos.atName
      let (f, first) ← holding [ov] (getMethod ov m pl)
      callWith pos f first (backTo pos (starEach (e :: es) X.env)) []) := by rfl) : PE X (.Call (.Attribute o m apos) (e :: es) [] pos) (lE X.K T W (dMeth C m φ te tr)) := by
  subst hW
  refine (pe_meth (dvs := []) (ds := []) (E := ee) (pl := pl) he c hm F hr hb .nil (passes_call tk fun _ _ _ _ h => h) ha hst hpl ht).up fun σ H Q ⟨g, f, s, XQ, Kd, ok, xo, h, hQ⟩ => ⟨g, f, s, XQ, _, ok, xo, h, fun d s1 v f1 H1 hx e1 ok1 r1 => ?_⟩
  cases d with
  | obj C' fs =>
    obtain ⟨rfl, hn, hx⟩ := hx
    have r0 := r1
    obtain ⟨a, dx, xs, rfl, h1, h2⟩ := r1
    refine ⟨a, dx, xs, rfl, ok1.fr.inn _ _ h1, (h2.look m).2 (Option.isNone_iff_eq_none.mp hn), g, f1, s1, XQ, _, ok1, xo, hx, fun ds s2 vs f2 H2 hy e2 ok2 r2 => ?_⟩
    dsimp only
    rw [List.append_nil]
    exact spD_of (W := wxE ee) (ds := D.obj C' fs :: ds) ok2 xo ⟨_, vs, rfl, r0.ex e2, r2⟩ hy fun d s' v f' H' hk e3 ok3 rr => hQ d s' v f' H' hk (e1.trans (e2.trans e3)) ok3 rr
  | _ => exact (show False from hx).elim
theorem d_meth0X {pl : Sem Bool} {ee : XK} (hW : W = wxE ee) (he : PE X o (lE X.K T W te)) (c : Cls X.K C) (hm : Meth X.K C m f) (F : FnOk X.prog X.w X.K X.mg X.base (L2.CX X.prog X.w) k f fd ps (spD X.K T φ)) (hr : Room k X.A) (hb : Binds X.K fd ps []) (tk : Takes X W)
    (ht : eval (.Call (.Attribute o m apos) [] [] pos) X.env = (do
      let ov ← eval o X.env
      standAt apos.atName
      let (f, first) ← holding [ov] (getMethod ov m pl)
      callWith pos f first (backTo pos (starEach [] X.env)) (backToKw pos (keywordEach [] X.env))) := by rfl) : PE X (.Call (.Attribute o m apos) [] [] pos) (lE X.K T W (dMeth C m φ te dNil)) := by
  subst hW
  refine (pe_meth0 (dvs := []) (ds := []) (E := ee) (pl := pl) he c hm F hr hb .nil (passes_call tk fun _ _ _ _ h => h) ht).up fun σ H Q ⟨g, f, s, XQ, Kd, ok, xo, h, hQ⟩ => ⟨g, f, s, XQ, _, ok, xo, h, fun d s1 v f1 H1 hx e1 ok1 r1 => ?_⟩
  cases d with
  | obj C' fs =>
    obtain ⟨rfl, hn, hx⟩ := hx
    have r0 := r1
    obtain ⟨a, dx, xs, rfl, h1, h2⟩ := r1
    refine ⟨a, dx, xs, rfl, ok1.fr.inn _ _ h1, (h2.look m).2 (Option.isNone_iff_eq_none.mp hn), ?_⟩
    exact spD_of (W := wxE ee) (ds := [D.obj C' fs]) ok1 xo (.one r0) hx fun d s' v f' H' hk e3 ok3 rr => hQ d s' v f' H' hk (e1.trans e3) ok3 rr
  | _ => exact (show False from hx).elim
def noX : Value → List (Str × D) → Nat → Prop := fun _ _ _ => False
/-- o.p, p a property that raises nothing -/
def dProp (C : Addr) (φ : FD) (te : DE) (s : S) (k : D → S → Prop) (x : XD) : Prop := te s (fun d s1 => match d with
  | .obj C' _ => C' = C ∧ φ [d] s1.p s1.n (fun d n' => k d { s1 with n := n' }) noX
  | _ => False) x
theorem d_prop {fl : Str} {p' : Addr} (he : PE X e (lE X.K T W te)) (c : Cls X.K C) (hp : PropOf X.K C fl p' f) (F : FnOk X.prog X.w X.K X.mg X.base (L2.CX X.prog X.w) k f fd ps (spD X.K T φ)) (hr : Room (k + 1) X.A) (hb : Binds X.K fd ps [])
    (hab : attributeBase e fl X.env (eval e X.env) = eval e X.env := by rfl) : PE X (.Attribute e fl pos) (lE X.K T W (dProp C φ te)) :=
  (pe_prop (dvs := []) (ds := []) (E := L2.E0) he c hp F hr hb .nil passL hab).up fun σ H Q ⟨g, f, s, XQ, Kd, ok, xo, h, hQ⟩ => ⟨g, f, s, XQ, _, ok, xo, h, fun d s1 v f1 H1 hx e1 ok1 r1 => by
    cases d with
    | obj C' fs =>
      obtain ⟨rfl, hx⟩ := hx
      have r0 := r1
      obtain ⟨a, dx, xs, rfl, h1, h2⟩ := r1
      refine ⟨a, dx, xs, rfl, ok1.fr.inn _ _ h1, ?_⟩
      exact ⟨f1, s1.p, s1.n, [_], _, noX, ok1.fr.inn, ok1.wo, .one r0, hx, fun d n' v f' H' hk le fr wo' rr => hQ d _ v f' H' hk (e1.trans fr.sub) (ok1.call fr wo' le) rr, fun _ _ _ _ _ _ _ h => h.elim⟩
    | _ => exact (show False from hx).elim⟩
/-- C.m(..), m static -/
def dSM (φ : FD) (tr : DR) : DE := dCall φ tr
theorem d_sm {pl : Sem Bool} {ee : XK} {p' : Addr} (hW : W = wxE ee) (he : PE X o (tC (.ref C))) (c : SMet X.K C m p' f) (F : FnOk X.prog X.w X.K X.mg X.base (L2.CX X.prog X.w) k f fd ps (spD X.K T φ)) (hr : Room k X.A) (hb : Binds X.K fd ps []) (tk : Takes X W) (ha : PA X (e :: es) (lA X.K T W tr))
    (hst : starEach (e :: es) X.env = (false, eval e X.env) :: starEach es X.env := by rfl) (hpl : (backTo pos (starEach es X.env)).any (·.1) = false := by rfl)
    (ht : eval (.Call (.Attribute o m apos) (e :: es) [] pos) X.env = (eval o X.env >>= fun ov => standAt apos.atName >>= fun _ => holding [ov] (getMethod ov m pl) >>= fun q => callWith pos q.1 q.2 (backTo pos (starEach (e :: es) X.env)) (backToKw pos (keywordEach [] X.env))) := by rfl) :
    PE X (.Call (.Attribute o m apos) (e :: es) [] pos) (lE X.K T W (dCall φ tr)) := by
  subst hW
  exact (pe_sm (E := ee) (pl := pl) he c F hr hb (passes_call tk fun _ _ _ _ h => h) ha hst hpl ht).up fun σ H Q ⟨g, f, s, XQ, Kd, ok, xo, h, hQ⟩ => ⟨rfl, g, f, s, XQ, _, ok, xo, h, fun ds s1 vs f1 H1 hx e1 ok1 r1 =>
    spD_of (W := wxE ee) ok1 xo r1 hx fun d s' v f' H' hk e2 ok2 rr => hQ d s' v f' H' hk (e1.trans e2) ok2 rr⟩
/-! own errors -/
theorem repF_zip {K : PySem.W.Frag} {f : Hp} : ∀ {fns : List Str} {ds : List D} {xs : List V}, Reps K f ds xs → RepF K f (fns.zip ds) (fns.zip xs)
  | [], _, _, _ => by simp only [List.zip_nil_left]; exact rfl
  | _ :: _, [], _, h => by cases h; simp only [List.zip_nil_right]; exact rfl
  | _ :: _, _ :: _, _, ⟨x, r, h1, h2, h3⟩ => by subst h1; exact ⟨x, _, rfl, h2, repF_zip h3⟩
theorem RepF.app {K : PySem.W.Frag} {f : Hp} : ∀ {ds es : List (Str × D)} {xs ys : List (Str × V)}, RepF K f ds xs → RepF K f es ys → RepF K f (ds ++ es) (xs ++ ys)
  | [], _, _, _, h, h' => by cases h; exact h'
  | (_, _) :: _, _, _, _, ⟨x, r, h1, h2, h3⟩, h' => by subst h1; exact ⟨x, _, rfl, h2, RepF.app h3 h'⟩
theorem RepF.rev {K : PySem.W.Frag} {f : Hp} {ds : List (Str × D)} {xs : List (Str × V)} (h : RepF K f ds xs) : RepF K f ds.reverse xs.reverse := by
  induction ds generalizing xs with
  | nil => cases h; exact rfl
  | cons d ds ih =>
    obtain ⟨n, d⟩ := d
    obtain ⟨x, r, rfl, h2, h3⟩ := h
    simp only [List.reverse_cons]
    exact (ih h3).app ⟨x, [], rfl, h2, rfl⟩
def dRaise (C : Addr) (fns : List Str) (tr : DR) (s : S) (en : En) : Prop := tr s (fun ds s1 => ds.length = fns.length ∧ en.ex (.ref C) (fns.zip ds).reverse s1) en.ex
theorem ds_raise {fns : List Str} (hc : X.calm = true) (tk : Takes X W) (he : PMk X e (tErr C fns (lA X.K T W tr))) : PS X (.Raise (some e) none pos) (lS X.K T W (dRaise C fns tr)) :=
  (ps_raise hc tk he).up fun D σ H ⟨g, f, s, en, ok, xo, h, _⟩ => ⟨g, f, s, en.ex, _, ok, xo _, h, fun ds s1 vs f1 H1 hx e1 ok1 r1 => ⟨by rw [r1.len]; exact hx.1, fun dd hd =>
    xo σ (.ref C) _ s1 _ _ _ dd (ok1.gro (Gro.new ok1.fr.inn hd)) upd_same ((repF_zip r1).rev.ex (Ex.new (ok1.fr.inn.free hd))) hx.2⟩⟩
/-! built-ins -/
abbrev DB := List D → (D → Prop) → Prop
def rB (K : PySem.W.Frag) (o : DB) : RC := fun vs H Q => ∃ f ds Kd, Ex f H ∧ Reps K f ds vs ∧ o ds Kd ∧ ∀ d v f' H', Kd d → Gro f H f' H' → Rep K f' d v → Q v H'
def dCB (o : DB) (tr : DR) (s : S) (k : D → S → Prop) (x : XD) : Prop := tr s (fun ds s1 => o ds fun d => k d s1) x
theorem cb_up {σ : L2.St} {H : Hp} {Q : VK} {o : DB} (h : lE X.K T W (dCB o tr) σ H Q) : tCB (rB X.K o) (lA X.K T W tr) σ H Q := by
  obtain ⟨g, f, s, XQ, Kd, ok, xo, h, hQ⟩ := h
  exact ⟨g, f, s, XQ, _, ok, xo, h, fun ds s1 vs f1 H1 hx e1 ok1 r1 => ⟨f1, ds, _, ok1.fr.inn, r1, hx, fun d v f' H' hk gr rr => hQ d s1 v f' H' hk (e1.trans gr.sub) (ok1.gro gr) rr⟩⟩
theorem d_callB {id : String} {o : DB} (hc : CallR X (.builtin id) (rB X.K o)) (hg : Gl X x) (hm : X.mg x = none) (hv : bootBuiltins x = some (.builtin id)) (ha : PA X (e :: es) (lA X.K T W tr)) (hn : x ≠ "__name__" := by decide) (hdb : (x == ("__debug__" : Str)) = false := by decide)
    (he : starEach (e :: es) X.env = (false, eval e X.env) :: starEach es X.env := by rfl) (hpl : (backTo pos (starEach es X.env)).any (·.1) = false := by rfl) : PE X (.Call (.Name x p) (e :: es) [] pos) (lE X.K T W (dCB o tr)) :=
  (pe_callB hc hg hm hv ha hn hdb he hpl).up fun _ _ _ h => cb_up h
theorem d_callTy {id : String} {o : DB} (hc : CallR X (.type id) (rB X.K o)) (hg : Gl X x) (hm : X.mg x = none) (hv : bootBuiltins x = some (.type id)) (ha : PA X (e :: es) (lA X.K T W tr)) (hn : x ≠ "__name__" := by decide) (hdb : (x == ("__debug__" : Str)) = false := by decide)
    (he : starEach (e :: es) X.env = (false, eval e X.env) :: starEach es X.env := by rfl) (hpl : (backTo pos (starEach es X.env)).any (·.1) = false := by rfl) : PE X (.Call (.Name x p) (e :: es) [] pos) (lE X.K T W (dCB o tr)) :=
  (pe_callTy hc hg hm hv ha hn hdb he hpl).up fun _ _ _ h => cb_up h
end
end DL

/-! DL: loops, comprehensions. -/
namespace DL
open PySem PySem.Spec PyProof.Rows L2 Z LamX

/-- the iterator hands out the data ds -/
def Wk (K : PySem.W.Frag) (f : Hp) (J : It) (ds : List D) : Prop := ds.length ≤ sizeLine ∧ ∃ (G : Hp → Prop) (Y : Nat → Hp → V → Hp → Prop), L2.Walk J ds.length G Y ∧ (∀ H, Ex f H → G H) ∧
  ∀ i H x H', i < ds.length → Ex f H → Y i H x H' → ∃ d, ds[i]? = some d ∧ ∀ f1, Ex f f1 → Ex f1 H → ∃ f2, Gro f1 H f2 H' ∧ Rep K f2 d x
def lI (K : PySem.W.Frag) (T : List (Addr × Str)) (W : WX) (t : DR) : TI := fun σ H R => ∃ g f s XQ Kd, Okay K T g f H σ s ∧ XOk K T W g σ XQ ∧ t s Kd XQ ∧ ∀ ds s' f' H' J, Kd ds s' → Ex f f' → Okay K T g f' H' σ s' → Wk K f' J ds → R J H'
def loopD (tg : DG) (b : DS) (en : En) : List D → S → Prop
  | [], s => en.nx s
  | d :: r, s => tg d s fun s1 => b s1 { en with nx := loopD tg b en r, ct := loopD tg b en r, bk := en.nx }
def dFor (t : DR) (tg : DG) (b : DS) (s : S) (en : En) : Prop := t s (fun ds s1 => loopD tg b en ds s1) en.ex
def dWhile (c : DT) (b : DS) (s : S) (en : En) : Prop := ∃ I : Nat → S → Prop, (∃ m, I m s) ∧ ∀ m s, I m s → c s (fun k s1 => if k = true then b s1 { en with nx := fun s' => ∃ m', m' < m ∧ I m' s', ct := fun s' => ∃ m', m' < m ∧ I m' s', bk := en.nx } else en.nx s1) en.ex
section
variable {X : Cx} {T : List (Addr × Str)} {W : WX} {a b c e tg iter : Expr} {ta tb tc te : DE} {tt tu : DT} {tr : DR} {es body : List Expr} {pos : Pos} {st : Stmt} {sts : List Stmt} {t u : DS} {gt : DG} {vs : List Nat}
theorem _root_.L2.PI.up {e : Expr} {t t' : TI} (h : PI X tg e t) (k : ∀ σ H R, t' σ H R → t σ H R) : PI X tg e t' := ⟨fun pins s σ H R I q => h.run pins s σ H R I (k _ _ _ q)⟩
theorem drop_cons {α : Type} {xs : List α} {i : Nat} {d : α} (h : xs[i]? = some d) : xs.drop i = d :: xs.drop (i + 1) := by
  obtain ⟨h1, h2⟩ := List.getElem?_eq_some_iff.mp h
  rw [← h2]
  exact List.drop_eq_getElem_cons h1
theorem ds_for (hp : PassesOwn (model X.prog X.w) X.A X.env X.xe) (hc : X.calm = true) (hi : PI X tg iter (lI X.K T W tr)) (hg : PG X tg (lG X.K T vs gt)) (hb : PSs X sts (lS X.K T W t)) (hs : ∀ x, foldedSetIterable iter X.env x = pure x := by intro _; rfl) :
    PS X (.For tg iter sts [] pos) (lS X.K T W (dFor tr gt t)) :=
  (ps_for hp hc hi hg hb hs).up fun D σ H ⟨g, f, s, en, ok, xo, h, q1, q2, q3, q4⟩ => ⟨g, f, s, en.ex, _, ok, xo _, h, fun ds s1 f1 H1 J hx e1 ok1 ⟨hl, G, Y, w, hG, hY⟩ => by
    refine for_it w (fun i σ' H' => ∃ f2 s2, Ex f1 f2 ∧ Okay X.K T g f2 H' σ' s2 ∧ loopD gt t en (ds.drop i) s2) ⟨f1, s1, Ex.refl _, ok1, hx⟩ (fun i σ' H' _ ⟨f2, s2, e2, ok2, _⟩ => hG H' (e2.trans ok2.fr.inn)) ?_ ?_
    · rintro i x σ2 H2 H3 hi ⟨f2, s2, e2, ok2, hl2⟩ hy
      obtain ⟨d, hd, hr⟩ := hY i H2 x H3 hi (e2.trans ok2.fr.inn) hy
      obtain ⟨f3, gr, r3⟩ := hr f2 e2 ok2.fr.inn
      rw [drop_cons hd] at hl2
      refine ⟨g, f3, s2, d, _, ok2.gro gr, r3, hl2, fun s4 σ4 f4 H4 hk e4 _ ok4 => ?_⟩
      have e14 : Ex f1 f4 := e2.trans (gr.sub.trans e4)
      have ef4 : Ex f f4 := e1.trans e14
      exact ⟨g, f4, s4, { en with nx := loopD gt t en (ds.drop (i + 1)), ct := loopD gt t en (ds.drop (i + 1)), bk := en.nx }, ok4, xo, hk, fun s5 σ5 f5 H5 h e5 ok5 => ⟨f5, s5, e14.trans e5, ok5, h⟩, fun s5 σ5 f5 H5 h e5 ok5 => q1 s5 σ5 f5 H5 h (ef4.trans e5) ok5,
        fun s5 σ5 f5 H5 h e5 ok5 => ⟨f5, s5, e14.trans e5, ok5, h⟩, fun d s5 σ5 v f5 H5 h e5 ok5 r => q4 d s5 σ5 v f5 H5 h (ef4.trans e5) ok5 r⟩
    · rintro σ2 H2 ⟨f2, s2, e2, ok2, hl2⟩
      rw [List.drop_length] at hl2
      exact q1 s2 σ2 f2 H2 hl2 (e1.trans e2) ok2⟩
theorem ds_while (hp : PassesOwn (model X.prog X.w) X.A X.env X.xe) (hc : PT X c (lT X.K T W tt)) (hb : PSs X sts (lS X.K T W t)) : PS X (.While c sts [] pos) (lS X.K T W (dWhile tt t)) :=
  (ps_while hp hc hb).up fun D σ H ⟨g, f, s, en, ok, xo, ⟨I, ⟨m0, h0⟩, h⟩, q1, q2, q3, q4⟩ => by
    refine ⟨fun m σ' H' => ∃ f2 s2, Ex f f2 ∧ Okay X.K T g f2 H' σ' s2 ∧ I m s2, ⟨m0, f, s, Ex.refl _, ok, h0⟩, ?_⟩
    rintro m σ2 H2 ⟨f2, s2, e2, ok2, i2⟩
    refine ⟨g, f2, s2, en.ex, _, ok2, xo _, h m s2 i2, fun k s3 f3 H3 hk e3 ok3 => ?_⟩
    have ef3 : Ex f f3 := e2.trans e3
    cases k with
    | true =>
      have hk : t s3 { en with nx := fun s' => ∃ m', m' < m ∧ I m' s', ct := fun s' => ∃ m', m' < m ∧ I m' s', bk := en.nx } := hk
      refine iteT ⟨fun σ' H' => ∃ f2 s2 m', Ex f f2 ∧ Okay X.K T g f2 H' σ' s2 ∧ m' < m ∧ I m' s2, fun σ' H' ⟨f4, s4, m', e4, ok4, lt, i4⟩ => ⟨m', lt, f4, s4, e4, ok4, i4⟩, g, f3, s3, { en with nx := fun s' => ∃ m', m' < m ∧ I m' s', ct := fun s' => ∃ m', m' < m ∧ I m' s', bk := en.nx }, ok3, xo, hk, ?_, ?_, ?_, ?_⟩
      · exact fun s5 σ5 f5 H5 ⟨m', lt, i5⟩ e5 ok5 => ⟨f5, s5, m', ef3.trans e5, ok5, lt, i5⟩
      · exact fun s5 σ5 f5 H5 h e5 ok5 => q1 s5 σ5 f5 H5 h (ef3.trans e5) ok5
      · exact fun s5 σ5 f5 H5 ⟨m', lt, i5⟩ e5 ok5 => ⟨f5, s5, m', ef3.trans e5, ok5, lt, i5⟩
      · exact fun d s5 σ5 v f5 H5 h e5 ok5 r => q4 d s5 σ5 v f5 H5 h (ef3.trans e5) ok5 r
    | false => exact iteF (q1 s3 σ2 f3 H3 hk ef3 ok3)
/-! what is gone through -/
theorem wk_fix {K : PySem.W.Frag} {f : Hp} {J : It} {ds : List D} {n : Nat} {G : Hp → Prop} {Y : Nat → Hp → V → Hp → Prop} (hn : n = ds.length) (hl : ds.length ≤ sizeLine) (w : L2.Walk J n G Y) (hG : ∀ H, Ex f H → G H)
    (hY : ∀ i H x H', Y i H x H' → H' = H ∧ (i < ds.length → ∃ d, ds[i]? = some d ∧ Rep K f d x)) : Wk K f J ds := by
  subst hn
  refine ⟨hl, G, Y, w, hG, fun i H x H' hi _ hy => ?_⟩
  obtain ⟨rfl, h⟩ := hY i H x H' hy
  obtain ⟨d, h1, h2⟩ := h hi
  exact ⟨d, h1, fun f1 e1 e2 => ⟨f1, Gro.refl e2, h2.ex e1⟩⟩
def iLst (te : DE) (s : S) (k : List D → S → Prop) (x : XD) : Prop := te s (fun d s1 => match d with
  | .lst ds => k ds s1
  | _ => False) x
def iTu (te : DE) (s : S) (k : List D → S → Prop) (x : XD) : Prop := te s (fun d s1 => match d with
  | .tup ds => k ds s1
  | _ => False) x
def charD (z : Str) : List D := z.cps.toList.map fun c => D.str ⟨#[c]⟩
def iSt (te : DE) (s : S) (k : List D → S → Prop) (x : XD) : Prop := te s (fun d s1 => match d with
  | .str z => k (charD z) s1
  | _ => False) x
def rangeD (lo : Int) (n : Nat) : List D := (List.range n).map fun i => D.int (lo + (i : Nat))
def iR1 (tr : DR) (s : S) (k : List D → S → Prop) (x : XD) : Prop := tr s (fun as s1 => match as with
  | [.int j] => (-(2 ^ 62) ≤ j ∧ j ≤ 16777216) ∧ k (rangeD 0 j.toNat) s1
  | _ => False) x
def iR2 (tr : DR) (s : S) (k : List D → S → Prop) (x : XD) : Prop := tr s (fun as s1 => match as with
  | [.int i, .int j] => (-(2 ^ 62) ≤ i ∧ i < 2 ^ 62 ∧ -(2 ^ 62) ≤ j ∧ j < 2 ^ 62 ∧ j - i ≤ 16777216) ∧ k (rangeD i (j - i).toNat) s1
  | _ => False) x
def rangeC (lo c : Int) (n : Nat) : List D := (List.range n).map fun i => D.int (lo + (i : Nat) * c)
def iR3 (tr : DR) (s : S) (k : List D → S → Prop) (x : XD) : Prop := tr s (fun as s1 => match as with
  | [.int i, .int j, .int c] => ∃ n, RgC i j c n ∧ n ≤ 16777216 ∧ k (rangeC i c n) s1
  | _ => False) x
def iEn (tr : DR) (s : S) (k : List D → S → Prop) (x : XD) : Prop := tr s (fun as s1 => match as with
  | [.lst ds] => k (ds.mapIdx fun i d => D.tup [.int (i : Nat), d]) s1
  | _ => False) x
def iZp (tr : DR) (s : S) (k : List D → S → Prop) (x : XD) : Prop := tr s (fun as s1 => match as with
  | [.lst ds, .lst es] => k (List.zipWith (fun d e => D.tup [d, e]) ds es) s1
  | [.tup ds, .tup es] => k (List.zipWith (fun d e => D.tup [d, e]) ds es) s1
  | _ => False) x
def iRv (tr : DR) (s : S) (k : List D → S → Prop) (x : XD) : Prop := tr s (fun as s1 => match as with
  | [.lst ds] => k ds.reverse s1
  | _ => False) x
theorem di_lst (he : PE X e (lE X.K T W te)) : PI X tg e (lI X.K T W (iLst te)) :=
  (pi_list he).up fun σ H R ⟨g, f, s, XQ, Kd, ok, xo, h, hQ⟩ => ⟨g, f, s, XQ, _, ok, xo, h, fun d s1 v f1 H1 hx e1 ok1 r1 => by
    cases d with
    | lst ds =>
      obtain ⟨a, xs, rfl, h1, h2, hl⟩ := r1
      refine ⟨a, rfl, ⟨xs, sql_of (ok1.fr.inn _ _ h1)⟩, hQ ds s1 f1 H1 _ hx e1 ok1 (wk_fix h2.len hl walk_list (fun H2 e2 => sql_of (e2 _ _ h1)) fun i H2 x H3 ⟨e, hx⟩ => ⟨e, fun _ => ?_⟩)⟩
      obtain ⟨d, p1, p2⟩ := h2.get' i hx
      exact ⟨d, p1, p2⟩
    | _ => exact (show False from hx).elim⟩
theorem di_tup (he : PE X e (lE X.K T W te)) : PI X tg e (lI X.K T W (iTu te)) :=
  (pi_tup he).up fun σ H R ⟨g, f, s, XQ, Kd, ok, xo, h, hQ⟩ => ⟨g, f, s, XQ, _, ok, xo, h, fun d s1 v f1 H1 hx e1 ok1 r1 => by
    cases d with
    | tup ds =>
      obtain ⟨a, xs, rfl, h1, h2, hl⟩ := r1
      refine ⟨a, rfl, ⟨xs, ok1.fr.inn.tq h1⟩, hQ ds s1 f1 H1 _ hx e1 ok1 (wk_fix h2.len hl walk_tup (fun H2 e2 => e2.tq h1) fun i H2 x H3 ⟨e, hx⟩ => ⟨e, fun _ => ?_⟩)⟩
      obtain ⟨d, p1, p2⟩ := h2.get' i hx
      exact ⟨d, p1, p2⟩
    | _ => exact (show False from hx).elim⟩
theorem di_str (he : PE X e (lE X.K T W te)) : PI X tg e (lI X.K T W (iSt te)) :=
  (pi_str he).up fun σ H R ⟨g, f, s, XQ, Kd, ok, xo, h, hQ⟩ => ⟨g, f, s, XQ, _, ok, xo, h, fun d s1 v f1 H1 hx e1 ok1 r1 => by
    cases d with
    | str z =>
      obtain ⟨rfl, hl⟩ := r1
      have hl' : (charD z).length = z.cps.size := by simp [charD]
      have one : ∀ c : Nat, ((⟨#[c]⟩ : Str)).length ≤ sizeLine := fun c => by show 1 ≤ sizeLine; decide
      refine ⟨z, rfl, hQ _ s1 f1 H1 _ hx e1 ok1 (wk_fix hl'.symm (by rw [hl']; exact hl) walk_str (fun _ _ => True.intro) fun i H2 x H3 ⟨e, c, hc, hv⟩ => ⟨e, fun _ => ?_⟩)⟩
      refine ⟨.str ⟨#[c]⟩, ?_, hv, one c⟩
      unfold charD
      rw [List.getElem?_map, Array.getElem?_toList, hc]
      rfl
    | _ => exact (show False from hx).elim⟩
theorem di_range1 {p : Pos} (hg : Gl X "range") (hm : X.mg "range" = none) (ha : PA X [a] (lA X.K T W tr)) (hs : starEach [a] X.env = [(false, eval a X.env)] := by rfl) : PI X tg (.Call (.Name "range" p) [a] [] pos) (lI X.K T W (iR1 tr)) :=
  (pi_range1 hg hm ha hs).up fun σ H R ⟨g, f, s, XQ, Kd, ok, xo, h, hQ⟩ => ⟨g, f, s, XQ, _, ok, xo, h, fun ds s1 vs f1 H1 hx e1 ok1 r1 => by
    split at hx
    · obtain ⟨x, r, rfl, rfl, rr⟩ := r1
      cases rr
      rename_i j
      refine ⟨j, rfl, hx.1.1, by omega, hQ _ s1 f1 H1 _ hx.2 e1 ok1 (wk_fix (n := j.toNat) (by simp [rangeD]) (by simp [rangeD, sizeLine_eq]; omega) walk_range (fun _ _ => True.intro) fun i H2 x H3 ⟨e, hv⟩ => ⟨e, fun hi => ?_⟩)⟩
      refine ⟨.int (0 + (i : Nat)), ?_, hv⟩
      simp only [rangeD, List.length_map, List.length_range] at hi
      simp [rangeD, hi]
    · exact hx.elim⟩
theorem di_range2 {p : Pos} (hg : Gl X "range") (hm : X.mg "range" = none) (ha : PA X [a, b] (lA X.K T W tr)) (hs : starEach [a, b] X.env = [(false, eval a X.env), (false, eval b X.env)] := by rfl) (hs2 : starEach [b] X.env = [(false, eval b X.env)] := by rfl) :
    PI X tg (.Call (.Name "range" p) [a, b] [] pos) (lI X.K T W (iR2 tr)) :=
  (pi_range2 hg hm ha hs hs2).up fun σ H R ⟨g, f, s, XQ, Kd, ok, xo, h, hQ⟩ => ⟨g, f, s, XQ, _, ok, xo, h, fun ds s1 vs f1 H1 hx e1 ok1 r1 => by
    split at hx
    · obtain ⟨x, r, rfl, rfl, y, r2, rfl, rfl, rr⟩ := r1
      cases rr
      rename_i i j
      obtain ⟨⟨c1, c2, c3, c4, c5⟩, hx⟩ := hx
      refine ⟨i, j, rfl, ⟨c1, c2, c3, c4⟩, hQ _ s1 f1 H1 _ hx e1 ok1 (wk_fix (n := (j - i).toNat) (by simp [rangeD]) (by simp [rangeD, sizeLine_eq]; omega) walk_range (fun _ _ => True.intro) fun k H2 x H3 ⟨e, hv⟩ => ⟨e, fun hi => ?_⟩)⟩
      refine ⟨.int (i + (k : Nat)), ?_, hv⟩
      simp only [rangeD, List.length_map, List.length_range] at hi
      simp [rangeD, hi]
    · exact hx.elim⟩
theorem di_range3 {p : Pos} (hg : Gl X "range") (hm : X.mg "range" = none) (ha : PA X [a, b, c] (lA X.K T W tr)) (hs : starEach [a, b, c] X.env = (false, eval a X.env) :: starEach [b, c] X.env := by rfl) (hpl : (backTo pos (starEach [b, c] X.env)).any (·.1) = false := by rfl) :
    PI X tg (.Call (.Name "range" p) [a, b, c] [] pos) (lI X.K T W (iR3 tr)) :=
  (pi_range3 hg hm ha hs hpl).up fun σ H R ⟨g, f, s, XQ, Kd, ok, xo, h, hQ⟩ => ⟨g, f, s, XQ, _, ok, xo, h, fun ds s1 vs f1 H1 hx e1 ok1 r1 => by
    split at hx
    · obtain ⟨x, r, rfl, rfl, y, r2, rfl, rfl, z, r3, rfl, rfl, rr⟩ := r1
      cases rr
      rename_i i j c
      obtain ⟨n, c1, c2, hx⟩ := hx
      refine ⟨i, j, c, n, rfl, c1, hQ _ s1 f1 H1 _ hx e1 ok1 (wk_fix (n := n) (by simp [rangeC]) (by simp [rangeC, sizeLine_eq]; omega) walk_rangeC (fun _ _ => True.intro) fun k H2 x H3 ⟨e, hv⟩ => ⟨e, fun hi => ?_⟩)⟩
      refine ⟨.int (i + (k : Nat) * c), ?_, hv⟩
      simp only [rangeC, List.length_map, List.length_range] at hi
      simp [rangeC, hi]
    · exact hx.elim⟩
theorem di_rev {p : Pos} (hg : Gl X "reversed") (hm : X.mg "reversed" = none) (ha : PA X [e] (lA X.K T W tr)) (hs : starEach [e] X.env = [(false, eval e X.env)] := by rfl) : PI X tg (.Call (.Name "reversed" p) [e] [] pos) (lI X.K T W (iRv tr)) :=
  (pi_reversed hg hm ha hs).up fun σ H R ⟨g, f, s, XQ, Kd, ok, xo, h, hQ⟩ => ⟨g, f, s, XQ, _, ok, xo, h, fun ds s1 vs f1 H1 hx e1 ok1 r1 => by
    split at hx
    · obtain ⟨x, r, rfl, ⟨a, xs, rfl, h1, h2, hl⟩, rr⟩ := r1
      cases rr
      rename_i ds
      refine ⟨a, xs, rfl, sql_of (ok1.fr.inn _ _ h1), hQ _ s1 f1 H1 _ hx e1 ok1 (wk_fix (n := xs.length) (by rw [List.length_reverse]; exact h2.len) (by rw [List.length_reverse]; exact hl) walk_rev (fun H2 e2 => sql_of (e2 _ _ h1)) fun i H2 x H3 ⟨e, hv⟩ => ⟨e, fun hi => ?_⟩)⟩
      rw [List.length_reverse] at hi
      have hi' : i < xs.length := by rw [h2.len]; exact hi
      have hv' : xs.reverse[i]? = some x := by rw [List.getElem?_reverse hi']; exact hv
      obtain ⟨d, p1, p2⟩ := h2.rev.get' i hv'
      exact ⟨d, p1, p2⟩
    · exact hx.elim⟩
/-- pairs, each a new tuple -/
theorem wk_pair {K : PySem.W.Frag} {f : Hp} {J : It} {ds : List D} {n : Nat} {G : Hp → Prop} {xs ys : Nat → Option V} (hn : n = ds.length) (hl : ds.length ≤ sizeLine) (w : L2.Walk J n G (YPair xs ys)) (hG : ∀ H, Ex f H → G H)
    (hY : ∀ i x y, xs i = some x → ys i = some y → i < ds.length → ∃ d e, ds[i]? = some (.tup [d, e]) ∧ Rep K f d x ∧ Rep K f e y) : Wk K f J ds := by
  subst hn
  refine ⟨hl, G, _, w, hG, fun i H x H' hi _ hy => ?_⟩
  obtain ⟨Tp, u, v, rfl, hT, rfl, h1, h2⟩ := hy
  obtain ⟨d, e, h3, h4, h5⟩ := hY i u v h1 h2 hi
  refine ⟨_, h3, fun f1 e1 e2 => ?_⟩
  have gr := Gro.new (u := .tup [u, v]) e2 hT
  exact ⟨_, gr, Tp, [u, v], rfl, tp_of upd_same, ⟨u, [v], rfl, h4.ex (e1.trans gr.sub), v, [], rfl, h5.ex (e1.trans gr.sub), rfl⟩, by show 2 ≤ sizeLine; decide⟩
theorem di_enum {p tpos : Pos} {elts : List Expr} {kk : Nat} (hg : Gl X "enumerate") (hm : X.mg "enumerate" = none) (ha : PA X [e] (lA X.K T W tr)) (hs : starEach [e] X.env = [(false, eval e X.env)] := by rfl) :
    PI X (.Tuple elts kk tpos) (.Call (.Name "enumerate" p) [e] [] pos) (lI X.K T W (iEn tr)) :=
  (pi_enum hg hm ha hs).up fun σ H R ⟨g, f, s, XQ, Kd, ok, xo, h, hQ⟩ => ⟨g, f, s, XQ, _, ok, xo, h, fun ds s1 vs f1 H1 hx e1 ok1 r1 => by
    split at hx
    · obtain ⟨x, r, rfl, ⟨a, xs, rfl, h1, h2, hl⟩, rr⟩ := r1
      cases rr
      rename_i ds
      refine ⟨a, xs, rfl, sql_of (ok1.fr.inn _ _ h1), hQ _ s1 f1 H1 _ hx e1 ok1 (wk_pair (n := xs.length) (by rw [List.length_mapIdx]; exact h2.len) (by rw [List.length_mapIdx]; exact hl) walk_enum (fun H2 e2 => sql_of (e2 _ _ h1)) fun i x y q1 q2 hi => ?_)⟩
      cases q1
      obtain ⟨d, p1, p2⟩ := h2.get' i q2
      exact ⟨.int (i : Nat), d, by rw [List.getElem?_mapIdx, p1]; rfl, rfl, p2⟩
    · exact hx.elim⟩
theorem di_zip {e2 : Expr} {p tpos : Pos} {elts : List Expr} {kk : Nat} (hg : Gl X "zip") (hm : X.mg "zip" = none) (ha : PA X [e, e2] (lA X.K T W tr))
    (hs : starEach [e, e2] X.env = (false, eval e X.env) :: starEach [e2] X.env := by rfl) (hpl : (backTo pos (starEach [e2] X.env)).any (·.1) = false := by rfl) : PI X (.Tuple elts kk tpos) (.Call (.Name "zip" p) [e, e2] [] pos) (lI X.K T W (iZp tr)) :=
  (RZ.pi_zipA hg hm ha hs hpl).up fun σ H R ⟨g, f, s, XQ, Kd, ok, xo, h, hQ⟩ => ⟨g, f, s, XQ, _, ok, xo, h, fun ds s1 vs f1 H1 hx e1 ok1 r1 => by
    split at hx
    · obtain ⟨x, r, rfl, ⟨a, xs, rfl, h1, h2, hl⟩, y, r2, rfl, ⟨b, ys, rfl, h3, h4, hl2⟩, rr⟩ := r1
      cases rr
      rename_i ds es
      refine ⟨a, b, xs, ys, rfl, .inl ⟨sql_of (ok1.fr.inn _ _ h1), sql_of (ok1.fr.inn _ _ h3), hQ _ s1 f1 H1 _ hx e1 ok1 (wk_pair (n := min xs.length ys.length) (by rw [List.length_zipWith, h2.len, h4.len]) (by rw [List.length_zipWith]; omega) (walk_zip rfl) (fun H2 e2 => ⟨sql_of (e2 _ _ h1), sql_of (e2 _ _ h3)⟩) fun i x y q1 q2 hi => ?_)⟩⟩
      obtain ⟨d, p1, p2⟩ := h2.get' i q1
      obtain ⟨d', p1', p2'⟩ := h4.get' i q2
      exact ⟨d, d', by rw [List.getElem?_zipWith, p1, p1'], p2, p2'⟩
    · obtain ⟨x, r, rfl, ⟨a, xs, rfl, h1, h2, hl⟩, y, r2, rfl, ⟨b, ys, rfl, h3, h4, hl2⟩, rr⟩ := r1
      cases rr
      rename_i ds es
      have wz : L2.Walk (RZ.ItzT X.K a b) (min xs.length ys.length) (fun H => SqT X.K H a xs ∧ SqT X.K H b ys) (YPair (fun i => xs[i]?) (fun i => ys[i]?)) := by
        refine ⟨fun i H hi hG => ⟨xs, ys, xs[i], ys[i], hG.1, hG.2, by simp, by simp⟩, fun H hG => ⟨xs, ys, hG.1, hG.2, by omega⟩, fun i H v H' hi hG hy => ?_⟩
        obtain ⟨Tp, u, v', e, f1, f2, p1, p2⟩ := hy
        exact ⟨Tp, u, v', e, f1, f2, p1 xs hG.1, p2 ys hG.2⟩
      refine ⟨a, b, xs, ys, rfl, .inr ⟨ok1.fr.inn.tq h1, ok1.fr.inn.tq h3, hQ _ s1 f1 H1 _ hx e1 ok1 (wk_pair (n := min xs.length ys.length) (by rw [List.length_zipWith, h2.len, h4.len]) (by rw [List.length_zipWith]; omega) wz (fun H2 e2 => ⟨e2.tq h1, e2.tq h3⟩) fun i x y q1 q2 hi => ?_)⟩⟩
      obtain ⟨d, p1, p2⟩ := h2.get' i q1
      obtain ⟨d', p1', p2'⟩ := h4.get' i q2
      exact ⟨d, d', by rw [List.getElem?_zipWith, p1, p1'], p2, p2'⟩
    · exact hx.elim⟩
end
end DL

/-! DL: comprehensions; what a frame owns. -/
namespace DL
open PySem PySem.Spec PyProof.Rows L2 Z LamX

def W0 : WX := fun _ _ _ _ => False
def noXS : XD := fun _ _ _ => False
theorem takes0 {X : Cx} : Takes X W0 := fun u s' ⟨_, _, _, _, _, _, _, _, _, _, _, _, _, _, _, _, w⟩ => w.elim
theorem xok0 {K : PySem.W.Frag} {T : List (Addr × Str)} {g : Gd} {σ : L2.St} : XOk K T W0 g σ noXS := fun _ _ _ _ _ _ _ _ _ _ h => h
/-! slots forgotten and remembered -/
def S.no (s : S) (v : Nat) : S := { s with lv := s.lv.set v none }
def S.wipe (s : S) : List Nat → S
  | [] => s
  | v :: vs => (S.wipe s vs).no v
/-- slot v as it stands in s1 -/
def S.back1 (s s1 : S) (v : Nat) : S := { s with lv := s.lv.set v (match s1.lv[v]? with
  | some o => o
  | none => none) }
def S.back (s s1 : S) : List Nat → S
  | [] => s
  | v :: vs => S.back (s.back1 s1 v) s1 vs
def S.plain (s : S) (v : Nat) : Prop := match s.lv[v]? with
  | some (some (.own _ _)) => False
  | _ => True
section
variable {K : PySem.W.Frag} {T : List (Addr × Str)} {g : Gd} {f f' H H' : Hp} {σ σ' : L2.St} {s s1 : S} {v : Nat}
/-- a slot is forgotten, whatever the value is -/
theorem Okay.no (k : Okay K T g f H σ s) (hl : σ'.length = σ.length) (h : ∀ i, i ≠ v → σ'[i]? = σ[i]?) : Okay K T g f H σ' (s.no v) := by
  have get : ∀ (i : Nat) (o : LV), (s.lv.set v none)[i]? = some (some o) → i ≠ v ∧ s.lv[i]? = some (some o) := fun i o e => by
    rw [List.getElem?_set] at e
    split at e
    · split at e <;> cases e
    · rename_i z
      exact ⟨fun q => z q.symm, e⟩
  refine ⟨k.fr, k.px, k.pq, k.wo, ?_, fun i d e => ?_, fun i b o e => ?_, fun q hq => ?_, fun i j bi oi bj oj ne e1 e2 => ?_⟩
  · rw [hl, k.len]
    simp [S.no]
  · obtain ⟨e1, e2⟩ := get i _ e
    rw [h i e1]
    exact k.val i d e2
  · obtain ⟨e1, e2⟩ := get i _ e
    rw [h i e1]
    exact k.own i b o e2
  · obtain ⟨q1, q2, q3, q4, q5, q6⟩ := k.rs q hq
    refine ⟨q1, q2, q3, q4, q5, fun i b o e => ?_⟩
    obtain ⟨e1, e2⟩ := get i _ e
    rw [h i e1]
    exact q6 i b o e2
  · obtain ⟨a1, a2⟩ := get i _ e1
    obtain ⟨b1, b2⟩ := get j _ e2
    rw [h i a1, h j b1]
    exact k.one i j _ _ _ _ ne a2 b2
theorem Okay.wipe (k : Okay K T g f H σ s) : ∀ vs : List Nat, Okay K T g f H (L2.wipe σ vs) (s.wipe vs)
  | [] => k
  | v :: vs => (Okay.wipe k vs).no (by simp [L2.wipe]) fun i hi => by
    show ((L2.wipe σ vs).set v none)[i]? = _
    rw [List.getElem?_set_ne (Ne.symm hi)]
theorem Okay.back1 {g1 : Gd} (k1 : Okay K T g1 f H σ s1) (e : Ex f f') (hp : s1.plain v) (hl : σ'.length = σ.length) (hv : σ'[v]? = σ[v]?) {σ2 : L2.St} (hl2 : σ2.length = σ.length) (h2 : ∀ i, i ≠ v → σ'[i]? = σ2[i]?) (k2 : Okay K T g f' H' σ2 s) : Okay K T g f' H' σ' (s.back1 s1 v) := by
  have kn := k2.no (σ' := σ') (v := v) (hl.trans hl2.symm) h2
  unfold S.back1
  split
  · rename_i o ho
    cases o with
    | none => exact kn
    | some l =>
      cases l with
      | val d =>
        obtain ⟨x, q1, q2⟩ := k1.val v d ho
        have := kn.set (i := v) (q2.ex e)
        have e2 : σ'.set v (some x) = σ' := by
          apply List.ext_getElem?
          intro i
          rw [List.getElem?_set]
          split
          · rename_i z
            subst z
            rw [hv, q1]
            have : v < σ'.length := by rw [hl]; exact (List.getElem?_eq_some_iff.mp q1).1
            rw [if_pos this]
          · rfl
        rw [e2] at this
        have e3 : (s.no v).lv.set v (some (.val d)) = s.lv.set v (some (.val d)) := by
          unfold S.no
          rw [List.set_set]
        unfold S.no at this e3
        dsimp only at this e3
        rw [e3] at this
        exact this
      | own b o =>
        unfold S.plain at hp
        rw [ho] at hp
        exact hp.elim
  · exact kn
theorem wipe_same {σ2 : L2.St} : ∀ {vs : List Nat}, L2.wipe σ2 vs = L2.wipe σ vs → σ2.length = σ.length ∧ ∀ i, i ∉ vs → σ2[i]? = σ[i]?
  | [], h => ⟨congrArg List.length h, fun i _ => by rw [show σ2 = σ from h]⟩
  | v :: vs, h => by
    have hl : σ2.length = σ.length := by
      have := congrArg List.length h
      rwa [wipe_length, wipe_length] at this
    refine ⟨hl, fun i hi => ?_⟩
    have get : ∀ (ρ : L2.St) (us : List Nat), i ∉ us → (L2.wipe ρ us)[i]? = ρ[i]? := fun ρ us => by
      induction us with
      | nil => intro _; rfl
      | cons u us ih =>
        intro hu
        show ((L2.wipe ρ us).set u none)[i]? = _
        rw [List.getElem?_set_ne (fun z => hu (by simp [z])), ih (fun z => hu (by simp [z]))]
    rw [← get σ2 _ hi, h, get σ _ hi]
theorem Okay.backAll {g1 : Gd} (k1 : Okay K T g1 f H σ s1) (e : Ex f f') : ∀ {vs : List Nat} {σ2 : L2.St} {s : S}, (∀ v ∈ vs, s1.plain v) → σ2.length = σ.length → (∀ i, i ∉ vs → σ2[i]? = σ[i]?) → Okay K T g f' H' σ2 s → Okay K T g f' H' σ (s.back s1 vs)
  | [], σ2, s, _, hl, h, k2 => by
    have : σ2 = σ := List.ext_getElem? fun i => h i (by simp)
    subst this
    exact k2
  | v :: vs, σ2, s, hp, hl, h, k2 => by
    refine Okay.backAll k1 e (vs := vs) (σ2 := σ2.set v (σ[v]?.join)) (fun u hu => hp u (by simp [hu])) (by rw [List.length_set]; exact hl) (fun i hi => ?_) (Okay.back1 k1 e (hp v (by simp)) (by rw [List.length_set]; exact hl) ?_ hl (fun i hi => List.getElem?_set_ne (Ne.symm hi)) k2)
    · rw [List.getElem?_set]
      split
      · rename_i z
        subst z
        split
        · rename_i q
          have : σ[v]? = some (σ[v]'(by omega)) := List.getElem?_eq_getElem (by omega)
          rw [this]
          rfl
        · rename_i q
          rw [List.getElem?_eq_none (by omega)]
      · rename_i z
        exact h i (by simp; exact ⟨fun q => z q.symm, hi⟩)
    · rw [List.getElem?_set]
      simp only [if_true]
      split
      · rename_i q
        have : σ[v]? = some (σ[v]'(by omega)) := List.getElem?_eq_getElem (by omega)
        rw [this]
        rfl
      · rename_i q
        rw [List.getElem?_eq_none (by omega)]
end
/-- a comprehension's turns: items, what has been made -/
def lcD (gt : DG) (tt : DT) (te : DE) (vs : List Nat) (k : List D → S → Prop) : List D → List D → S → Prop
  | [], acc, s => k acc s
  | d :: r, acc, s => gt d s fun s1 => tt s1 (fun b s2 => if b = true then te s2 (fun e s3 => lcD gt tt te vs k r (acc ++ [e]) (s3.wipe vs)) noXS else lcD gt tt te vs k r acc (s2.wipe vs)) noXS
def allPlain (s : S) : List Nat → Prop
  | [] => True
  | v :: vs => s.plain v ∧ allPlain s vs
theorem allPlain_mem {s : S} : ∀ {vs : List Nat}, allPlain s vs → ∀ v ∈ vs, s.plain v
  | [], _, v, h => by cases h
  | u :: vs, ⟨h1, h2⟩, v, h => by
    rcases List.mem_cons.mp h with rfl | h
    · exact h1
    · exact allPlain_mem h2 v h
def dLc (t : DR) (gt : DG) (tt : DT) (te : DE) (vs : List Nat) (s : S) (k : D → S → Prop) (x : XD) : Prop := t s (fun ds s1 => allPlain s1 vs ∧ lcD gt tt te vs (fun acc s2 => k (.lst acc) (s2.back s1 vs)) ds [] (s1.wipe vs)) x
/-- .. of something new of one's own -/
abbrev DN := S → (OD → S → Prop) → XD → Prop
def dLcN (t : DR) (gt : DG) (tt : DT) (te : DE) (vs : List Nat) (s : S) (k : OD → S → Prop) (x : XD) : Prop := t s (fun ds s1 => allPlain s1 vs ∧ lcD gt tt te vs (fun acc s2 => k (.lst acc) (s2.back s1 vs)) ds [] (s1.wipe vs)) x
/-- a reading that hands out something new, not frozen -/
def lN (K : PySem.W.Frag) (T : List (Addr × Str)) (W : WX) (t : DN) : TE := fun σ H Q => ∃ g f s XQ Kd, Okay K T g f H σ s ∧ XOk K T W g σ XQ ∧ t s Kd XQ ∧
  ∀ o s' a f' H', Kd o s' → Ex f f' → Okay K T g f' H' σ s' → OwnAt K f' H' a o → Nx T g.H a → (s'.n ≠ 0 → a ≠ s'.p) → (∀ q ∈ g.rs, q.1 ≠ a) → (∀ (j : Nat) (b : Bool) (u : OD), s'.lv[j]? = some (some (LV.own b u)) → σ[j]? ≠ some (some (V.ref a))) → Q (.ref a) H'
def dFz (t : DN) (s : S) (k : D → S → Prop) (x : XD) : Prop := t s (fun o s1 => k o.d s1) x
/-- something new, frozen -/
theorem Okay.fzNew {K : PySem.W.Frag} {T : List (Addr × Str)} {g : Gd} {f H : Hp} {σ : L2.St} {s : S} {a : Addr} {o : OD} (k : Okay K T g f H σ s) (h : OwnAt K f H a o) (h0 : Nx T g.H a) (hp : s.n ≠ 0 → a ≠ s.p) (hr : ∀ q ∈ g.rs, q.1 ≠ a)
    (hs : ∀ (j : Nat) (b : Bool) (u : OD), s.lv[j]? = some (some (LV.own b u)) → σ[j]? ≠ some (some (V.ref a))) : ∃ f', Ex f f' ∧ Okay K T g f' H σ s ∧ Rep K f' o.d (.ref a) := by
  -- the state with one slot more
  have k2 : Okay K T g f H (σ ++ [some (.ref a)]) { s with lv := s.lv ++ [some (.own true o)] } := by
    have get : ∀ (i : Nat) (l : LV), (s.lv ++ [some (LV.own true o)])[i]? = some (some l) → (i < s.lv.length ∧ s.lv[i]? = some (some l)) ∨ (i = s.lv.length ∧ l = .own true o) := fun i l e => by
      by_cases hi : i < s.lv.length
      · rw [List.getElem?_append_left hi] at e
        exact .inl ⟨hi, e⟩
      · rw [List.getElem?_append_right (by omega)] at e
        have : i - s.lv.length = 0 := by
          rcases Nat.eq_zero_or_pos (i - s.lv.length) with z | z
          · exact z
          · rw [List.getElem?_eq_none (by simp; omega)] at e
            cases e
        rw [this] at e
        cases e
        exact .inr ⟨by omega, rfl⟩
    have old : ∀ i, i < s.lv.length → (σ ++ [some (V.ref a)])[i]? = σ[i]? := fun i hi => List.getElem?_append_left (by rw [k.len]; exact hi)
    have new : (σ ++ [some (V.ref a)])[s.lv.length]? = some (some (.ref a)) := by
      rw [List.getElem?_append_right (by rw [k.len]; exact Nat.le_refl _), k.len]
      simp
    refine ⟨k.fr, k.px, k.pq, k.wo, by simp [k.len], fun i d e => ?_, fun i b u e => ?_, fun q hq => ?_, fun i j bi oi bj oj ne e1 e2 => ?_⟩
    · rcases get i _ e with ⟨hi, e⟩ | ⟨_, e⟩
      · rw [old i hi]
        exact k.val i d e
      · cases e
    · rcases get i _ e with ⟨hi, e'⟩ | ⟨rfl, e'⟩
      · rw [old i hi]
        exact k.own i b u e'
      · cases e'
        exact ⟨a, new, h, fun _ => h0, fun z => (by cases z), hp⟩
    · obtain ⟨q1, q2, q3, q4, q5, q6⟩ := k.rs q hq
      refine ⟨q1, q2, q3, q4, q5, fun i b u e => ?_⟩
      rcases get i _ e with ⟨hi, e⟩ | ⟨rfl, e⟩
      · rw [old i hi]
        exact q6 i b u e
      · rw [new]
        intro z
        exact hr q hq (V.ref.inj (Option.some.inj (Option.some.inj z))).symm
    · rcases get i _ e1 with ⟨hi, e1⟩ | ⟨rfl, e1⟩
      · rcases get j _ e2 with ⟨hj, e2⟩ | ⟨rfl, e2⟩
        · rw [old i hi, old j hj]
          exact k.one i j _ _ _ _ ne e1 e2
        · rw [old i hi, new]
          exact hs i _ _ e1
      · rcases get j _ e2 with ⟨hj, e2⟩ | ⟨rfl, e2⟩
        · rw [old j hj, new]
          exact fun z => hs j _ _ e2 z.symm
        · exact absurd rfl ne
  obtain ⟨a', f', e, k3, q1, q2⟩ := k2.freeze (i := s.lv.length) (o := o) (by simp)
  have ea : a' = a := by
    rw [List.getElem?_append_right (by rw [k.len]; exact Nat.le_refl _), k.len] at q1
    simp at q1
    exact q1.symm
  subst ea
  refine ⟨f', e, ?_, q2⟩
  have get : ∀ (i : Nat) (l : LV), s.lv[i]? = some (some l) → i < s.lv.length ∧ ((s.lv ++ [some (LV.own true o)]).set s.lv.length (some (.val o.d)))[i]? = some (some l) ∧ (σ ++ [some (V.ref a')])[i]? = σ[i]? := fun i l e => by
    have hi := (List.getElem?_eq_some_iff.mp e).1
    refine ⟨hi, ?_, List.getElem?_append_left (by rw [k.len]; exact hi)⟩
    rw [List.getElem?_set_ne (by omega), List.getElem?_append_left hi]
    exact e
  refine ⟨k3.fr, k.px, k.pq, k3.wo, k.len, fun i d h => ?_, fun i b u h => ?_, fun q hq => ?_, k.one⟩
  · obtain ⟨_, h1, h2⟩ := get i _ h
    obtain ⟨v, h3, h4⟩ := k3.val i d h1
    exact ⟨v, h2 ▸ h3, h4⟩
  · obtain ⟨_, h1, h2⟩ := get i _ h
    obtain ⟨v, h3, h4⟩ := k3.own i b u h1
    exact ⟨v, h2 ▸ h3, h4⟩
  · obtain ⟨p1, p2, p3, p4, p5, p6⟩ := k3.rs q hq
    exact ⟨p1, p2, p3, p4, p5, (k.rs q hq).2.2.2.2.2⟩
section
variable {X : Cx} {T : List (Addr × Str)} {W : WX} {e : Expr} {t : DN} {tn : DN}
theorem d_fz (h : PE X e (lN X.K T W t)) : PE X e (lE X.K T W (dFz t)) := h.up fun σ H Q ⟨g, f, s, XQ, Kd, ok, xo, h, hQ⟩ => ⟨g, f, s, XQ, _, ok, xo, h, fun o s' a f' H' hk e1 ok1 ow h0 hp hr hs => by
  obtain ⟨f2, e2, ok2, r2⟩ := ok1.fzNew ow h0 hp hr hs
  exact hQ o.d s' _ f2 H' hk (e1.trans e2) ok2 r2⟩
end
end DL

/-! DL: comprehensions, deeds on what a frame owns. -/
namespace DL
open PySem PySem.Spec PyProof.Rows L2 Z LamX

theorem wipe_idem {σ : L2.St} : ∀ {vs : List Nat}, L2.wipe (L2.wipe σ vs) vs = L2.wipe σ vs := by
  intro vs
  have get : ∀ (ρ : L2.St) (us : List Nat) (i : Nat), (L2.wipe ρ us)[i]? = if i ∈ us then (if i < ρ.length then some none else none) else ρ[i]? := fun ρ us => by
    induction us with
    | nil => intro i; simp [L2.wipe]
    | cons u us ih =>
      intro i
      show ((L2.wipe ρ us).set u none)[i]? = _
      rw [List.getElem?_set, wipe_length, ih]
      by_cases h : u = i
      · subst h
        simp
      · have : i ≠ u := Ne.symm h
        simp [h, this]
  apply List.ext_getElem?
  intro i
  rw [get, get, wipe_length]
  split <;> rfl
def dYes (s : S) (k : Bool → S → Prop) (_ : XD) : Prop := k true s
section
variable {X : Cx} {T : List (Addr × Str)} {W : WX} {a b c e tg iter elt : Expr} {ta tb tc te : DE} {tt tu : DT} {tr : DR} {es : List Expr} {pos : Pos} {st : Stmt} {sts : List Stmt} {t u : DS} {gt : DG} {vs : List Nat} {tn : DN} {ifs : List Expr}
theorem dts_nil : PTs X [] (lT X.K T W dYes) := ⟨fun pins s σ H Q I ⟨g, f, st, XQ, Kd, ok, xo, h, hQ⟩ => pts_nil.run pins s σ H Q I (hQ true st f H h (Ex.refl _) ok)⟩
theorem dts_one (h : PT X a (lT X.K T W tt)) : PTs X [a] (lT X.K T W tt) := pts_one h
theorem lcN_up {σ : L2.St} {H : Hp} {Q : VK} (h : lN X.K T W (dLcN tr gt tt te vs) σ H Q) : tLc (lI X.K T W tr) (lG X.K T vs gt) (lT X.K T W0 tt) (lE X.K T W0 te) vs σ H Q := by
  obtain ⟨g, f, s, XQ, Kd, ok, xo, h, hQ⟩ := h
  refine ⟨g, f, s, XQ, _, ok, xo, h, fun ds s1 f1 H1 J hx e1 ok1 ⟨hl, G, Y, w, hG, hY⟩ L hL => ?_⟩
  obtain ⟨hp, hx⟩ := hx
  have hpen : s1.n ≠ 0 → L ≠ s1.p := fun z y => by
    rcases ok1.wo.pen with q | ⟨_, l, cs, i, j, q, _⟩
    · exact z q
    · rw [← y, hL] at q
      cases q
  have hrs : ∀ q ∈ g.rs, q.1 ≠ L := fun q hq z => by
    have := (ok1.rs q hq).1
    rw [z, hL] at this
    cases this
  have okw := ok1.wipe vs
  have ok0 : Okay X.K T { g with rs := (L, .lst []) :: g.rs } f1 (upd H1 L (.lst [])) (L2.wipe σ vs) (s1.wipe vs) := okw.rsNew hL rfl (by
    have e : ∀ us : List Nat, (s1.wipe us).n = s1.n ∧ (s1.wipe us).p = s1.p := fun us => by
      induction us with
      | nil => exact ⟨rfl, rfl⟩
      | cons u us ih => exact ih
    rw [(e vs).1, (e vs).2]
    exact hpen)
  refine lc_it w (fun i H' => ∃ f2 s2 acc xs, Ex f1 f2 ∧ Okay X.K T { g with rs := (L, .lst xs) :: g.rs } f2 H' (L2.wipe σ vs) s2 ∧ Reps X.K f2 acc xs ∧ acc.length ≤ i ∧ lcD gt tt te vs (fun acc s2 => Kd (.lst acc) (s2.back s1 vs)) (ds.drop i) acc s2)
    ⟨f1, _, [], [], Ex.refl _, ok0, rfl, Nat.le_refl _, hx⟩ (fun i H' _ ⟨f2, s2, _, _, e2, ok2, _⟩ => hG H' (e2.trans ok2.fr.inn)) ?_ ?_
  · rintro i x H2 H3 hi ⟨f2, s2, acc, xs, e2, ok2, r2, l2, hl2⟩ hy
    obtain ⟨d, hd, hr⟩ := hY i H2 x H3 hi (e2.trans ok2.fr.inn) hy
    obtain ⟨f3, gr, r3⟩ := hr f2 e2 ok2.fr.inn
    rw [drop_cons hd] at hl2
    refine ⟨_, f3, s2, d, _, ok2.gro gr, r3, hl2, fun s4 σ4 f4 H4 hk e4 hw ok4 => ⟨by rw [hw, wipe_idem], ?_⟩⟩
    rw [wipe_idem] at hw
    have e24 : Ex f2 f4 := gr.sub.trans e4
    refine ⟨_, f4, s4, noXS, _, ok4, xok0, hk, fun k s5 f5 H5 hk5 e5 ok5 => ?_⟩
    cases k with
    | false =>
      have hk5 : lcD gt tt te vs (fun acc s2 => Kd (.lst acc) (s2.back s1 vs)) (ds.drop (i + 1)) acc (s5.wipe vs) := hk5
      refine iteF ⟨f5, s5.wipe vs, acc, xs, (e2.trans e24).trans e5, ?_, (r2.ex e24).ex e5, by omega, hk5⟩
      rw [← hw]
      exact ok5.wipe vs
    | true =>
      refine iteT ⟨_, f5, s5, noXS, _, ok5, xok0, hk5, fun d6 s6 v6 f6 H6 hk6 e6 ok6 r6 => ?_⟩
      obtain ⟨q1, q2, q3, q4, q5, q6⟩ := ok6.rs (L, .lst xs) (by simp)
      have rr := ((r2.ex e24).ex e5).ex e6
      have hk6 : lcD gt tt te vs (fun acc s2 => Kd (.lst acc) (s2.back s1 vs)) (ds.drop (i + 1)) (acc ++ [d6]) (s6.wipe vs) := hk6
      refine ⟨xs, q1, by rw [rr.len]; omega, f6, s6.wipe vs, acc ++ [d6], xs ++ [v6], ((e2.trans e24).trans e5).trans e6, ?_, rr.app (.one r6), by simp; omega, hk6⟩
      have ok7 := (ok6.wipe vs).rsSet (u' := .lst (xs ++ [v6])) hrs rfl
      rw [hw] at ok7
      exact ok7
  · rintro H2 ⟨f2, s2, acc, xs, e2, ok2, r2, l2, hl2⟩
    rw [List.drop_length] at hl2
    have hl2 : Kd (.lst acc) (s2.back s1 vs) := hl2
    have okb := Okay.backAll ok1 e2 (allPlain_mem hp) (by rw [wipe_length]) (fun i hi => (wipe_same (σ := σ) (σ2 := L2.wipe σ vs) (vs := vs) wipe_idem).2 i hi) ok2
    obtain ⟨q1, q2, q3, q4, q5, q6⟩ := okb.rs (L, .lst xs) (by simp)
    exact hQ (.lst acc) _ L f2 H2 hl2 (e1.trans e2) okb.rsDrop ⟨q2, xs, q1, r2, by omega⟩ q3 q5 hrs q6
/-- [elt for tg in iter if ..] -/
theorem d_lcN {scope : Scope} {own : List (Str × Nat)} (hc : X.calm = true) (hN : X.N.Nodup) (hi : PI X tg iter (lI X.K T W tr)) (ok : BlkOk X.N X.env.scope scope own)
    (hg : ∀ (s : Shared) (H : Hp) (C : Addr) (cl : List (Str × Addr)) (fp : List Addr), PG (X.blk s H scope (compEnvC scope cl C X.env) fp) tg (lG X.K T (own.map (·.2)) gt)) (ht : ∀ (s : Shared) (H : Hp) (C : Addr) (cl : List (Str × Addr)) (fp : List Addr), PTs (X.blk s H scope (compEnvC scope cl C X.env) fp) ifs (lT X.K T W0 tt))
    (he : ∀ (s : Shared) (H : Hp) (C : Addr) (cl : List (Str × Addr)) (fp : List Addr), PE (X.blk s H scope (compEnvC scope cl C X.env) fp) elt (lE X.K T W0 te)) (hs : ∀ x, foldedSetIterable iter X.env x = pure x := by intro _; rfl) :
    PE X (.ListComp elt [⟨tg, iter, ifs, 0⟩] scope pos) (lN X.K T W (dLcN tr gt tt te (own.map (·.2)))) :=
  (pe_lc hc hN hi ok hg ht he hs).up fun _ _ _ h => lcN_up h
/-- something new of one's own, given to a name -/
def dSetN (i : Nat) (tn : DN) (s : S) (en : En) : Prop := tn s (fun o s' => en.nx { s' with lv := s'.lv.set i (some (.own true o)) }) en.ex
theorem ds_set {i : Nat} {x : Str} {pos' : Pos} (hN : X.N.Nodup) (hi : X.N[i]? = some x) (hx : Loc X.env.scope x) (he : PE X e (lE X.K T W te)) (hs : swapsWith e (some (.Name x pos')) pos.line X.env = pure false := by rfl) (hf : X.fn x = true ∨ X.env.scope.names.lookup x = some .local := by first | exact .inl rfl | exact .inr rfl | assumption) :
    PS X (.Assign [.Name x pos'] e pos) (lS X.K T W (dSet i te)) :=
  (ps_set hN hi hx he hs hf).up fun D σ H ⟨g, f, s, en, ok, xo, h, q1, _⟩ => ⟨g, f, s, en.ex, _, ok, xo _, h, fun d s1 v f1 H1 hx e1 ok1 r1 => q1 _ _ f1 H1 hx e1 (ok1.set r1)⟩
theorem ds_setN {i : Nat} {x : Str} {pos' : Pos} (hN : X.N.Nodup) (hi : X.N[i]? = some x) (hx : Loc X.env.scope x) (he : PE X e (lN X.K T W tn)) (hs : swapsWith e (some (.Name x pos')) pos.line X.env = pure false := by rfl) (hf : X.fn x = true ∨ X.env.scope.names.lookup x = some .local := by first | exact .inl rfl | exact .inr rfl | assumption) :
    PS X (.Assign [.Name x pos'] e pos) (lS X.K T W (dSetN i tn)) :=
  (ps_set hN hi hx he hs hf).up fun D σ H ⟨g, f, s, en, ok, xo, h, q1, _⟩ => ⟨g, f, s, en.ex, _, ok, xo _, h, fun o s1 a f1 H1 hx e1 ok1 ow h0 hp hr hs => q1 _ _ f1 H1 hx e1 (ok1.setOwn ow h0 hs hp hr)⟩
theorem ds_asg (he : PE X e (lE X.K T W te)) (hg : PG X tg (lG X.K T vs gt)) (hs : swapsWithSole [tg] e pos.line X.env = pure false := by rfl) (hw : swappedStores [tg] e X.env = pure none := by rfl) (h1 : (assignEach [tg] X.env).map (·.2) = [assign tg X.env] := by rfl) : PS X (.Assign [tg] e pos) (lS X.K T W (dAsg te gt)) :=
  (ps_asg he hg hs hw h1).up fun D σ H ⟨g, f, s, en, ok, xo, h, q1, _⟩ => ⟨g, f, s, en.ex, _, ok, xo _, h, fun d s1 v f1 H1 hx e1 ok1 r1 => ⟨g, f1, s1, d, _, ok1, r1, hx, fun s2 σ2 f2 H2 h2 e2 _ ok2 => q1 s2 σ2 f2 H2 h2 (e1.trans e2) ok2⟩⟩
/-- [..] of one's own -/
def dLstN (tr : DR) (s : S) (k : OD → S → Prop) (x : XD) : Prop := tr s (fun ds s1 => ds.length ≤ sizeLine ∧ k (.lst ds) s1) x
theorem new_own {K : PySem.W.Frag} {g : Gd} {f H : Hp} {σ : L2.St} {s : S} {p : Addr} {u : HO} (ok : Okay K T g f H σ s) (hp : H p = none) : Okay K T g f (upd H p u) σ s ∧ Nx T g.H p ∧ (s.n ≠ 0 → p ≠ s.p) ∧ (∀ q ∈ g.rs, q.1 ≠ p) ∧ (∀ (j : Nat) (b : Bool) (u : OD), s.lv[j]? = some (some (LV.own b u)) → σ[j]? ≠ some (some (V.ref p))) := by
  refine ⟨ok.gro (Gro.lay ok.fr.inn hp), .fr ok.fr hp, fun z y => ?_, fun q hq z => ?_, fun j b u h z => ?_⟩
  · rcases ok.wo.pen with q | ⟨_, l, cs, i, j, q, _⟩
    · exact z q
    · rw [← y, hp] at q
      cases q
  · have := (ok.rs q hq).1
    rw [z, hp] at this
    cases this
  · obtain ⟨c, h1, h2, _⟩ := ok.own j b u h
    rw [h1] at z
    cases z
    obtain ⟨_, w, hw, _⟩ := h2.there
    rw [hp] at hw
    cases hw
theorem d_lstN (ha : PA X es (lA X.K T W tr)) : PE X (.List es pos) (lN X.K T W (dLstN tr)) :=
  (pe_lst ha).up fun σ H Q ⟨g, f, s, XQ, Kd, ok, xo, h, hQ⟩ => ⟨g, f, s, XQ, _, ok, xo, h, fun xs s1 vs f1 H1 hx e1 ok1 r1 => ⟨by rw [r1.len]; exact hx.1, fun p hp => by
    obtain ⟨n1, n2, n3, n4, n5⟩ := new_own (u := .lst vs) ok1 hp
    exact hQ (.lst xs) s1 p f1 _ hx.2 e1 n1 ⟨ok1.fr.inn.free hp, vs, upd_same, r1, hx.1⟩ n2 n3 n4 n5⟩⟩
/-! deeds on a list of one's own, that a name bears -/
theorem own_var {i : Nat} {x : Str} (hN : X.N[i]? = some x) (hv : Vis X.env.scope x) (hd : (x == ("__debug__" : Str)) = false := by decide) (hcd : (x == ("__classdict__" : Str)) = false := by decide) : PE X (.Name x pos) (tVar i) := pe_var hN hv hd hcd
def S.putO (s : S) (i : Nat) (b : Bool) (o : OD) : S := { s with lv := s.lv.set i (some (.own b o)) }
abbrev ML := List D → List D → (D → List D → Prop) → Prop
def dOwnL (i : Nat) (m : ML) (tr : DR) (s : S) (k : D → S → Prop) (x : XD) : Prop := match s.lv[i]? with
  | some (some (.own _ (.lst _))) => tr s (fun as s1 => match s1.lv[i]? with
    | some (some (.own b (.lst ds))) => m ds as fun d ds' => k d (s1.putO i b (.lst ds'))
    | _ => False) x
  | _ => False
def MtL (K : PySem.W.Frag) (r : V → List V → Hp → VK → Prop) (m : ML) : Prop := ∀ (f H : Hp) (a : Addr) (xs : List V) (ds as : List D) (vs : List V) (Kd : D → List D → Prop) (Q : VK), Ex f H → H a = some (.lst xs) → f a = none → Reps K f ds xs → ds.length ≤ sizeLine → Reps K f as vs → m ds as Kd →
  (∀ d ds' xs' v, Kd d ds' → Reps K f ds' xs' → ds'.length ≤ sizeLine → Rep K f d v → Q v (upd H a (.lst xs'))) → r (.ref a) vs H Q
def mApp : ML := fun ds as k => match as with
  | [d] => ds.length < sizeLine ∧ k .non (ds ++ [d])
  | _ => False
theorem ml_app {K : PySem.W.Frag} : MtL K rAppend mApp := by
  intro f H a xs ds as vs Kd Q e h hn r hl ra hm hQ
  unfold mApp at hm
  split at hm
  · rename_i d
    obtain ⟨v, w, rfl, rv, rw⟩ := ra
    cases rw
    exact ⟨a, xs, v, rfl, rfl, h, by rw [r.len]; exact hm.1, hQ _ _ _ _ hm.2 (r.app (.one rv)) (by rw [List.length_append]; exact hm.1) rfl⟩
  · exact hm.elim
theorem ownL_up {i : Nat} {m : ML} {r : V → List V → Hp → VK → Prop} (ml : MtL X.K r m) {σ : L2.St} {H : Hp} {Q : VK} (h : lE X.K T W (dOwnL i m tr) σ H Q) : tBM X.K "list" r (tVar i) (lA X.K T W tr) σ H Q := by
  obtain ⟨g, f, s, XQ, Kd, ok, xo, h, hQ⟩ := h
  unfold dOwnL at h
  split at h
  · rename_i b0 ds0 e0
    obtain ⟨a, h1, ⟨h2, xs0, h3, _⟩, _⟩ := ok.own i b0 _ e0
    refine ⟨.ref a, h1, Or.inl ⟨rfl, xs0, sql_of h3⟩, g, f, s, XQ, _, ok, xo, h, fun as s1 vs f1 H1 hx e1 ok1 r1 => ?_⟩
    split at hx
    · rename_i b ds e2
      obtain ⟨a', q1, ⟨q2, xs, q3, q4, q5⟩, _⟩ := ok1.own i b _ e2
      rw [h1] at q1
      cases q1
      refine ml f1 H1 a xs ds as vs _ Q ok1.fr.inn q3 q2 q4 q5 r1 hx fun d ds' xs' v hk rr ll rd => ?_
      exact hQ d _ v f1 _ hk e1 (ok1.mut e2 h1 rfl ⟨q2, xs', upd_same, rr, ll⟩) rd
    · exact hx.elim
  · exact h.elim
/-- name.m(e, ..), name a list of one's own -/
theorem d_ownL {i : Nat} {m : ML} {r : V → List V → Hp → VK → Prop} {id : String} {name : Str} {o : Expr} {apos cpos : Pos} (ml : MtL X.K r m) (slot : Slot "list" name id) (hty : typeOf (.builtin id) = pure (.type "method_descriptor")) (hm : MtR X id r) (ho : PE X o (tVar i)) (ha : PA X (e :: es) (lA X.K T W tr))
    (hbase : attributeBase o name X.env (eval o X.env) = eval o X.env := by rfl)
    (hfew : ((backTo cpos (starEach (e :: es) X.env)).all (fun x => !x.1) && (backToKw cpos (keywordEach [] X.env)).all (fun x => x.1.isSome)
      && decide ((e :: es).length + ([] : List Keyword).length + (if ([] : List Keyword).isEmpty then 0 else 1) < 30)) = true := by rfl)
    (hline : (apos.endLine == cpos.line) = true := by rfl) (hs : starEach (e :: es) X.env = (false, eval e X.env) :: starEach es X.env := by rfl) (hplain : (backTo cpos (starEach es X.env)).any (·.1) = false := by rfl) :
    PE X (.Call (.Attribute o name apos) (e :: es) [] cpos) (lE X.K T W (dOwnL i m tr)) :=
  (pe_bm PySem.F.plainAttrs_list slot hty hm ho ha hbase hfew hline hs hplain).up fun _ _ _ h => ownL_up ml h
/-- name[e] = .. -/
def gSubL (i : Nat) (ti : DE) (v : D) (s : S) (k : S → Prop) : Prop := ti s (fun d s1 => match d, s1.lv[i]? with
  | .int n, some (some (.own b (.lst ds))) => (match ixN ds.length n with
    | some j => k (s1.putO i b (.lst (ds.set j v)))
    | none => False)
  | _, _ => False) noXS
end
section
variable {X : Cx} {T : List (Addr × Str)} {W : WX}
/-! a list of one's own is looked at, the answer is no thing of the heap -/
def D.scal : D → Bool
  | .non => true
  | .bl _ => true
  | .int _ => true
  | .str _ => true
  | _ => false
theorem Rep.scal {K : PySem.W.Frag} {f f' : Hp} {d : D} {v : V} (h : Rep K f d v) (e : d.scal = true) : Rep K f' d v := by
  cases d <;> first | exact h | cases e
/-- data at hand: a slot's, or one's own thing's -/
def D.ofLV : LV → D
  | .val d => d
  | .own _ o => o.d
def lookO (s : S) (i : Nat) (k : OD → Prop) : Prop := match s.lv[i]? with
  | some (some (.own _ o)) => k o
  | _ => False
theorem look_own {g : Gd} {f H : Hp} {σ : L2.St} {s : S} {i : Nat} {k : OD → Prop} (ok : Okay X.K T g f H σ s) (h : lookO s i k) : ∃ (a : Addr) (o : OD) (f' : Hp), σ[i]? = some (some (.ref a)) ∧ k o ∧ OwnAt X.K f H a o ∧ Ex f f' ∧ Ex f' H ∧ Rep X.K f' o.d (.ref a) := by
  unfold lookO at h
  split at h
  · rename_i b o e
    obtain ⟨a, h1, h2, _⟩ := ok.own i b o e
    obtain ⟨u, e1, e2, _, r⟩ := h2.rep
    refine ⟨a, o, _, h1, h, h2, Ex.new e2, fun c w q => ?_, r⟩
    by_cases z : c = a
    · subst z
      rw [upd_same] at q
      rw [e1]
      exact q
    · rw [upd_ne z] at q
      exact ok.fr.inn _ _ q
  · exact h.elim
/-- name op e -/
def dBinL (o : D2) (i : Nat) (tb : DE) (s : S) (k : D → S → Prop) (x : XD) : Prop := tb s (fun b s1 => lookO s i (fun _ => True) ∧ lookO s1 i fun ow => o ow.d b fun z => z.scal = true ∧ k z s1) x
def dBinR (o : D2) (ta : DE) (i : Nat) (s : S) (k : D → S → Prop) (x : XD) : Prop := ta s (fun a s1 => lookO s1 i fun ow => o a ow.d fun z => z.scal = true ∧ k z s1) x
variable {a b e : Expr} {ta tb : DE} {tr : DR} {o : D2} {pos p : Pos} {i : Nat}
theorem binR_up {σ : L2.St} {H : Hp} {Q : VK} (h : lE X.K T W (dBinR o ta i) σ H Q) : tOp (rP X.K o) (lE X.K T W ta) (tVar i) σ H Q := by
  obtain ⟨g, f, s, XQ, Kd, ok, xo, h, hQ⟩ := h
  refine ⟨g, f, s, XQ, _, ok, xo, h, fun d s1 v f1 H1 hx e1 ok1 r1 => ?_⟩
  obtain ⟨c, ow, f2, h1, hk, _, e2, i2, r2⟩ := look_own ok1 hx
  refine ⟨.ref c, h1, f2, d, ow.d, _, i2, r1.ex e2, r2, hk, fun z u f3 H3 hz gr r3 => ?_⟩
  refine hQ z s1 u f1 H3 hz.2 e1 (ok1.gro ⟨Ex.refl _, fun q w hw => gr.all _ _ (ok1.fr.inn _ _ hw), gr.all, fun _ _ _ n => n, fun _ _ => no_new⟩) (r3.scal hz.1)
theorem d_cmpR {op : CmpOp} (ho : OpR X (compareOp op) (rP X.K o)) (ha : PE X a (lE X.K T W ta)) (hb : PE X b (tVar i)) (hm : behindInMarks op b = false) : PE X (.Compare a [op] [b] pos) (lE X.K T W (dBinR o ta i)) :=
  (pe_cmpR ho ha hb hm).up fun _ _ _ h => binR_up h
/-- f(name) -/
def dCBO (o : DB) (i : Nat) (s : S) (k : D → S → Prop) (_ : XD) : Prop := lookO s i fun ow => o [ow.d] fun z => z.scal = true ∧ k z s
theorem cbO_up {o : DB} {σ : L2.St} {H : Hp} {Q : VK} (h : lE X.K T W (dCBO o i) σ H Q) : tCB (rB X.K o) (tCons (tVar i) tNil) σ H Q := by
  obtain ⟨g, f, s, XQ, Kd, ok, xo, h, hQ⟩ := h
  obtain ⟨c, ow, f2, h1, hk, _, e2, i2, r2⟩ := look_own ok h
  exact ⟨.ref c, h1, f2, [ow.d], _, i2, .one r2, hk, fun z u f3 H3 hz gr r3 =>
    hQ z s u f H3 hz.2 (Ex.refl _) (ok.gro ⟨Ex.refl _, fun q w hw => gr.all _ _ (ok.fr.inn _ _ hw), gr.all, fun _ _ _ n => n, fun _ _ => no_new⟩) (r3.scal hz.1)⟩
theorem d_callBO {o : DB} {id : String} {x : Str} (hc : CallR X (.builtin id) (rB X.K o)) (hg : Gl X x) (hm : X.mg x = none) (hv : bootBuiltins x = some (.builtin id)) (hb : PE X b (tVar i)) (hn : x ≠ "__name__" := by decide) (hdb : (x == ("__debug__" : Str)) = false := by decide)
    (hst : starEach [b] X.env = (false, eval b X.env) :: starEach [] X.env := by rfl) (hpl : (backTo pos (starEach [] X.env)).any (·.1) = false := by rfl) : PE X (.Call (.Name x p) [b] [] pos) (lE X.K T W (dCBO o i)) :=
  (pe_callB hc hg hm hv (pa_cons hb pa_nil hst) hn hdb hst hpl).up fun _ _ _ h => cbO_up h
/-- name[e], a list of one's own -/
def dIxO (i : Nat) (ti : DE) (s : S) (k : D → S → Prop) (x : XD) : Prop := ti s (fun d s1 => lookO s i (fun _ => True) ∧ match d, s1.lv[i]? with
  | .int n, some (some (.own _ (.lst ds))) => (match atI ds n with
    | some e => k e s1
    | none => False)
  | _, _ => False) x
end
end DL

/-! DL: subscripts, slices, built-ins, a op= b. -/
namespace DL
open PySem PySem.Spec PyProof.Rows L2 Z LamX

section
variable {X : Cx} {T : List (Addr × Str)} {W : WX} {a b c e : Expr} {ta tb tc te : DE} {tr : DR} {es : List Expr} {pos p2 : Pos} {o : D2} {i : Nat}
/-! subscripts -/
def oIx : D2
  | .lst ds, .int n, k => (match atI ds n with
    | some d => k d
    | none => False)
  | .tup ds, .int n, k => (match atI ds n with
    | some d => k d
    | none => False)
  | .str z, .int n, k => (match atI z.cps.toList n with
    | some c => k (.str ⟨#[c]⟩)
    | none => False)
  | _, _, _ => False
theorem Reps.atI {K : PySem.W.Frag} {f : Hp} {ds : List D} {xs : List V} (h : Reps K f ds xs) {n : Int} {d : D} (e : L2.atI ds n = some d) : ∃ x, L2.atI xs n = some x ∧ Rep K f d x := by
  unfold L2.atI at e ⊢
  rw [h.len]
  cases q : ixN ds.length n with
  | none => rw [q] at e; cases e
  | some j =>
    rw [q] at e
    exact h.get j e
theorem ix_up {σ : L2.St} {H : Hp} {Q : VK} {s1 : S} {r : R2} (h : lE X.K T W (dBin o ta tb) σ H Q) (k : ∀ f H x y dx dy (Kd : D → Prop) (Q : VK), Ex f H → Rep X.K f dx x → Rep X.K f dy y → o dx dy Kd → (∀ d v, Kd d → Rep X.K f d v → Q v H) → r x y H Q) : tOp r (lE X.K T W ta) (lE X.K T W tb) σ H Q := by
  obtain ⟨g, f, s, XQ, Kd, ok, xo, h, hQ⟩ := h
  exact ⟨g, f, s, XQ, _, ok, xo, h, fun x s1 v f1 H1 hx e1 ok1 r1 => ⟨g, f1, s1, XQ, _, ok1, xo, hx, fun y s2 u f2 H2 hy e2 ok2 r2 => k f2 H2 _ _ _ _ _ _ ok2.fr.inn (r1.ex e2) r2 hy fun d w hd rd => hQ d s2 w f2 H2 hd (e1.trans e2) ok2 rd⟩⟩
theorem IxR.imp {X : Cx} {r r' : R2} (h : IxR X r) (k : ∀ x y H Q, r' x y H Q → r x y H Q) : IxR X r' := fun value slice pins s σ H x y v u Q I rx ry q => h value slice pins s σ H x y v u Q I rx ry (k _ _ _ _ q)
def rIxA (K : PySem.W.Frag) : R2 := fun x y H Q => (rIxL K x y H Q ∨ rIxT K x y H Q) ∨ rIxS x y H Q
theorem ix_all' : IxR X (rIxA X.K) := IxR.or (IxR.or ix_list ix_tup) ix_str
theorem d_ix (ha : PE X a (lE X.K T W ta)) (hb : PE X b (lE X.K T W tb)) (hs : PlainIx b) : PE X (.Subscript a b pos) (lE X.K T W (dBin oIx ta tb)) :=
  (pe_ix ix_all' ha hb hs).up fun σ H Q h => ix_up (s1 := ⟨[], 0, 0⟩) h fun f H x y dx dy Kd Q e r1 r2 ho hQ => by
    unfold oIx at ho
    split at ho
    · split at ho
      · rename_i d e'
        obtain ⟨p, xs, rfl, h1, h2, _⟩ := r1
        cases r2
        obtain ⟨v, q1, q2⟩ := h2.atI e'
        exact .inl (.inl ⟨p, xs, _, v, rfl, rfl, sql_of (e _ _ h1), q1, hQ d v ho q2⟩)
      · exact ho.elim
    · split at ho
      · rename_i d e'
        obtain ⟨p, xs, rfl, h1, h2, _⟩ := r1
        cases r2
        obtain ⟨v, q1, q2⟩ := h2.atI e'
        exact .inl (.inr ⟨p, xs, _, v, rfl, rfl, e.tq h1, q1, hQ d v ho q2⟩)
      · exact ho.elim
    · split at ho
      · rename_i c e'
        obtain ⟨rfl, hl⟩ := r1
        cases r2
        exact .inr ⟨_, _, c, rfl, rfl, hl, e', hQ _ _ ho ⟨rfl, by show 1 ≤ sizeLine; decide⟩⟩
      · exact ho.elim
    · exact ho.elim
/-- .. inside a comprehension's block -/
theorem d_ixB {K : PySem.W.Frag} (hk : X.K = K) (ha : PE X a (lE K T W ta)) (hb : PE X b (lE K T W tb)) (hs : PlainIx b) : PE X (.Subscript a b pos) (lE K T W (dBin oIx ta tb)) := by
  subst hk
  exact d_ix ha hb hs
/-! slices -/
def cutD (xs : List D) (lo hi : Option Int) : List D := (xs.drop (HT.sIx xs.length 0 lo)).take (HT.sIx xs.length xs.length hi - HT.sIx xs.length 0 lo)
def dSlc (te : DE) (tl th : DO) (s : S) (k : D → S → Prop) (x : XD) : Prop := te s (fun d s1 => tl s1 (fun lo s2 => th s2 (fun hi s3 => match d with
  | .lst ds => k (.lst (cutD ds lo hi)) s3
  | .tup ds => k (.tup (cutD ds lo hi)) s3
  | .str z => k (.str (cutS z lo hi)) s3
  | _ => False) x) x) x
def oNo (s : S) (k : Option Int → S → Prop) (_ : XD) : Prop := k none s
def oSo (te : DE) (s : S) (k : Option Int → S → Prop) (x : XD) : Prop := te s (fun d s1 => match d with
  | .int i => k (some i) s1
  | _ => False) x
theorem do_none : PO X none (lO X.K T W oNo) := ⟨fun pins s σ H Q I ⟨g, f, st, XQ, Kd, ok, xo, h, hQ⟩ => po_none.run pins s σ H Q I (hQ none st f H h (Ex.refl _) ok)⟩
theorem do_some (he : PE X e (lE X.K T W te)) : PO X (some e) (lO X.K T W (oSo te)) := ⟨fun pins s σ H Q I ⟨g, f, st, XQ, Kd, ok, xo, h, hQ⟩ => (po_some he).run pins s σ H Q I ⟨g, f, st, XQ, _, ok, xo, h, fun d s1 v f1 H1 hx e1 ok1 r1 => by
  cases d with
  | int i => cases r1; exact ⟨i, rfl, hQ _ _ f1 H1 hx e1 ok1⟩
  | _ => exact (show False from hx).elim⟩⟩
theorem Reps.cut {K : PySem.W.Frag} {f : Hp} {ds : List D} {xs : List V} (h : Reps K f ds xs) {lo hi : Option Int} : Reps K f (cutD ds lo hi) (cutV xs lo hi) := by
  unfold cutD cutV
  rw [h.len]
  exact (h.drop _).take _
theorem cutD_len {ds : List D} {lo hi : Option Int} : (cutD ds lo hi).length ≤ ds.length := by
  unfold cutD
  rw [List.length_take, List.length_drop]
  omega
def rSlAll (K : PySem.W.Frag) : V → Option Int → Option Int → Hp → VK → Prop := fun x lo hi H Q => (rSlL K x lo hi H Q ∨ rSlA K x lo hi H Q) ∨ rSlS x lo hi H Q
theorem sl_all : SlR X (rSlAll X.K) := SlR.or (SlR.or sl_list sl_tupA) sl_str
theorem d_slc {lo hi : Option Expr} {tl th : DO} (he : PE X e (lE X.K T W te)) (hl : PO X lo (lO X.K T W tl)) (hu : PO X hi (lO X.K T W th)) : PE X (.Subscript e (.Slice lo hi none p2) pos) (lE X.K T W (dSlc te tl th)) :=
  (pe_slice sl_all he hl hu).up fun σ H Q ⟨g, f, s, XQ, Kd, ok, xo, h, hQ⟩ => ⟨g, f, s, XQ, _, ok, xo, h, fun d s1 v f1 H1 hx e1 ok1 r1 => ⟨g, f1, s1, XQ, _, ok1, xo, hx, fun lo' s2 f2 H2 h2 e2 ok2 => ⟨g, f2, s2, XQ, _, ok2, xo, h2, fun hi' s3 f3 H3 h3 e3 ok3 => by
    have r3 := (r1.ex e2).ex e3
    have ef := e1.trans (e2.trans e3)
    cases d with
    | lst ds =>
      obtain ⟨a, xs, rfl, q1, q2, q3⟩ := r3
      refine .inl (.inl ⟨a, xs, rfl, sql_of (ok3.fr.inn _ _ q1), fun p hp => ?_⟩)
      have gr := Gro.new (u := .lst (cutV xs lo' hi')) ok3.fr.inn hp
      exact hQ _ s3 _ _ _ h3 (ef.trans gr.sub) (ok3.gro gr) ⟨p, _, rfl, upd_same, q2.cut.ex gr.sub, Nat.le_trans cutD_len q3⟩
    | tup ds =>
      obtain ⟨a, xs, rfl, q1, q2, q3⟩ := r3
      refine .inl (.inr ⟨a, xs, rfl, ok3.fr.inn.tq q1, fun ⟨w1, w2⟩ => ?_, fun _ p hp => ?_⟩)
      · have ec : cutD ds lo' hi' = ds := by
          unfold cutD
          rw [q2.len] at w1 w2
          rw [w1, w2, List.drop_zero, Nat.sub_zero, List.take_length]
        have h3 : Kd (.tup (cutD ds lo' hi')) s3 := h3
        rw [ec] at h3
        exact hQ _ s3 _ _ _ h3 ef ok3 ⟨a, xs, rfl, q1, q2, q3⟩
      · have gr := Gro.new (u := .tup (cutV xs lo' hi')) ok3.fr.inn hp
        exact hQ _ s3 _ _ _ h3 (ef.trans gr.sub) (ok3.gro gr) ⟨p, _, rfl, tp_of upd_same, q2.cut.ex gr.sub, Nat.le_trans cutD_len q3⟩
    | str z =>
      obtain ⟨rfl, q⟩ := r3
      exact .inr ⟨z, rfl, q, hQ _ s3 _ _ _ h3 ef ok3 ⟨rfl, Nat.le_trans (cutS_length z _ _) q⟩⟩
    | _ => exact (show False from h3).elim⟩⟩⟩
/-! a op= b on data -/
theorem ip_of {op : Operator} {g : TIp} {o : D2} (h : PIp X op g) (k : ∀ f H x y dx dy (Kd : D → Prop) (Q : VK), Ex f H → Rep X.K f dx x → Rep X.K f dy y → o dx dy Kd → (∀ d v f' H', Kd d → Gro f H f' H' → Rep X.K f' d v → Q v H') → g x y H Q) : PIp X op (rP X.K o) :=
  fun pins s σ H x y v u Q I rx ry ⟨f, dx, dy, Kd, e, r1, r2, hh, hQ⟩ => h pins s σ H x y v u Q I rx ry (k f H x y dx dy Kd Q e r1 r2 hh hQ)
theorem ip_of_op {op : Operator} (h : OpR X (inplaceOp op) (rP X.K o)) : PIp X op (rP X.K o) := fun pins s σ H x y v u Q I rx ry q => h pins s σ H x y v u Q I rx ry q
/-- ints and texts alone -/
def oIAdd : D2
  | .int a, .int b, k => k (.int (a + b))
  | .str a, .str b, k => a.length + b.length ≤ sizeLine ∧ k (.str (a ++ b))
  | _, _, _ => False
theorem p_iadd : OpR X (inplaceOp .Add) (rP X.K oIAdd) := by
  intro pins s σ H x y v u Q I rx ry ⟨f, dx, dy, Kd, e, r1, r2, h, hQ⟩
  unfold oIAdd at h
  split at h
  · cases r1; cases r2
    exact iop_add pins s σ H _ _ v u Q I rx ry ⟨_, _, rfl, rfl, hQ _ _ f H h (Gro.refl e) rfl⟩
  · obtain ⟨rfl, l1⟩ := r1; obtain ⟨rfl, l2⟩ := r2
    refine iop_add_str pins s σ H _ _ v u Q I rx ry ⟨_, _, rfl, rfl, h.1, hQ _ _ f H h.2 (Gro.refl e) ⟨rfl, ?_⟩⟩
    rw [strLen_append]
    exact h.1
  · exact h.elim
theorem p_isub : OpR X (inplaceOp .Sub) (rP X.K oSub) := by
  intro pins s σ H x y v u Q I rx ry ⟨f, dx, dy, Kd, e, r1, r2, h, hQ⟩
  unfold oSub at h
  split at h
  · cases r1; cases r2
    exact iop_sub pins s σ H _ _ v u Q I rx ry ⟨_, _, rfl, rfl, hQ _ _ f H h (Gro.refl e) rfl⟩
  · exact h.elim
theorem ds_aug {x : Str} {op : Operator} {pos' : Pos} (hN : X.N.Nodup) (hi : X.N[i]? = some x) (hx : Loc X.env.scope x) (he : PE X e (lE X.K T W te)) (ho : OpR X (inplaceOp op) (rP X.K o)) (hf : X.fn x = true ∨ X.env.scope.names.lookup x = some .local := by first | exact .inl rfl | exact .inr rfl | assumption) :
    PS X (.AugAssign (.Name x pos') op e pos) (lS X.K T W (dAug i o te)) :=
  (ps_aug hN hi hx he (ip_of_op ho) hf).up fun D σ H ⟨g, f, s, en, ok, xo, h, q1, _⟩ => by
    unfold dAug at h
    split at h
    · rename_i a e0
      obtain ⟨v, h1, r1⟩ := ok.val i a e0
      exact ⟨v, h1, g, f, s, en.ex, _, ok, xo _, h, fun d s1 u f1 H1 hx e1 ok1 r2 => ⟨f1, a, d, _, ok1.fr.inn, r1.ex e1, r2, hx, fun z w f2 H2 hz gr r3 => q1 _ _ f2 H2 hz (e1.trans gr.sub) ((ok1.gro gr).set r3)⟩⟩
    · exact h.elim
/-! built-ins -/
def bLen : DB := fun as k => match as with
  | [.lst ds] => k (.int ds.length)
  | [.tup ds] => k (.int ds.length)
  | [.str z] => k (.int z.length)
  | _ => False
theorem c_len : CallR X (.builtin "len") (rB X.K bLen) := fun pins s σ H xs us Q I r ⟨f, ds, Kd, e, r1, ho, hQ⟩ => by
  unfold bLen at ho
  split at ho
  · obtain ⟨x, _, rfl, ⟨a, ys, rfl, h1, h2, _⟩, rfl⟩ := r1
    refine call_len pins s σ H _ us Q I r ⟨_, _, rfl, .inl ⟨ys, sql_of (e _ _ h1), rfl⟩, ?_⟩
    rw [h2.len]
    exact hQ _ _ f H ho (Gro.refl e) rfl
  · obtain ⟨x, _, rfl, ⟨a, ys, rfl, h1, h2, _⟩, rfl⟩ := r1
    refine call_len pins s σ H _ us Q I r ⟨_, _, rfl, .inr ⟨ys, e.tq h1, rfl⟩, ?_⟩
    rw [h2.len]
    exact hQ _ _ f H ho (Gro.refl e) rfl
  · obtain ⟨x, _, rfl, ⟨rfl, hl⟩, rfl⟩ := r1
    exact call_len pins s σ H _ us Q I r ⟨_, _, rfl, ⟨hl, rfl⟩, hQ _ _ f H ho (Gro.refl e) rfl⟩
  · exact ho.elim
def bInt : DB := fun as k => match as with
  | [.int i] => k (.int i)
  | [.bl b] => k (.int (if b then 1 else 0))
  | [.str z] => (match PySem.intText? z with
    | some n => z.length ≤ 640 ∧ k (.int n)
    | none => False)
  | _ => False
theorem c_int : CallR X (.type "int") (rB X.K bInt) := fun pins s σ H xs us Q I r ⟨f, ds, Kd, e, r1, ho, hQ⟩ => by
  unfold bInt at ho
  split at ho
  · obtain ⟨x, _, rfl, rfl, rfl⟩ := r1
    exact call_int1 pins s σ H _ us Q I r (.inl ⟨_, rfl, hQ _ _ f H ho (Gro.refl e) rfl⟩)
  · obtain ⟨x, _, rfl, rfl, rfl⟩ := r1
    exact call_int1 pins s σ H _ us Q I r (.inr ⟨_, rfl, hQ _ _ f H ho (Gro.refl e) rfl⟩)
  · obtain ⟨x, _, rfl, ⟨rfl, hl⟩, rfl⟩ := r1
    split at ho
    · rename_i n hn
      exact call_int_str pins s σ H _ us Q I r ⟨_, n, rfl, hn, ho.1, hQ _ _ f H ho.2 (Gro.refl e) rfl⟩
    · exact ho.elim
  · exact ho.elim
def bAbs : DB := fun as k => match as with
  | [.int i] => k (.int (if i < 0 then -i else i))
  | _ => False
theorem c_abs : CallR X (.builtin "abs") (rB X.K bAbs) := fun pins s σ H xs us Q I r ⟨f, ds, Kd, e, r1, ho, hQ⟩ => by
  unfold bAbs at ho
  split at ho
  · obtain ⟨x, _, rfl, rfl, rfl⟩ := r1
    exact call_abs pins s σ H _ us Q I r ⟨_, rfl, hQ _ _ f H ho (Gro.refl e) rfl⟩
  · exact ho.elim
def bBool : DB := fun as k => match as with
  | [.int i] => k (.bl (i != 0))
  | [.bl b] => k (.bl b)
  | _ => False
theorem c_bool : CallR X (.type "bool") (rB X.K bBool) := fun pins s σ H xs us Q I r ⟨f, ds, Kd, e, r1, ho, hQ⟩ => by
  unfold bBool at ho
  split at ho
  · obtain ⟨x, _, rfl, rfl, rfl⟩ := r1
    exact call_bool1 pins s σ H _ us Q I r (.inl ⟨_, rfl, hQ _ _ f H ho (Gro.refl e) rfl⟩)
  · obtain ⟨x, _, rfl, rfl, rfl⟩ := r1
    exact call_bool1 pins s σ H _ us Q I r (.inr ⟨_, rfl, hQ _ _ f H ho (Gro.refl e) rfl⟩)
  · exact ho.elim
def bStr : DB := fun as k => match as with
  | [.int i] => i.natAbs.log2 < 1920 ∧ k (.str (toString i))
  | _ => False
theorem big1000 : (1000 : Nat) ≤ sizeLine := by decide
theorem rep1920 {m : Nat} (h : m.log2 < 1920) : (Nat.repr m).length ≤ 1920 := by
  rw [Nat.length_repr_le_iff (by decide)]
  have h1 : m < 2 ^ 1920 := by
    by_cases z : m = 0
    · subst z
      exact Nat.two_pow_pos _
    · exact (Nat.log2_lt z).mp h
  exact Nat.lt_of_lt_of_le h1 (Nat.pow_le_pow_left (by decide) _)
theorem str_of_int_len {i : Int} (h : i.natAbs.log2 < 1920) : ((toString i : String) : Str).length ≤ sizeLine := by
  have hz : sizeLine = 16777216 := by decide
  rw [ofString_len, hz]
  cases i with
  | ofNat m =>
    have := rep1920 (m := m) (by simpa using h)
    show (Nat.repr m).length ≤ _
    omega
  | negSucc m =>
    have := rep1920 (m := m + 1) (by simpa using h)
    show ("-" ++ Nat.repr (m + 1)).length ≤ _
    have h1 : "-".length = 1 := by first | rfl | decide
    simp only [String.length_append, h1]
    omega
theorem c_str : CallR X (.type "str") (rB X.K bStr) := fun pins s σ H xs us Q I r ⟨f, ds, Kd, e, r1, ho, hQ⟩ => by
  unfold bStr at ho
  split at ho
  · obtain ⟨x, _, rfl, rfl, rfl⟩ := r1
    exact call_str_int pins s σ H _ us Q I r ⟨_, rfl, ho.1, hQ _ _ f H ho.2 (Gro.refl e) ⟨rfl, str_of_int_len ho.1⟩⟩
  · exact ho.elim
def intsOf : List D → Option (List Int)
  | [] => some []
  | .int i :: r => (match intsOf r with
    | some l => some (i :: l)
    | none => none)
  | _ :: _ => none
theorem Reps.ints {K : PySem.W.Frag} {f : Hp} : ∀ {ds : List D} {xs : List V} {l : List Int}, Reps K f ds xs → intsOf ds = some l → xs = l.map V.int
  | [], _, _, h, e => by cases h; cases e; rfl
  | d :: ds, _, l, ⟨x, r, h1, h2, h3⟩, e => by
    subst h1
    cases d with
    | int i =>
      cases h2
      unfold intsOf at e
      split at e
      · rename_i l' e'
        cases e
        rw [Reps.ints h3 e']
        rfl
      · cases e
    | _ => cases e
def blsOf : List D → Option (List Bool)
  | [] => some []
  | .bl i :: r => (match blsOf r with
    | some l => some (i :: l)
    | none => none)
  | _ :: _ => none
theorem Reps.bls {K : PySem.W.Frag} {f : Hp} : ∀ {ds : List D} {xs : List V} {l : List Bool}, Reps K f ds xs → blsOf ds = some l → xs = l.map V.bl
  | [], _, _, h, e => by cases h; cases e; rfl
  | d :: ds, _, l, ⟨x, r, h1, h2, h3⟩, e => by
    subst h1
    cases d with
    | bl i =>
      cases h2
      unfold blsOf at e
      split at e
      · rename_i l' e'
        cases e
        rw [Reps.bls h3 e']
        rfl
      · cases e
    | _ => cases e
def bSum : DB := fun as k => match as with
  | [.lst ds] => (match intsOf ds with
    | some l => k (.int l.sum)
    | none => False)
  | _ => False
theorem c_sum (hc : X.calm = true) : CallR X (.builtin "sum") (rB X.K bSum) := fun pins s σ H xs us Q I r ⟨f, ds, Kd, e, r1, ho, hQ⟩ => by
  unfold bSum at ho
  split at ho
  · split at ho
    · rename_i l hl
      obtain ⟨x, _, rfl, ⟨a, ys, rfl, h1, h2, _⟩, rfl⟩ := r1
      have := h2.ints hl
      subst this
      exact cr_sum hc pins s σ H _ us Q I r ⟨a, l, rfl, sql_of (e _ _ h1), hQ _ _ f H ho (Gro.refl e) rfl⟩
    · exact ho.elim
  · exact ho.elim
def bAll : DB := fun as k => match as with
  | [.lst ds] => (match blsOf ds with
    | some l => k (.bl (l.all id))
    | none => False)
  | _ => False
theorem c_all (hc : X.calm = true) : CallR X (.builtin "all") (rB X.K bAll) := fun pins s σ H xs us Q I r ⟨f, ds, Kd, e, r1, ho, hQ⟩ => by
  unfold bAll at ho
  split at ho
  · split at ho
    · rename_i l hl
      obtain ⟨x, _, rfl, ⟨a, ys, rfl, h1, h2, _⟩, rfl⟩ := r1
      have := h2.bls hl
      subst this
      exact cr_all hc pins s σ H _ us Q I r ⟨a, l, rfl, sql_of (e _ _ h1), hQ _ _ f H ho (Gro.refl e) rfl⟩
    · exact ho.elim
  · exact ho.elim
def bAny : DB := fun as k => match as with
  | [.lst ds] => (match blsOf ds with
    | some l => k (.bl (l.any id))
    | none => False)
  | _ => False
theorem c_any (hc : X.calm = true) : CallR X (.builtin "any") (rB X.K bAny) := fun pins s σ H xs us Q I r ⟨f, ds, Kd, e, r1, ho, hQ⟩ => by
  unfold bAny at ho
  split at ho
  · split at ho
    · rename_i l hl
      obtain ⟨x, _, rfl, ⟨a, ys, rfl, h1, h2, _⟩, rfl⟩ := r1
      have := h2.bls hl
      subst this
      exact cr_any hc pins s σ H _ us Q I r ⟨a, l, rfl, sql_of (e _ _ h1), hQ _ _ f H ho (Gro.refl e) rfl⟩
    · exact ho.elim
  · exact ho.elim
def bTup : DB := fun as k => match as with
  | [.lst ds] => k (.tup ds)
  | [.tup ds] => k (.tup ds)
  | _ => False
theorem c_tup : CallR X (.type "tuple") (rB X.K bTup) := fun pins s σ H xs us Q I r ⟨f, ds, Kd, e, r1, ho, hQ⟩ => by
  unfold bTup at ho
  split at ho
  · obtain ⟨x, _, rfl, ⟨a, ys, rfl, h1, h2, hl⟩, rfl⟩ := r1
    refine call_tuple_of pins s σ H _ us Q I r ⟨a, ys, rfl, .inl ⟨sql_of (e _ _ h1), fun p hp => ?_⟩⟩
    have gr := Gro.new (u := .tup ys) e hp
    exact hQ _ _ _ _ ho gr ⟨p, ys, rfl, tp_of upd_same, h2.ex gr.sub, hl⟩
  · obtain ⟨x, _, rfl, ⟨a, ys, rfl, h1, h2, hl⟩, rfl⟩ := r1
    exact call_tuple_of pins s σ H _ us Q I r ⟨a, ys, rfl, .inr ⟨e.tq h1, hQ _ _ f H ho (Gro.refl e) ⟨a, ys, rfl, h1, h2, hl⟩⟩⟩
  · exact ho.elim
def bList : DB := fun as k => match as with
  | [.lst ds] => k (.lst ds)
  | [.tup ds] => k (.lst ds)
  | _ => False
theorem c_list : CallR X (.type "list") (rB X.K bList) := fun pins s σ H xs us Q I r ⟨f, ds, Kd, e, r1, ho, hQ⟩ => by
  unfold bList at ho
  split at ho
  · obtain ⟨x, _, rfl, ⟨a, ys, rfl, h1, h2, hl⟩, rfl⟩ := r1
    refine call_list_of pins s σ H _ us Q I r ⟨a, ys, rfl, .inl (sql_of (e _ _ h1)), fun p hp => ?_⟩
    have gr := Gro.new (u := .lst ys) e hp
    exact hQ _ _ _ _ ho gr ⟨p, ys, rfl, upd_same, h2.ex gr.sub, hl⟩
  · obtain ⟨x, _, rfl, ⟨a, ys, rfl, h1, h2, hl⟩, rfl⟩ := r1
    refine call_list_of pins s σ H _ us Q I r ⟨a, ys, rfl, .inr (e.tq h1), fun p hp => ?_⟩
    have gr := Gro.new (u := .lst ys) e hp
    exact hQ _ _ _ _ ho gr ⟨p, ys, rfl, upd_same, h2.ex gr.sub, hl⟩
  · exact ho.elim
/-! isinstance: the own classes are those of cs -/
def baseTys : List String := ["NoneType", "bool", "int", "str", "list", "tuple", "dict"]
def tyS : D → Option String
  | .non => some "NoneType"
  | .bl _ => some "bool"
  | .int _ => some "int"
  | .str _ => some "str"
  | .lst _ => some "list"
  | .tup _ => some "tuple"
  | .dic _ => some "dict"
  | _ => none
def isTy (a b : String) : Bool := decide (a = b) || (decide (a = "bool") && decide (b = "int"))
/-- what is known of the own classes -/
structure CsOk (K : PySem.W.Frag) (cs : List Addr) : Prop where
  ins : ∀ C ∈ cs, Cls K C ∧ PySem.W.findIn K (.ref C) "__class__" = some (some (.builtin "object.__class__")) ∧ PySem.W.mroIn K C (.type "object") = some true
  hn : PySem.W.specialIn K (.builtin "object.__class__") "__get__" = some (some (.builtin "getset_descriptor.__get__"))
  ht : PySem.W.takesIn K (.builtin "object.__class__") = some true
  bc : ∀ C ∈ cs, ∀ t ∈ baseTys, PySem.W.kitOne K (.type t) (.ref C) = some false
  cb : ∀ C ∈ cs, ∀ t ∈ baseTys, PySem.W.kitOne K (.ref C) (.type t) = some false
  cc : ∀ C ∈ cs, ∀ C' ∈ cs, PySem.W.kitOne K (.ref C) (.ref C') = some (decide (C = C'))
/-- is d of the class c -/
def isCls (cs : List Addr) (d c : D) : Option Bool := match c with
  | .ty n => if n ∈ baseTys then (match d with
    | .obj C _ => if C ∈ cs then some false else none
    | d => (tyS d).map fun t => isTy t n) else none
  | .ref C => if C ∈ cs then (match d with
    | .obj C' _ => if C' ∈ cs then some (decide (C' = C)) else none
    | d => (tyS d).map fun _ => false) else none
  | _ => none
end
end DL

/-! DL: isinstance, instances that are made, operators of own classes. -/
namespace DL
open PySem PySem.Spec PyProof.Rows L2 Z LamX

theorem kit_base : ∀ a ∈ baseTys, ∀ b ∈ baseTys, kitB a b = some (isTy a b) := by decide +kernel
theorem tyS_base {d : D} {t : String} (h : tyS d = some t) : t ∈ baseTys := by
  cases d <;> cases h <;> decide
section
variable {K : PySem.W.Frag} {f H : Hp} {cs : List Addr}
theorem tyx_of {d : D} {v : V} {t : String} (e : Ex f H) (r : Rep K f d v) (h : tyS d = some t) : TyX K H v (.type t) := by
  cases d with
  | non => cases r; cases h; exact .base .non
  | bl b => cases r; cases h; exact .base (.bl b)
  | int b => cases r; cases h; exact .base (.int b)
  | str b => obtain ⟨rfl, _⟩ := r; cases h; exact .base (.str b)
  | lst ds => obtain ⟨a, xs, rfl, h1, _⟩ := r; cases h; exact .base (.lst (e _ _ h1))
  | dic ds => obtain ⟨a, xs, rfl, h1, _⟩ := r; cases h; exact .base (.dK (e _ _ h1))
  | tup ds =>
    obtain ⟨a, xs, rfl, h1, _⟩ := r
    cases h
    rcases e.tq h1 with (h1 | ⟨o, h1⟩) | ⟨o, its, n, h1, h2, _⟩
    · exact .base (.tup h1)
    · exact .fTuple h1
    · exact .kTuple h1 h2
  | _ => cases h
theorem tyx_obj {C : Addr} {gs : List (Str × D)} {v : V} (T : CsOk K cs) (hC : C ∈ cs) (e : Ex f H) (r : Rep K f (.obj C gs) v) : TyX K H v (.ref C) := by
  obtain ⟨a, dx, fs, rfl, h1, _⟩ := r
  obtain ⟨c1, c2, c3⟩ := T.ins C hC
  exact .base (.ins (e _ _ h1) c1 c2 T.hn T.ht c3)
def tyD : D → Option Value
  | .obj C _ => some (.ref C)
  | d => (tyS d).map Value.type
theorem tyD_s {d : D} {t : String} (h : tyS d = some t) : tyD d = some (.type t) := by
  cases d <;> cases h <;> rfl
theorem isCls_ok {d c : D} {v w : V} {b : Bool} (T : CsOk K cs) (e : Ex f H) (r : Rep K f d v) (rc : Rep K f c w) (h : isCls cs d c = some b) : ∃ t u, tyD d = some t ∧ ClsV w u ∧ TyX K H v t ∧ PySem.W.kitOne K t u = some b := by
  unfold isCls at h
  split at h
  · rename_i n
    cases rc
    split at h
    · rename_i hn
      split at h
      · rename_i C gs
        split at h
        · rename_i hC
          cases h
          exact ⟨.ref C, .type n, rfl, .ty n, tyx_obj T hC e r, T.cb C hC n hn⟩
        · cases h
      · obtain ⟨t, h1, h2⟩ := Option.map_eq_some_iff.mp h
        subst h2
        exact ⟨.type t, .type n, tyD_s h1, .ty n, tyx_of e r h1, kit_ty (kit_base t (tyS_base h1) n hn)⟩
    · cases h
  · rename_i C
    cases rc
    split at h
    · rename_i hC
      split at h
      · rename_i C' gs
        split at h
        · rename_i hC'
          cases h
          exact ⟨.ref C', .ref C, rfl, .own C, tyx_obj T hC' e r, T.cc C' hC' C hC⟩
        · cases h
      · obtain ⟨t, h1, h2⟩ := Option.map_eq_some_iff.mp h
        subst h2
        exact ⟨.type t, .ref C, tyD_s h1, .own C, tyx_of e r h1, T.bc C hC t (tyS_base h1)⟩
    · cases h
  · cases h
end
def isClss (cs : List Addr) (d : D) : List D → Option Bool
  | [] => some false
  | c :: r => match isCls cs d c, isClss cs d r with
    | some b, some b' => some (b || b')
    | _, _ => none
def bIsi (cs : List Addr) : DB := fun as k => match as with
  | [d, .tup (u :: us)] => (match isClss cs d (u :: us) with
    | some b => k (.bl b)
    | none => False)
  | [d, c] => (match isCls cs d c with
    | some b => k (.bl b)
    | none => False)
  | _ => False
section
variable {X : Cx} {T : List (Addr × Str)} {W : WX} {cs : List Addr}
theorem kitAny_eq {K : PySem.W.Frag} {t c : Value} {cs : List Value} {b r : Bool} (h : PySem.W.kitOne K t c = some b) (hr : PySem.W.kitAny K t cs = some r) : PySem.W.kitAny K t (c :: cs) = some (b || r) := by
  refine kitAny_cons h (fun e => ?_) fun e => ?_
  · subst e
    exact hr
  · subst e
    rfl
theorem isClss_ok {f H : Hp} {d : D} {v : V} {t : Value} (C : CsOk X.K cs) (e : Ex f H) (r : Rep X.K f d v) (td : tyD d = some t) : ∀ {us : List D} {ws : List V} {b : Bool}, Reps X.K f us ws → isClss cs d us = some b → ∃ vs, Paired ClsV ws vs ∧ PySem.W.kitAny X.K t vs = some b
  | [], _, b, h, h' => by cases h; cases h'; exact ⟨[], .nil, rfl⟩
  | c :: us, _, b, ⟨w, rr, h1, h2, h3⟩, h' => by
    subst h1
    unfold isClss at h'
    split at h'
    · rename_i b1 b2 e1 e2
      cases h'
      obtain ⟨t', u, c0, c1, c2, c3⟩ := isCls_ok C e r h2 e1
      rw [td] at c0
      cases c0
      obtain ⟨vs, p1, p2⟩ := isClss_ok C e r td h3 e2
      exact ⟨u :: vs, .cons c1 p1, kitAny_eq c3 p2⟩
    · cases h'
theorem c_isi (C : CsOk X.K cs) : CallR X (.builtin "isinstance") (rB X.K (bIsi cs)) := fun pins s σ H xs us' Q I r ⟨f, ds, Kd, e, r1, ho, hQ⟩ => by
  unfold bIsi at ho
  split at ho
  · split at ho
    · rename_i u us b hb
      obtain ⟨x, _, rfl, q1, y, _, rfl, ⟨a, ws, rfl, h1, h2, _⟩, rfl⟩ := r1
      have hb' := hb
      unfold isClss at hb'
      split at hb'
      · rename_i b1 b2 e1 e2
        have h2' := h2
        obtain ⟨w, rr, hw, h3, h4⟩ := h2
        obtain ⟨t, u', td, c1, c2, c3⟩ := isCls_ok C e q1 h3 e1
        obtain ⟨vs, p1, p2⟩ := isClss_ok C e q1 td h2' hb
        rcases h1 with h1 | ⟨⟨oc, od, odt, osl⟩, its, n, k1, k2, k3, _, rv⟩
        · exact call_isiT pins s σ H _ us' Q I r ⟨x, a, ws, t, vs, b, rfl, e _ _ h1, p1, c2, p2, hQ _ _ f H ho (Gro.refl e) rfl⟩
        · dsimp only at k2 k3
          subst k2 k3
          have ev : its.toList = vs := ClsV.all p1 rv
          subst ev
          exact call_isiK pins s σ H _ us' Q I r ⟨x, a, od, its.toList, n, osl, t, b, rfl, by simpa using k1, c2, p2, hQ _ _ f H ho (Gro.refl e) rfl⟩
      · cases hb'
    · exact ho.elim
  · split at ho
    · rename_i b hb
      obtain ⟨x, _, rfl, q1, y, _, rfl, q2, rfl⟩ := r1
      obtain ⟨t, u, _, c1, c2, c3⟩ := isCls_ok C e q1 q2 hb
      exact call_isi pins s σ H _ us' Q I r ⟨x, y, t, u, b, rfl, c1, c2, c3, hQ _ _ f H ho (Gro.refl e) rfl⟩
    · exact ho.elim
  · exact ho.elim
/-! instances that are made -/
abbrev FI := List D → Addr → Nat → (List (Str × D) → Nat → Prop) → (Value → List (Str × D) → Nat → Prop) → Prop
abbrev pexI (p : Addr) (n : Nat) (x : Addr) : Addr → Prop := fun a => pex p n a ∨ a = x
/-- the promise of an __init__: the fields that it leaves -/
def spI (K : PySem.W.Frag) (T : List (Addr × Str)) (C : Addr) (φ : FI) : Sp := fun vs H Q E => ∃ f p n ds Kd Xd x dx ws, vs = .ref x :: ws ∧ Ex f H ∧ Wo T f H p n ∧ Reps K f ds ws ∧ H x = some (.ins C dx []) ∧ f x = none ∧ (n ≠ 0 → x ≠ p) ∧ φ ds p n Kd Xd ∧
  (∀ gs n' f' H' dx' xs, Kd gs n' → n' ≤ n → Fr T (pexI p n x) f H f' H' → Wo T f' H' p n' → f' x = none → H' x = some (.ins C dx' xs) → RepF K f' gs xs → Q .non H') ∧
  (∀ cls fs n' f' H' xs dd, Xd cls fs n' → n' ≤ n → Fr T (pexI p n x) f H f' H' → Wo T f' H' p n' → f' dd = some (.xd xs) → RepF K f' fs xs → E cls (some dd) H')
def dMake (C : Addr) (φ : FI) (tr : DR) (s : S) (k : D → S → Prop) (x : XD) : Prop := tr s (fun ds s1 => φ ds s1.p s1.n (fun gs n' => k (.obj C gs) { s1 with n := n' }) (fun c fs n' => x c fs { s1 with n := n' })) x
def SI (N : List Str) (C : Addr) (ds : List D) (p : Addr) (n : Nat) : S := ⟨some (.own false (.obj C [])) :: (ds.map (fun d => some (.val d)) ++ List.replicate (N.length - (ds.length + 1)) none), p, n⟩
def endI (C : Addr) (kd : List (Str × D) → Nat → Prop) (s : S) : Prop := match s.lv[0]? with
  | some (some (LV.own false (OD.obj C' gs))) => C' = C ∧ kd gs s.n
  | _ => False
def EI (C : Addr) (kd : List (Str × D) → Nat → Prop) (xd : Value → List (Str × D) → Nat → Prop) : En := ⟨endI C kd, fun d s => d.isN = true ∧ endI C kd s, fun _ => False, fun _ => False, fun c fs s => xd c fs s.n⟩
end
section
variable {P : Program} {w : World} {K : PySem.W.Frag} {mg : Str → Option Value} {base : Heap} {T : List (Addr × Str)}
theorem okayI {f H : Hp} {p x dx C : Addr} {n : Nat} {N : List Str} {ds : List D} {vs : List V} (e : Ex f H) (wo : Wo T f H p n) (r : Reps K f ds vs) (hx : H x = some (.ins C dx [])) (hf : f x = none) (hp : n ≠ 0 → x ≠ p) :
    Okay K T ⟨f, H, pexI p n x, fun a => a = x, fun _ h => .inr h, [], fun p' n' => p' = p ∧ n' ≤ n, fun _ _ _ h1 h2 => ⟨h2.1, Nat.le_trans h1 h2.2⟩⟩ f H (L2.start N (.ref x :: vs)) (SI N C ds p n) := by
  have hl := r.len
  have get : ∀ (i : Nat) (l : LV), (SI N C ds p n).lv[i]? = some (some l) → (i = 0 ∧ l = .own false (.obj C [])) ∨ ∃ j d v, i = j + 1 ∧ l = .val d ∧ ds[j]? = some d ∧ vs[j]? = some v ∧ Rep K f d v := fun i l h => by
    unfold SI at h
    dsimp only at h
    cases i with
    | zero => cases h; exact .inl ⟨rfl, rfl⟩
    | succ j =>
      rw [List.getElem?_cons_succ] at h
      by_cases hi : j < ds.length
      · rw [List.getElem?_append_left (by simpa using hi), List.getElem?_map] at h
        obtain ⟨d', h1, h2⟩ := Option.map_eq_some_iff.mp h
        cases h2
        obtain ⟨v, h3, h4⟩ := r.get j h1
        exact .inr ⟨j, d', v, rfl, rfl, h1, h3, h4⟩
      · rw [List.getElem?_append_right (by simpa using hi), List.getElem?_replicate] at h
        split at h <;> cases h
  have st : ∀ (j : Nat) (v : V), vs[j]? = some v → (L2.start N (.ref x :: vs))[j + 1]? = some (some v) := fun j v h => by
    have hj := (List.getElem?_eq_some_iff.mp h).1
    unfold L2.start
    rw [List.map_cons, List.cons_append, List.getElem?_cons_succ, List.getElem?_append_left (by simpa using hj), List.getElem?_map, h]
    rfl
  refine ⟨Fr.refl e, fun h => .inl ⟨h, rfl⟩, ⟨rfl, Nat.le_refl _⟩, wo, ?_, fun i d h => ?_, fun i b o h => ?_, fun q hq => (by cases hq), fun i j bi oi bj oj ne h h' => ?_⟩
  · simp only [L2.start, SI, List.length_append, List.length_map, List.length_replicate, List.length_cons]
    omega
  · rcases get i _ h with ⟨_, z⟩ | ⟨j, d', v, rfl, z, _, h3, h4⟩
    · cases z
    · cases z
      exact ⟨v, st j v h3, h4⟩
  · rcases get i _ h with ⟨rfl, z⟩ | ⟨j, d', v, _, z, _⟩
    · cases z
      exact ⟨x, rfl, ⟨hf, dx, [], hx, rfl⟩, fun z => (by cases z), fun _ => rfl, hp⟩
    · cases z
  · rcases get i _ h with ⟨rfl, z⟩ | ⟨j, d', v, _, z, _⟩
    · rcases get j _ h' with ⟨rfl, z⟩ | ⟨j, d', v, _, z, _⟩
      · exact absurd rfl ne
      · cases z
    · cases z
theorem runI {t : DS} {φ : FI} {N : List Str} {C : Addr} {vs : List V} {H : Hp} {Q : VK} {E : XK} (ht : ∀ ds p n kd xd, φ ds p n kd xd → t (SI N C ds p n) (EI C kd xd)) (h : spI K T C φ vs H Q E) :
    lS K T (wxE E) t { nx := fun _ H' => Q .non H', rt := Q } (L2.start N vs) H := by
  obtain ⟨f, p, n, ds, Kd, Xd, x, dx, ws, rfl, e, wo, r, hx, hf, hp, hφ, hK, hX⟩ := h
  have fin : ∀ {σ' : L2.St} {f' H' : Hp} {s' : S}, Okay K T ⟨f, H, pexI p n x, fun a => a = x, fun _ h => .inr h, [], fun p' n' => p' = p ∧ n' ≤ n, fun _ _ _ h1 h2 => ⟨h2.1, Nat.le_trans h1 h2.2⟩⟩ f' H' σ' s' → endI C Kd s' → Q .non H' := fun {σ' f' H' s'} ok h => by
    obtain ⟨hp', hn⟩ := ok.pq
    have wo' := ok.wo
    rw [hp'] at wo'
    unfold endI at h
    split at h
    · rename_i C' gs e0
      obtain ⟨a, h1, ⟨h2, dx', xs, h3, h4⟩, _, h6, _⟩ := ok.own 0 false _ e0
      have ea : a = x := h6 rfl
      subst ea
      obtain ⟨C2, dx2, xs2, q⟩ : ∃ C2 dx2 xs2, H' a = some (.ins C2 dx2 xs2) := ⟨_, _, _, h3⟩
      obtain ⟨rfl, h⟩ := h
      exact hK gs s'.n f' H' dx' xs h hn ok.fr wo' h2 h3 h4
    · exact h.elim
  refine ⟨_, f, _, EI C Kd Xd, okayI e wo r hx hf hp, ?_, ht ds p n Kd Xd hφ, ?_, ?_, ?_, ?_⟩
  · intro σ cls fs s f' H' xs dd ok hd hr hx
    obtain ⟨hp, hn⟩ := ok.pq
    have wo' := ok.wo
    rw [hp] at wo'
    exact hX cls fs s.n f' H' xs dd hx hn ok.fr wo' hd hr
  · intro s' σ' f' H' h _ ok
    exact fin ok h
  · intro s' σ' f' H' h _ _
    exact h.elim
  · intro s' σ' f' H' h _ _
    exact h.elim
  · intro d s' σ' v f' H' h _ ok r'
    have hv : v = .non := by
      obtain ⟨h1, _⟩ := h
      cases d with
      | non => exact r'
      | _ => cases h1
    subst hv
    exact fin ok h.2
theorem spI_len {C : Addr} {φ : FI} {ps : List Str} (hl : ∀ ds p n kd xd, φ ds p n kd xd → ds.length + 1 = ps.length) : ∀ vs H Q E, spI K T C φ vs H Q E → vs.length = ps.length := fun vs H Q E h => by
  obtain ⟨f, p, n, ds, Kd, Xd, x, dx, ws, rfl, e, wo, r, hx, hf, hp, hφ, _⟩ := h
  rw [List.length_cons, r.len]
  exact hl _ _ _ _ _ hφ
/-- an __init__ by its body -/
theorem okI {x ql : Str} {pr : Arguments} {bd : List Stmt} {sc : Scope} {dvs : List V} {kws : List (Str × V)} {f C : Addr} {fd : FuncData} {N ps : List Str} {k : Nat} {φ : FI} (F : FunD K x ql pr bd sc dvs kws f fd) (S : FnScope N ps sc)
    (hl : ∀ ds p n kd xd, φ ds p n kd xd → ds.length + 1 = ps.length)
    (hb : ∃ t : DS, (∀ (cdv : Value) (A : Around) (outer : List Env) (s : Shared) (H : Hp) (E : XK), Room k (A.deeper (envOfC ql sc s.heap.objs.size f cdv)) → PSs (cxOf (L2.CX P w) P w K mg base N ql sc f cdv A outer s H E) bd (lS K T (wxE E) t)) ∧
      ∀ ds p n kd xd, φ ds p n kd xd → t (SI N C ds p n) (EI C kd xd)) : FnOk P w K mg base (L2.CX P w) (k + 1) f fd ps (spI K T C φ) := by
  obtain ⟨t, h1, h2⟩ := hb
  exact F.ok S (spI_len hl) (fun cdv A outer s H vs Q E hr h => ⟨_, h1 cdv A outer s H E hr, runI h2 h⟩)
end
section
variable {X : Cx} {T : List (Addr × Str)} {W : WX} {k : Nat} {f C : Addr} {fd : FuncData} {ps : List Str} {x : Str} {p pos : Pos} {e : Expr} {es : List Expr} {tr : DR} {φ : FI}
/-- C(a, ..) -/
theorem d_make {ee : XK} (hW : W = wxE ee) (M : Mk X.K C f) (F : FnOk X.prog X.w X.K X.mg X.base (L2.CX X.prog X.w) k f fd ps (spI X.K T C φ)) (hr : Room (k + 1) X.A) (tk : Takes X W) (hg : Gl X x) (hm : X.mg x = some (.ref C)) (hb : Binds X.K fd ps [])
    (ha : PA X (e :: es) (lA X.K T W tr)) (hdb : (x == ("__debug__" : Str)) = false := by decide) (he : starEach (e :: es) X.env = (false, eval e X.env) :: starEach es X.env := by rfl) (hpl : (backTo pos (starEach es X.env)).any (·.1) = false := by rfl) :
    PE X (.Call (.Name x p) (e :: es) [] pos) (lE X.K T W (dMake C φ tr)) := by
  subst hW
  refine (pe_make (dvs := []) (ds := []) (E := ee) M F hr hg hm hb .nil (passes_call tk fun _ _ _ _ h => h) ha hdb he hpl).up fun σ H Q ⟨g, f, s, XQ, Kd, ok, xo, h, hQ⟩ => ⟨g, f, s, XQ, _, ok, xo, h, fun ds s1 vs f1 H1 hx e1 ok1 r1 => ?_⟩
  intro a dx ha' hd ne
  rw [List.append_nil]
  have g1 : Gro f1 H1 f1 (upd H1 dx (.own a)) := Gro.lay ok1.fr.inn hd
  have ha2 : upd H1 dx (.own a) a = none := by rw [upd_ne (Ne.symm ne)]; exact ha'
  have g2 : Gro f1 (upd H1 dx (.own a)) f1 (upd (upd H1 dx (.own a)) a (.ins C dx [])) := Gro.lay g1.inn ha2
  have gr := g1.trans g2
  obtain ⟨_, n2, n3, n4, n5⟩ := new_own (u := .ins C dx []) (ok1.gro g1) ha2
  have back : ∀ {f' H' : Hp}, Fr T (pexI s1.p s1.n a) f1 (upd (upd H1 dx (.own a)) a (.ins C dx [])) f' H' → Fr T (pex s1.p s1.n) f1 H1 f' H' := fun {f' H'} fr =>
    ⟨fr.sub, fr.inn, fun c o h n x t => fr.old c o (gr.all _ _ h) n (fun z => z.elim x fun z => by rw [z, ha'] at h; cases h) t, fun c o h t n => fr.out c o (gr.all _ _ h) t n, fun c o h t => fr.there c o (gr.all _ _ h) t⟩
  refine ⟨f1, s1.p, s1.n, ds, _, _, a, dx, vs, rfl, gr.inn, ok1.wo.gro gr, r1, upd_same, ok1.fr.inn.free ha', n3, hx, fun gs n' f' H' dx' xs hk le fr wo' hn hh rr => ⟨rfl, ?_⟩, fun cls fs n' f' H' xs dd hx le fr wo' hd rr => ?_⟩
  · have ok2 := ok1.call (back fr) wo' le
    obtain ⟨f2, e2, ok3, r3⟩ := ok2.fzNew (a := a) (o := .obj C gs) ⟨hn, dx', xs, hh, rr⟩ n2 (fun z => n3 fun y => z (by show n' = 0; omega)) n4 n5
    exact hQ (.obj C gs) _ _ f2 H' hk (e1.trans (fr.sub.trans e2)) ok3 r3
  · exact xo cls fs _ f' H' xs dd (ok1.call (back fr) wo' le) hd rr hx
/-- self.f = e, self one's own -/
def dFldS (C : Addr) (i : Nat) (fl : Str) (te : DE) (s : S) (en : En) : Prop := te s (fun d s1 => match s1.lv[i]? with
  | some (some (.own b (.obj C' fs))) => C' = C ∧ fs.length < 1000 ∧ en.nx (s1.putO i b (.obj C (putD fl d fs)))
  | _ => False) en.ex
theorem ds_fld {i : Nat} {fl : Str} {o value : Expr} {te : DE} {pos' : Pos} {C : Addr} (c : Cls X.K C) (no : NoAttr X.K C fl) (ho : PE X o (tVar i)) (hv : PE X value (lE X.K T W te))
    (hs : swapsWith value (some (.Attribute o fl pos')) pos.line X.env = pure false := by rfl) : PS X (.Assign [.Attribute o fl pos'] value pos) (lS X.K T W (dFldS C i fl te)) :=
  (ps_fld ho hv hs).up fun D σ H ⟨g, f, s, en, ok, xo, h, q1, _⟩ => ⟨g, f, s, en.ex, _, ok, xo _, h, fun d s1 v f1 H1 hx e1 ok1 r1 => by
    split at hx
    · rename_i b C' fs e0
      obtain ⟨rfl, hl, hx⟩ := hx
      obtain ⟨a, h1, ⟨h2, dx, xs, h3, h4⟩, _⟩ := ok1.own i b _ e0
      exact ⟨.ref a, h1, a, C', dx, xs, rfl, h3, c, no, by rw [h4.len]; exact hl, q1 _ _ f1 _ hx e1 (ok1.mut e0 h1 rfl ⟨h2, dx, _, upd_same, h4.put r1⟩)⟩
    · exact hx.elim⟩
/-- self.f of one's own self -/
def dFldG (C : Addr) (i : Nat) (fl : Str) (s : S) (k : D → S → Prop) (_ : XD) : Prop := match s.lv[i]? with
  | some (some (.own _ (.obj C' fs))) => C' = C ∧ (match fs.lookup fl with
    | some d => k d s
    | none => False)
  | _ => False
theorem d_fldG {i : Nat} {fl : Str} {o : Expr} {C : Addr} (c : Cls X.K C) (no : NoAttr X.K C fl) (ho : PE X o (tVar i)) (hb : attributeBase o fl X.env (eval o X.env) = eval o X.env := by rfl) : PE X (.Attribute o fl pos) (lE X.K T W (dFldG C i fl)) :=
  (pe_fld ho hb).up fun σ H Q ⟨g, f, s, XQ, Kd, ok, xo, h, hQ⟩ => by
    unfold dFldG at h
    split at h
    · rename_i b C' fs e0
      obtain ⟨rfl, h⟩ := h
      split at h
      · rename_i d e1
        obtain ⟨a, h1, ⟨h2, dx, xs, h3, h4⟩, _⟩ := ok.own i b _ e0
        obtain ⟨v, h5, h6⟩ := (h4.look fl).1 d e1
        exact ⟨.ref a, h1, a, C', dx, xs, v, rfl, h3, c, no, h5, hQ d s v f H h (Ex.refl _) ok h6⟩
      · exact h.elim
    · exact h.elim
end
end DL

/-! DL: what the generator's derivations name. -/
namespace DL
open PySem PySem.Spec PyProof.Rows L2 Z LamX

def csB (K : PySem.W.Frag) (cs : List Addr) : Bool := (cs.all fun C => baseTys.all fun t => decide (PySem.W.kitOne K (.type t) (.ref C) = some false) && decide (PySem.W.kitOne K (.ref C) (.type t) = some false)) &&
  cs.all fun C => cs.all fun C' => decide (PySem.W.kitOne K (.ref C) (.ref C') = some (decide (C = C')))
theorem csOk_of {K : PySem.W.Frag} {cs : List Addr} (h : csB K cs = true) (hn : PySem.W.specialIn K (.builtin "object.__class__") "__get__" = some (some (.builtin "getset_descriptor.__get__")))
    (ht : PySem.W.takesIn K (.builtin "object.__class__") = some true) (hi : ∀ C ∈ cs, Cls K C ∧ PySem.W.findIn K (.ref C) "__class__" = some (some (.builtin "object.__class__")) ∧ PySem.W.mroIn K C (.type "object") = some true) : CsOk K cs := by
  unfold csB at h
  obtain ⟨h1, h2⟩ := Bool.and_eq_true_iff.mp h
  have q : ∀ C ∈ cs, ∀ t ∈ baseTys, PySem.W.kitOne K (.type t) (.ref C) = some false ∧ PySem.W.kitOne K (.ref C) (.type t) = some false := fun C hC t ht => by
    have z := List.all_eq_true.mp (List.all_eq_true.mp h1 C hC) t ht
    obtain ⟨z1, z2⟩ := Bool.and_eq_true_iff.mp z
    exact ⟨of_decide_eq_true z1, of_decide_eq_true z2⟩
  exact ⟨hi, hn, ht, fun C hC t ht => (q C hC t ht).1, fun C hC t ht => (q C hC t ht).2, fun C hC C' hC' => of_decide_eq_true (List.all_eq_true.mp (List.all_eq_true.mp h2 C hC) C' hC')⟩
section
variable {X : Cx} {T : List (Addr × Str)} {W : WX} {a b c e tg iter elt : Expr} {ta tb tc te : DE} {tt tu : DT} {tr : DR} {es : List Expr} {pos : Pos} {gt : DG} {vs : List Nat} {i j l : Nat} {ifs : List Expr}
theorem d_v (h : PE X e (tVar i)) : PE X e (lE X.K T W (dVar i)) :=
  h.up fun σ H Q ⟨g, f, s, XQ, Kd, ok, xo, h, hQ⟩ => by
    unfold dVar at h
    split at h
    · rename_i d e
      obtain ⟨v, h1, h2⟩ := ok.val i d e
      exact ⟨v, h1, hQ d s v f H h (Ex.refl _) ok h2⟩
    · exact h.elim
theorem d_cval {C : Addr} {mc : Value} {fl : Str} {v : V} {u : Value} (r : ClX.CRead X.K C mc) (k : ClX.CVal X.K C mc fl v u) (he : PE X e (tC (.ref C))) (hb : attributeBase e fl X.env (eval e X.env) = eval e X.env := by rfl) : PE X (.Attribute e fl pos) (tC v) :=
  (ClX.pe_cval he hb).up fun σ H Q h => ⟨C, mc, v, u, rfl, r, k, h⟩
/-! targets -/
def lGs (K : PySem.W.Frag) (T : List (Addr × Str)) (vs : List Nat) (t : List D → S → (S → Prop) → Prop) : TGs := fun us σ H N => ∃ g f s ds Kd, Okay K T g f H σ s ∧ Reps K f ds us ∧ t ds s Kd ∧ ∀ s' σ' f' H', Kd s' → Ex f f' → wipe σ' vs = wipe σ vs → Okay K T g f' H' σ' s' → N σ' H'
theorem wipe_mono {σ σ' : L2.St} {us : List Nat} (h : L2.wipe σ' us = L2.wipe σ us) {vs : List Nat} (hs : ∀ i ∈ us, i ∈ vs) : L2.wipe σ' vs = L2.wipe σ vs := by
  obtain ⟨h1, h2⟩ := wipe_same h
  have get : ∀ (ρ : L2.St) (us : List Nat) (i : Nat), (L2.wipe ρ us)[i]? = if i ∈ us then (if i < ρ.length then some none else none) else ρ[i]? := fun ρ us => by
    induction us with
    | nil => intro i; simp [L2.wipe]
    | cons u us ih =>
      intro i
      show ((L2.wipe ρ us).set u none)[i]? = _
      rw [List.getElem?_set, wipe_length, ih]
      by_cases h : u = i
      · subst h
        simp
      · have : i ≠ u := Ne.symm h
        simp [h, this]
  apply List.ext_getElem?
  intro i
  rw [get, get, h1]
  split
  · rfl
  · rename_i z
    exact h2 i fun y => z (hs i y)
theorem dgs_nil : PGs X [] (lGs X.K T [] gNo) := ⟨fun pins s σ H us ws N I r ⟨g, f, st, ds, Kd, ok, rr, h, hN⟩ => by
  obtain ⟨rfl, h⟩ := h
  cases rr
  exact pgs_nil.run pins s σ H [] ws N I r ⟨rfl, hN st σ f H h (Ex.refl _) rfl ok⟩⟩
theorem dgs_cons {us vs : List Nat} {t : DG} {u : List D → S → (S → Prop) → Prop} (h1 : PG X e (lG X.K T us t)) (h2 : PGs X es (lGs X.K T vs u)) (hs : (assignEach (e :: es) X.env).map (·.2) = assign e X.env :: (assignEach es X.env).map (·.2) := by rfl) :
    PGs X (e :: es) (lGs X.K T (us ++ vs) (gCo t u)) := ⟨fun pins s σ H xs ws N I r ⟨g, f, st, ds, Kd, ok, rr, h, hN⟩ => by
  refine (pgs_cons h1 h2 hs).run pins s σ H xs ws N I r ?_
  unfold gCo at h
  split at h
  · rename_i d ds
    obtain ⟨x, r', rfl, r1, r2⟩ := rr
    refine ⟨x, r', rfl, g, f, st, d, _, ok, r1, h, fun s1 σ1 f1 H1 hk e1 w1 ok1 => ⟨g, f1, s1, ds, _, ok1, r2.ex e1, hk, fun s2 σ2 f2 H2 hk2 e2 w2 ok2 => hN s2 σ2 f2 H2 hk2 (e1.trans e2) ?_ ok2⟩⟩
    rw [wipe_mono w2 (fun i hi => List.mem_append_right _ hi), wipe_mono w1 (fun i hi => List.mem_append_left _ hi)]
  · exact h.elim⟩
theorem gNo_len : True := True.intro
def gTuN (n : Nat) (t : List D → S → (S → Prop) → Prop) (d : D) (s : S) (k : S → Prop) : Prop := match d with
  | .tup ds => ds.length = n ∧ t ds s k
  | _ => False
theorem dg_tup {k n : Nat} {t : List D → S → (S → Prop) → Prop} (hc : X.calm = true) (h : PGs X es (lGs X.K T vs t)) (hn : (assignEach es X.env).length = n := by rfl) (hst : (assignEach es X.env).findIdx? (·.1) = none := by rfl) : PG X (.Tuple es k pos) (lG X.K T vs (gTuN n t)) :=
  ⟨fun pins s σ H v u N I r ⟨g, f, st, d, Kd, ok, rr, hh, hN⟩ => by
    refine (pg_tup hc h hn hst).run pins s σ H v u N I r ?_
    cases d with
    | tup ds =>
      obtain ⟨a, xs, rfl, q1, q2, _⟩ := rr
      exact ⟨a, xs, rfl, ok.fr.inn.tq q1, by rw [q2.len]; exact hh.1, g, f, st, ds, Kd, ok, q2, hh.2, hN⟩
    | _ => exact (show False from hh).elim⟩
theorem ds_par {x y : Str} {px py pt : Pos} {kt k2 pt2} (hc : X.calm = true) (hN : X.N.Nodup) (hi : X.N[i]? = some x) (hj : X.N[j]? = some y) (hij : i ≠ j)
    (hx : X.env.scope.names.lookup x = some .local) (hy : X.env.scope.names.lookup y = some .local) (ha : PA X [a, b] (lA X.K T W tr))
    (hw : swappedStores [.Tuple [.Name x px, .Name y py] kt pt] (.Tuple [a, b] k2 pt2) X.env = pure (some [x, y]))
    (hs : swapsWithSole [.Tuple [.Name x px, .Name y py] kt pt] (.Tuple [a, b] k2 pt2) pos.line X.env = pure false := by rfl) :
    PS X (.Assign [.Tuple [.Name x px, .Name y py] kt pt] (.Tuple [a, b] k2 pt2) pos) (lS X.K T W (dPar i j tr)) :=
  (ps_par hc hN hi hj hij hx hy ha hw hs).up fun D σ H ⟨g, f, s, en, ok, xo, h, q1, _⟩ => ⟨g, f, s, en.ex, _, ok, xo _, h, fun ds s1 us f1 H1 hk e1 ok1 r1 => by
    split at hk
    · obtain ⟨u, _, rfl, h1, v, _, rfl, h2, rfl⟩ := r1
      exact ⟨u, v, rfl, q1 _ _ f1 H1 hk e1 ((ok1.set h1).set h2)⟩
    · exact hk.elim⟩
theorem ds_par3 {x y z : Str} {px py pz pt : Pos} {kt k2 pt2} (hc : X.calm = true) (hN : X.N.Nodup) (hi : X.N[i]? = some x) (hj : X.N[j]? = some y) (hl : X.N[l]? = some z) (hij : i ≠ j) (hil : i ≠ l) (hjl : j ≠ l)
    (hx : X.env.scope.names.lookup x = some .local) (hy : X.env.scope.names.lookup y = some .local) (hz : X.env.scope.names.lookup z = some .local) (ha : PA X [a, b, c] (lA X.K T W tr))
    (hw : swappedStores [.Tuple [.Name x px, .Name y py, .Name z pz] kt pt] (.Tuple [a, b, c] k2 pt2) X.env = pure (some [x, y, z]))
    (hs : swapsWithSole [.Tuple [.Name x px, .Name y py, .Name z pz] kt pt] (.Tuple [a, b, c] k2 pt2) pos.line X.env = pure false := by rfl) :
    PS X (.Assign [.Tuple [.Name x px, .Name y py, .Name z pz] kt pt] (.Tuple [a, b, c] k2 pt2) pos) (lS X.K T W (dPar3 i j l tr)) :=
  (ps_par3 hc hN hi hj hl hij hil hjl hx hy hz ha hw hs).up fun D σ H ⟨g, f, s, en, ok, xo, h, q1, _⟩ => ⟨g, f, s, en.ex, _, ok, xo _, h, fun ds s1 us f1 H1 hk e1 ok1 r1 => by
    split at hk
    · obtain ⟨u, _, rfl, h1, v, _, rfl, h2, w, _, rfl, h3, rfl⟩ := r1
      exact ⟨u, v, w, rfl, q1 _ _ f1 H1 hk e1 (((ok1.set h1).set h2).set h3)⟩
    · exact hk.elim⟩
/-- name = [.. for ..] on one line -/
theorem ds_setLcN {y : Str} {py : Pos} {scope : Scope} {own : List (Str × Nat)} {spos : Pos} (hN : X.N.Nodup) (hy : X.N[i]? = some y) (hyl : X.env.scope.names.lookup y = some .local) (hsw : swapsWith (.ListComp elt [⟨tg, iter, ifs, 0⟩] scope pos) (some (.Name y py)) spos.line X.env = pure true)
    (hc : X.calm = true) (hi : PI X tg iter (lI X.K T W tr)) (ok : BlkOk X.N X.env.scope scope own)
    (hg : ∀ (s : Shared) (H : Hp) (C : Addr) (cl : List (Str × Addr)) (fp : List Addr), PG (X.blk s H scope (compEnvC scope cl C X.env) fp) tg (lG X.K T (own.map (·.2)) gt)) (ht : ∀ (s : Shared) (H : Hp) (C : Addr) (cl : List (Str × Addr)) (fp : List Addr), PTs (X.blk s H scope (compEnvC scope cl C X.env) fp) ifs (lT X.K T W0 tt))
    (he : ∀ (s : Shared) (H : Hp) (C : Addr) (cl : List (Str × Addr)) (fp : List Addr), PE (X.blk s H scope (compEnvC scope cl C X.env) fp) elt (lE X.K T W0 te)) (hs : ∀ x, foldedSetIterable iter X.env x = pure x := by intro _; rfl) :
    PS X (.Assign [.Name y py] (.ListComp elt [⟨tg, iter, ifs, 0⟩] scope pos) spos) (lS X.K T W (dSetN i (dLcN tr gt tt te (own.map (·.2))))) :=
  (ps_setLc hc hN hy hyl hsw hi ok hg ht he hs).up fun D σ H ⟨g, f, s, en, ok, xo, h, q1, _⟩ => lcN_up ⟨g, f, s, en.ex, _, ok, xo _, h, fun o s1 a f1 H1 hx e1 ok1 ow h0 hp hr hs => q1 _ _ f1 H1 hx e1 (ok1.setOwn ow h0 hs hp hr)⟩
theorem ds_setLc {y : Str} {py : Pos} {scope : Scope} {own : List (Str × Nat)} {spos : Pos} (hN : X.N.Nodup) (hy : X.N[i]? = some y) (hyl : X.env.scope.names.lookup y = some .local) (hsw : swapsWith (.ListComp elt [⟨tg, iter, ifs, 0⟩] scope pos) (some (.Name y py)) spos.line X.env = pure true)
    (hc : X.calm = true) (hi : PI X tg iter (lI X.K T W tr)) (ok : BlkOk X.N X.env.scope scope own)
    (hg : ∀ (s : Shared) (H : Hp) (C : Addr) (cl : List (Str × Addr)) (fp : List Addr), PG (X.blk s H scope (compEnvC scope cl C X.env) fp) tg (lG X.K T (own.map (·.2)) gt)) (ht : ∀ (s : Shared) (H : Hp) (C : Addr) (cl : List (Str × Addr)) (fp : List Addr), PTs (X.blk s H scope (compEnvC scope cl C X.env) fp) ifs (lT X.K T W0 tt))
    (he : ∀ (s : Shared) (H : Hp) (C : Addr) (cl : List (Str × Addr)) (fp : List Addr), PE (X.blk s H scope (compEnvC scope cl C X.env) fp) elt (lE X.K T W0 te)) (hs : ∀ x, foldedSetIterable iter X.env x = pure x := by intro _; rfl) :
    PS X (.Assign [.Name y py] (.ListComp elt [⟨tg, iter, ifs, 0⟩] scope pos) spos) (lS X.K T W (dSet i (dFz (dLcN tr gt tt te (own.map (·.2)))))) :=
  (ps_setLc hc hN hy hyl hsw hi ok hg ht he hs).up fun D σ H ⟨g, f, s, en, ok, xo, h, q1, _⟩ => lcN_up ⟨g, f, s, en.ex, _, ok, xo _, (show dLcN tr gt tt te (own.map (·.2)) s (fun o s1 => en.nx (s1.put i o.d)) en.ex from h), fun o s1 a f1 H1 hx e1 ok1 ow h0 hp hr hs => by
    obtain ⟨f2, e2, ok2, r2⟩ := ok1.fzNew ow h0 hp hr hs
    exact q1 _ _ f2 H1 hx (e1.trans e2) (ok2.set r2)⟩
end
end DL

/-! DL: operators of own classes, methods of texts. -/
namespace DL
open PySem PySem.Spec PyProof.Rows L2 Z LamX

abbrev D2X := D → D → (D → Prop) → (Value → List (Str × D) → Prop) → Prop
abbrev D1X := D → (D → Prop) → (Value → List (Str × D) → Prop) → Prop
/-- behind a call that draws nothing -/
abbrev Fr0 (T : List (Addr × Str)) (f H f' H' : Hp) : Prop := Fr T (fun _ => False) f H f' H'
theorem Fr0.of {T : List (Addr × Str)} {f H f' H' : Hp} {p : Addr} (x : Fr T (pex p 0) f H f' H') : Fr0 T f H f' H' := ⟨x.sub, x.inn, fun a o h n _ t => x.old a o h n (fun z => z.1 rfl) t, x.out, x.there⟩
theorem Fr0.to {T : List (Addr × Str)} {ex : Addr → Prop} {f H f' H' : Hp} (x : Fr0 T f H f' H') : Fr T ex f H f' H' := ⟨x.sub, x.inn, fun a o h n _ t => x.old a o h n (fun z => z) t, x.out, x.there⟩
theorem Wo.zero {T : List (Addr × Str)} {f H : Hp} {p q : Addr} {n : Nat} (w : Wo T f H p n) : Wo T f H q 0 := ⟨.inl rfl, w.tab, w.nt⟩
theorem Wo.back {T : List (Addr × Str)} {f H f' H' : Hp} {p q : Addr} {n : Nat} (w : Wo T f H p n) (x : Fr0 T f H f' H') (w' : Wo T f' H' q 0) : Wo T f' H' p n := by
  refine ⟨?_, w'.tab, w'.nt⟩
  rcases w.pen with z | ⟨z, l, cs, i, j, h1, h2, h3⟩
  · exact .inl z
  · exact .inr ⟨x.out _ _ h1 (.inr rfl) z, l, cs, i, j, x.old _ _ h1 z (fun z => z) (.inr rfl), x.sub _ _ h2, h3⟩
theorem Gro.fr0 {T : List (Addr × Str)} {f H f' H' : Hp} (x : Gro f H f' H') : Fr0 T f H f' H' := x.fr
section
variable (K : PySem.W.Frag) (T : List (Addr × Str))
def rPX (o : D2X) (E : XK) : R2 := fun x y H Q => ∃ f dx dy Kd Xd, Ex f H ∧ Wo T f H 0 0 ∧ Rep K f dx x ∧ Rep K f dy y ∧ o dx dy Kd Xd ∧
  (∀ d v f' H', Kd d → Fr0 T f H f' H' → Wo T f' H' 0 0 → Rep K f' d v → Q v H') ∧
  (∀ cls fs f' H' xs dd, Xd cls fs → Fr0 T f H f' H' → Wo T f' H' 0 0 → f' dd = some (.xd xs) → RepF K f' fs xs → E cls (some dd) H')
def uPX (o : D1X) (E : XK) : V → Hp → VK → Prop := fun x H Q => ∃ f dx Kd Xd, Ex f H ∧ Wo T f H 0 0 ∧ Rep K f dx x ∧ o dx Kd Xd ∧
  (∀ d v f' H', Kd d → Fr0 T f H f' H' → Wo T f' H' 0 0 → Rep K f' d v → Q v H') ∧
  (∀ cls fs f' H' xs dd, Xd cls fs → Fr0 T f H f' H' → Wo T f' H' 0 0 → f' dd = some (.xd xs) → RepF K f' fs xs → E cls (some dd) H')
end
def dBinX (o : D2X) (ta tb : DE) (s : S) (k : D → S → Prop) (x : XD) : Prop := ta s (fun a s1 => tb s1 (fun b s2 => o a b (fun z => k z s2) (fun c fs => x c fs s2)) x) x
def dUnX (o : D1X) (ta : DE) (s : S) (k : D → S → Prop) (x : XD) : Prop := ta s (fun a s1 => o a (fun z => k z s1) (fun c fs => x c fs s1)) x
def dAugX (i : Nat) (o : D2X) (te : DE) (s : S) (en : En) : Prop := match s.lv[i]? with
  | some (some (.val a)) => te s (fun b s1 => o a b (fun z => en.nx (s1.put i z)) (fun c fs => en.ex c fs s1)) en.ex
  | _ => False
theorem Okay.call0 {K : PySem.W.Frag} {T : List (Addr × Str)} {g : Gd} {f H f' H' : Hp} {σ : L2.St} {s : S} (k : Okay K T g f H σ s) (x : Fr0 T f H f' H') (w : Wo T f' H' 0 0) : Okay K T g f' H' σ s :=
  k.call (n' := s.n) x.to (k.wo.back x w) (Nat.le_refl _)
section
variable {X : Cx} {T : List (Addr × Str)} {W : WX} {a b c e : Expr} {ta tb tc te : DE} {es : List Expr} {pos : Pos} {i : Nat} {o o' : D2X} {E : XK}
theorem rPX_up {σ : L2.St} {Q : VK} {g : Gd} {f2 H2 : Hp} {s2 : S} {XQ : XD} {Kd : D → S → Prop} {x y : D} {v u : V} (ok2 : Okay X.K T g f2 H2 σ s2) (xo : XOk X.K T (wxE E) g σ XQ) (r1 : Rep X.K f2 x v) (r2 : Rep X.K f2 y u)
    (h : o x y (fun z => Kd z s2) (fun c fs => XQ c fs s2)) (hQ : ∀ d s' v f' H', Kd d s' → Ex f2 f' → Okay X.K T g f' H' σ s' → Rep X.K f' d v → Q v H') : rPX X.K T o E v u H2 Q :=
  ⟨f2, x, y, _, _, ok2.fr.inn, ok2.wo.zero, r1, r2, h, fun d v f' H' hk x w r => hQ d s2 v f' H' hk x.sub (ok2.call0 x w) r, fun cls fs f' H' xs dd hx x w hd r => xo cls fs s2 f' H' xs dd (ok2.call0 x w) hd r hx⟩
theorem d_binX {op : Operator} (ho : OpR X (binaryOp op) (rPX X.K T o E)) (ha : PE X a (lE X.K T (wxE E) ta)) (hb : PE X b (lE X.K T (wxE E) tb)) : PE X (.BinOp a op b pos) (lE X.K T (wxE E) (dBinX o ta tb)) :=
  (pe_op ho ha hb).up fun σ H Q ⟨g, f, s, XQ, Kd, ok, xo, h, hQ⟩ => ⟨g, f, s, XQ, _, ok, xo, h, fun x s1 v f1 H1 hx e1 ok1 r1 => ⟨g, f1, s1, XQ, _, ok1, xo, hx, fun y s2 u f2 H2 hy e2 ok2 r2 =>
    rPX_up ok2 xo (r1.ex e2) r2 hy fun d s' v f' H' hk e3 ok3 r3 => hQ d s' v f' H' hk (e1.trans (e2.trans e3)) ok3 r3⟩⟩
theorem d_cmpX {op : CmpOp} (ho : OpR X (compareOp op) (rPX X.K T o E)) (ha : PE X a (lE X.K T (wxE E) ta)) (hb : PE X b (lE X.K T (wxE E) tb)) (hm : behindInMarks op b = false) : PE X (.Compare a [op] [b] pos) (lE X.K T (wxE E) (dBinX o ta tb)) :=
  (pe_cmpR ho ha hb hm).up fun σ H Q ⟨g, f, s, XQ, Kd, ok, xo, h, hQ⟩ => ⟨g, f, s, XQ, _, ok, xo, h, fun x s1 v f1 H1 hx e1 ok1 r1 => ⟨g, f1, s1, XQ, _, ok1, xo, hx, fun y s2 u f2 H2 hy e2 ok2 r2 =>
    rPX_up ok2 xo (r1.ex e2) r2 hy fun d s' v f' H' hk e3 ok3 r3 => hQ d s' v f' H' hk (e1.trans (e2.trans e3)) ok3 r3⟩⟩
theorem d_tcmpX {op : CmpOp} (ho : OpR X (compareOp op) (rPX X.K T o E)) (ha : PE X a (lE X.K T (wxE E) ta)) (hb : PE X b (lE X.K T (wxE E) tb)) (hm : behindInMarks op b = false) : PT X (.Compare a [op] [b] pos) (lT X.K T (wxE E) (dTst (dBinX o ta tb))) :=
  (pt_cmpR ho ha hb hm).up fun σ H Q ⟨g, f, s, XQ, Kd, ok, xo, h, hQ⟩ => ⟨g, f, s, XQ, _, ok, xo, h, fun x s1 v f1 H1 hx e1 ok1 r1 => ⟨g, f1, s1, XQ, _, ok1, xo, hx, fun y s2 u f2 H2 hy e2 ok2 r2 => by
    refine rPX_up (Kd := fun z s3 => match z with
      | .bl b => Kd b s3
      | _ => False) ok2 xo (r1.ex e2) r2 hy fun d s' v f' H' hk e3 ok3 r3 => ?_
    cases d with
    | bl b => cases r3; exact ⟨b, rfl, hQ b s' f' H' hk (e1.trans (e2.trans e3)) ok3⟩
    | _ => exact (show False from hk).elim⟩⟩
theorem d_unX {op : UnaryOp} {o : D1X} (ho : UnR X (unaryOp op) (uPX X.K T o E)) (ha : PE X a (lE X.K T (wxE E) ta)) : PE X (.UnaryOp op a pos) (lE X.K T (wxE E) (dUnX o ta)) :=
  (pe_un ho ha).up fun σ H Q ⟨g, f, s, XQ, Kd, ok, xo, h, hQ⟩ => ⟨g, f, s, XQ, _, ok, xo, h, fun x s1 v f1 H1 hx e1 ok1 r1 =>
    ⟨f1, x, _, _, ok1.fr.inn, ok1.wo.zero, r1, hx, fun d v f' H' hk x w r => hQ d s1 v f' H' hk (e1.trans x.sub) (ok1.call0 x w) r, fun cls fs f' H' xs dd hx x w hd r => xo cls fs s1 f' H' xs dd (ok1.call0 x w) hd r hx⟩⟩
/-- what the plain operation does, with the door for errors -/
def oUp (o : D2) : D2X := fun a b k _ => o a b k
theorem px_up {op : Value → Value → Sem Value} {o : D2} (h : OpR X op (rP X.K o)) : OpR X op (rPX X.K T (oUp o) E) := fun pins s σ H x y v u Q I rx ry ⟨f, dx, dy, Kd, Xd, e, w, r1, r2, ho, hK, _⟩ =>
  h pins s σ H x y v u Q I rx ry ⟨f, dx, dy, Kd, e, r1, r2, ho, fun d v f' H' hk gr r => hK d v f' H' hk gr.fr0 (w.gro gr) r⟩
/-- by cases of the operands -/
def oWhen (c : D → D → Bool) (o o' : D2X) : D2X := fun a b k x => if c a b = true then o a b k x else o' a b k x
theorem px_or {op : Value → Value → Sem Value} {c : D → D → Bool} (h : OpR X op (rPX X.K T o E)) (h' : OpR X op (rPX X.K T o' E)) : OpR X op (rPX X.K T (oWhen c o o') E) := fun pins s σ H x y v u Q I rx ry ⟨f, dx, dy, Kd, Xd, e, w, r1, r2, ho, hK, hX⟩ => by
  unfold oWhen at ho
  split at ho
  · exact h pins s σ H x y v u Q I rx ry ⟨f, dx, dy, Kd, Xd, e, w, r1, r2, ho, hK, hX⟩
  · exact h' pins s σ H x y v u Q I rx ry ⟨f, dx, dy, Kd, Xd, e, w, r1, r2, ho, hK, hX⟩
/-! instances of own classes -/
variable {C f : Addr} {k : Nat} {fd : FuncData} {ps : List Str} {φ : FD}
def isO (C : Addr) : D → Bool
  | .obj C' _ => decide (C' = C)
  | _ => false
/-- a op b, two instances: the method of the first -/
def oOO (C : Addr) (φ : FD) : D2X := fun a b k x => isO C a = true ∧ isO C b = true ∧ φ [a, b] 0 0 (fun d _ => k d) (fun c fs _ => x c fs)
theorem isO_rep {K : PySem.W.Frag} {f : Hp} {d : D} {v : V} (h : isO C d = true) (r : Rep K f d v) : ∃ a dx fs, v = .ref a ∧ f a = some (.ins C dx fs) := by
  cases d with
  | obj C' fs =>
    obtain ⟨a, dx, xs, rfl, h1, _⟩ := r
    obtain rfl : C' = C := of_decide_eq_true h
    exact ⟨a, dx, xs, rfl, h1⟩
  | _ => cases h
theorem spD0 {K : PySem.W.Frag} {f H : Hp} {ds : List D} {vs : List V} {Kd : D → Prop} {Xd : Value → List (Str × D) → Prop} {Q : VK} (e : Ex f H) (w : Wo T f H 0 0) (r : Reps K f ds vs) (h : φ ds 0 0 (fun d _ => Kd d) (fun c fs _ => Xd c fs))
    (hK : ∀ d v f' H', Kd d → Fr0 T f H f' H' → Wo T f' H' 0 0 → Rep K f' d v → Q v H')
    (hX : ∀ cls fs f' H' xs dd, Xd cls fs → Fr0 T f H f' H' → Wo T f' H' 0 0 → f' dd = some (.xd xs) → RepF K f' fs xs → E cls (some dd) H') : spD K T φ vs H Q E :=
  ⟨f, 0, 0, ds, _, _, e, w, r, h, fun d n' v f' H' hk _ fr w' rr => hK d v f' H' hk (Fr0.of fr) w'.zero rr, fun cls fs n' f' H' xs dd hx _ fr w' hd rr => hX cls fs f' H' xs dd hx (Fr0.of fr) w'.zero hd rr⟩
theorem reps2 {K : PySem.W.Frag} {f : Hp} {a b : D} {v u : V} (r1 : Rep K f a v) (r2 : Rep K f b u) : Reps K f [a, b] [v, u] := ⟨v, _, rfl, r1, .one r2⟩
theorem px_oo {op : Operator} (hc : PySem.W.selfFirst X.K C = true) (hs : PySem.W.findIn X.K (.ref C) (PySem.dunder op.info.2) = some (some (.ref f))) (hf : PySem.W.isFn X.K (.ref f) = true)
    (F : FnOk X.prog X.w X.K X.mg X.base (L2.CX X.prog X.w) k f fd ps (spD X.K T φ)) (hr : Room k X.A) (hb : Binds X.K fd ps []) (hx : Passes (L2.CX X.prog X.w) X E) : OpR X (binaryOp op) (rPX X.K T (oOO C φ) E) :=
  fun pins s σ H x y v u Q I rx ry ⟨f, dx, dy, Kd, Xd, e, w, r1, r2, ⟨h1, h2, ho⟩, hK, hX⟩ => by
    obtain ⟨a, d1, fs, rfl, q1⟩ := isO_rep h1 r1
    obtain ⟨b, d2, gs, rfl, q2⟩ := isO_rep h2 r2
    exact op_oo hc hs hf F hr hb hx pins s σ H _ _ v u Q I rx ry ⟨a, b, d1, d2, fs, gs, rfl, rfl, e _ _ q1, e _ _ q2, spD0 e w (reps2 r1 r2) ho hK hX⟩
theorem px_cc {op : CmpOp} (hop : ∀ a b, compareOp op a b = richCompare op a b) (hs : PySem.W.findIn X.K (.ref C) (cmpInfo op).2.1 = some (some (.ref f))) (hf : PySem.W.isFn X.K (.ref f) = true)
    (F : FnOk X.prog X.w X.K X.mg X.base (L2.CX X.prog X.w) k f fd ps (spD X.K T φ)) (hr : Room k X.A) (hb : Binds X.K fd ps []) (hx : Passes (L2.CX X.prog X.w) X E) : OpR X (compareOp op) (rPX X.K T (oOO C φ) E) :=
  fun pins s σ H x y v u Q I rx ry ⟨f, dx, dy, Kd, Xd, e, w, r1, r2, ⟨h1, h2, ho⟩, hK, hX⟩ => by
    obtain ⟨a, d1, fs, rfl, q1⟩ := isO_rep h1 r1
    obtain ⟨b, d2, gs, rfl, q2⟩ := isO_rep h2 r2
    exact op_cc hop hs hf F hr hb hx pins s σ H _ _ v u Q I rx ry ⟨a, b, d1, d2, fs, gs, rfl, rfl, e _ _ q1, e _ _ q2, spD0 e w (reps2 r1 r2) ho hK hX⟩
def oO1 (C : Addr) (φ : FD) : D1X := fun a k x => isO C a = true ∧ φ [a] 0 0 (fun d _ => k d) (fun c fs _ => x c fs)
theorem ux_inv (hs : PySem.W.findIn X.K (.ref C) "__invert__" = some (some (.ref f))) (hf : PySem.W.isFn X.K (.ref f) = true)
    (F : FnOk X.prog X.w X.K X.mg X.base (L2.CX X.prog X.w) k f fd ps (spD X.K T φ)) (hr : Room k X.A) (hb : Binds X.K fd ps []) (hx : Passes (L2.CX X.prog X.w) X E) : UnR X (unaryOp .Invert) (uPX X.K T (oO1 C φ) E) :=
  fun pins s σ H x v Q I rx ⟨f, dx, Kd, Xd, e, w, r1, ⟨h1, ho⟩, hK, hX⟩ => by
    obtain ⟨a, d1, fs, rfl, q1⟩ := isO_rep h1 r1
    exact un_inv_o hs hf F hr hb hx pins s σ H _ v Q I rx ⟨a, d1, fs, rfl, e _ _ q1, spD0 e w (.one r1) ho hK hX⟩
/-- a op y, y none of the heap and of a class with no say in it -/
def scalTy : D → Option String
  | .non => some "NoneType"
  | .bl _ => some "bool"
  | .int _ => some "int"
  | .str _ => some "str"
  | _ => none
def oOS (C : Addr) (φ : FD) : D2X := fun a b k x => isO C a = true ∧ (scalTy b).isSome = true ∧ φ [a, b] 0 0 (fun d _ => k d) (fun c fs _ => x c fs)
theorem rep_ty {K : PySem.W.Frag} {f : Hp} {d : D} {v : V} {u : Value} {t : String} (r : Rep K f d v) (ru : RelV v u) (h : scalTy d = some t) : typeOf u = pure (.type t) := by
  cases d with
  | non => cases h; cases r; cases ru; rfl
  | bl b => cases h; cases r; cases ru; rfl
  | int i => cases h; cases r; obtain ⟨_, rfl⟩ := ru; rfl
  | str z => cases h; obtain ⟨rfl, _⟩ := r; obtain ⟨_, rfl⟩ := ru; rfl
  | _ => cases h
/-- of these classes none has a say -/
def sayB (K : PySem.W.Frag) (C : Addr) (op : Operator) : Bool := ["NoneType", "bool", "int", "str"].all fun t => (PySem.W.findIn K (.type t) (PySem.dunder op.info.2)).isSome && (PySem.W.findIn K (.type t) (dunderR op.info.2)).isSome && decide (PySem.W.subIn K (.type t) (.ref C) = some false)
theorem sayB_of {K : PySem.W.Frag} {op : Operator} (h : sayB K C op = true) {d : D} {t : String} (e : scalTy d = some t) : (∃ fo, PySem.W.findIn K (.type t) (PySem.dunder op.info.2) = some fo) ∧ (∃ ro, PySem.W.findIn K (.type t) (dunderR op.info.2) = some ro) ∧ PySem.W.subIn K (.type t) (.ref C) = some false := by
  have hm : t ∈ ["NoneType", "bool", "int", "str"] := by cases d <;> cases e <;> decide
  have q := List.all_eq_true.mp h t hm
  obtain ⟨q1, q3⟩ := Bool.and_eq_true_iff.mp q
  obtain ⟨q1, q2⟩ := Bool.and_eq_true_iff.mp q1
  exact ⟨Option.isSome_iff_exists.mp q1, Option.isSome_iff_exists.mp q2, of_decide_eq_true q3⟩
theorem px_os {op : Operator} {rc : Option Value} (hc : PySem.W.selfFirst X.K C = true) (hs : PySem.W.findIn X.K (.ref C) (PySem.dunder op.info.2) = some (some (.ref f))) (hf : PySem.W.isFn X.K (.ref f) = true)
    (hr2 : PySem.W.findIn X.K (.ref C) (dunderR op.info.2) = some rc) (hp : rc = none ∨ ∃ g : Addr, rc = some (.ref g)) (hsay : sayB X.K C op = true)
    (F : FnOk X.prog X.w X.K X.mg X.base (L2.CX X.prog X.w) k f fd ps (spD X.K T φ)) (hr : Room k X.A) (hb : Binds X.K fd ps []) (hx : Passes (L2.CX X.prog X.w) X E) : OpR X (binaryOp op) (rPX X.K T (oOS C φ) E) :=
  fun pins s σ H x y v u Q I rx ry ⟨f, dx, dy, Kd, Xd, e, w, r1, r2, ⟨h1, h2, ho⟩, hK, hX⟩ => by
    obtain ⟨a, d1, fs, rfl, q1⟩ := isO_rep h1 r1
    obtain ⟨t, et⟩ := Option.isSome_iff_exists.mp h2
    obtain ⟨⟨fo, f1⟩, ⟨ro, f2⟩, f3⟩ := sayB_of hsay et
    obtain rfl : v = Value.ref a := rx
    obtain ⟨ox, od, i1⟩ := ins_look I (e _ _ q1)
    obtain ⟨m, fr⟩ := I.fr
    refine PySem.W.ksp_binT fr I.ok.mod.kin i1 (rep_ty r2 ry et) hc hs hf hr2 hp f1 f2 f3 (wpAny_mono (run_fn (vs := [.ref a, y]) F hr hb .nil hx I (.cons rfl (.cons ry .nil)) (by simpa using spD0 e w (reps2 r1 r2) ho hK hX)) (fun _ _ q => back_of q) fun _ _ q => q)
end
end DL

/-! DL: the pen, the law's beginning, methods of texts. -/
namespace DL
open PySem PySem.Spec PyProof.Rows L2 Z LamX

theorem _root_.Z.FnOk.imp {P : Program} {w : World} {K : PySem.W.Frag} {mg : Str → Option Value} {base : Heap} {CX : CXT} {k : Nat} {f : Addr} {fd : FuncData} {ps : List Str} {sp sp' : Sp} (F : FnOk P w K mg base CX k f fd ps sp) (h : ∀ vs H Q E, sp' vs H Q E → sp vs H Q E) : FnOk P w K mg base CX k f fd ps sp' :=
  ⟨fun vs H Q E q => F.len vs H Q E (h _ _ _ _ q), fun A outer s H args us vs Q E hr e b r q => F.run A outer s H args us vs Q E hr e b r (h _ _ _ _ q)⟩
/-- a draw below m -/
def phiDraw : FD := fun ds p n k _ => match ds with
  | [.ref a, .int m] => a = p ∧ 0 < m ∧ m.natAbs.log2 < 9000 ∧ n ≠ 0 ∧ ∀ r, 0 ≤ r → r < m → k (.int r) (n - 1)
  | _ => False
theorem ne_pen {p l : Addr} {H : Hp} {cs : List Int} {i j : Int} (h1 : H p = some (.lst [.ref l, .int i, .int j])) (h2 : H l = some (.lst (cs.map V.int))) : p ≠ l := fun z => by
  subst z
  rw [h1] at h2
  cases cs with
  | nil => cases h2
  | cons c cs => cases h2
theorem draw_imp {K : PySem.W.Frag} {T : List (Addr × Str)} {vs : List V} {H : Hp} {Q : VK} {E : XK} (h : spD K T phiDraw vs H Q E) : spDraw K vs H Q E := by
  obtain ⟨f, p, n, ds, Kd, Xd, e, wo, r, hφ, hK, hX⟩ := h
  unfold phiDraw at hφ
  split at hφ
  · rename_i a m
    obtain ⟨rfl, h0, h1, hn, hφ⟩ := hφ
    obtain ⟨n, rfl⟩ : ∃ n', n = n' + 1 := ⟨n - 1, by omega⟩
    obtain ⟨_, _, rfl, rfl, _, _, rfl, rfl, rfl⟩ := r
    rcases wo.pen with z | ⟨z, l, cs, i, j, q1, q2, q3, q4, q5⟩
    · exact absurd z hn
    have ne := ne_pen q1 (e _ _ q2)
    refine ⟨a, m, n, rfl, ⟨l, cs, i, j, q1, e _ _ q2, q3, q4, q5⟩, h0, h1, fun r H' g pn h2 h3 b => ?_⟩
    obtain ⟨l', cs', i', j', p1, p2, p3, p4, p5⟩ := pn
    obtain ⟨i2, j2, c1⟩ := g a _ q1
    rw [p1] at c1
    have el : l' = l := by
      injection c1 with c2
      injection c2 with c3
      injection c3 with c4
      injection c4
    subst el
    have inn : Ex f H' := fun c o hc => b c o (fun y => by rw [y, z] at hc; cases hc) (e c o hc)
    refine hK (.int r) n (.int r) f H' (hφ r h2 h3) (by omega) ⟨Ex.refl _, inn, fun c o hc _ x _ => b c o (fun y => x ⟨by omega, y⟩) hc, fun _ _ _ _ hf => hf, fun c o hc t => ?_⟩ ⟨?_, fun c hc => ?_, wo.nt⟩ rfl
    · by_cases y : c = a
      · subst y
        exact ⟨_, p1, .inr rfl⟩
      · exact ⟨o, b c o y hc, t⟩
    · exact .inr ⟨z, l', cs, i', j', p1, q2, p3, p4, q5⟩
    · obtain ⟨ps, t1, t2, t3⟩ := wo.tab c hc
      have n1 : c.1 ≠ a := fun y => by
        rw [y, q1] at t1
        cases t1
      refine ⟨ps, b _ _ n1 t1, t2, fun pos cv ee => ?_⟩
      obtain ⟨cc, e1, e2⟩ := t3 pos cv ee
      exact ⟨cc, e1, b _ _ (fun y => by rw [y, q1] at e2; unfold CodeO at e2; cases e2) e2⟩
  · exact hφ.elim
def refD : Option V → Option LV
  | some (.ref a) => some (.val (.ref a))
  | _ => none
/-- what the law asks -/
def EnL : En := ⟨fun _ => False, fun d _ => d = .bl true, fun _ => False, fun _ => False, fun _ _ _ => False⟩
theorem lS_start {K : PySem.W.Frag} {T : List (Addr × Str)} {t : DS} {Q : VK} {E : XK} {σ : L2.St} {H : Hp} {p : Addr} (tabs : Tabs T H) (pen : PenAt K H p 1000000) (h : t ⟨σ.map refD, p, 1000000⟩ EnL) (k : ∀ H', Q (.bl true) H') :
    lS K T (wxE E) t { nx := fun _ H' => Q .non H', rt := Q } σ H := by
  obtain ⟨l, cs, i, j, q1, q2, q3, q4, q5⟩ := pen
  have ne := ne_pen q1 q2
  obtain ⟨f, hf⟩ : ∃ f : Hp, f = upd (fun _ => none) l (.lst (cs.map V.int)) := ⟨_, rfl⟩
  have e : Ex f H := fun a o ha => by
    rw [hf] at ha
    by_cases z : a = l
    · subst z
      rw [upd_same] at ha
      rw [q2]
      exact ha
    · rw [upd_ne z] at ha
      cases ha
  have fp : f p = none := by rw [hf, upd_ne ne]
  have fl : f l = some (.lst (cs.map V.int)) := by rw [hf, upd_same]
  have get : ∀ (i : Nat) (x : LV), (σ.map refD)[i]? = some (some x) → ∃ a, x = .val (.ref a) ∧ σ[i]? = some (some (.ref a)) := fun i x hx => by
    rw [List.getElem?_map] at hx
    obtain ⟨o, h1, h2⟩ := Option.map_eq_some_iff.mp hx
    unfold refD at h2
    split at h2
    · cases h2
      exact ⟨_, rfl, h1⟩
    · cases h2
  refine ⟨⟨f, H, pex p 1000000, fun _ => False, fun _ h => h.elim, [], fun p' n' => p' = p ∧ n' ≤ 1000000, fun _ _ _ h1 h2 => ⟨h2.1, Nat.le_trans h1 h2.2⟩⟩, f, ⟨σ.map refD, p, 1000000⟩, EnL,
    ⟨Fr.refl e, fun h => ⟨h, rfl⟩, ⟨rfl, Nat.le_refl _⟩, ⟨.inr ⟨fp, l, cs, i, j, q1, fl, q3, q4, q5⟩, tabs, fun a o ha => ?_⟩, by simp, fun i d hd => ?_, fun i b o ho => ?_, fun q hq => (by cases hq), fun i j bi oi bj oj _ ho _ => ?_⟩, fun _ _ _ _ _ _ _ _ _ _ _ hx => hx.elim, h, fun _ _ _ _ z => z.elim, fun _ _ _ _ z => z.elim, fun _ _ _ _ z => z.elim, fun d s' σ' v f' H' hd _ _ r => ?_⟩
  · rw [hf] at ha
    by_cases z : a = l
    · subst z
      rw [upd_same] at ha
      cases ha
      rfl
    · rw [upd_ne z] at ha
      cases ha
  · obtain ⟨a, e1, e2⟩ := get i _ hd
    cases e1
    exact ⟨.ref a, e2, rfl⟩
  · obtain ⟨a, e1, _⟩ := get i _ ho
    cases e1
  · obtain ⟨a, e1, _⟩ := get i _ ho
    cases e1
  · have hd : d = .bl true := hd
    subst hd
    cases r
    exact k H'
/-! methods of texts -/
abbrev DM := D → List D → (D → Prop) → Prop
def rM (K : PySem.W.Frag) (o : DM) : V → List V → Hp → VK → Prop := fun x vs H Q => ∃ f d ds Kd, Ex f H ∧ Rep K f d x ∧ Reps K f ds vs ∧ o d ds Kd ∧ ∀ d v f' H', Kd d → Gro f H f' H' → Rep K f' d v → Q v H'
def D.isS : D → Bool
  | .str _ => true
  | _ => false
def dM0 (o : DM) (to : DE) (s : S) (k : D → S → Prop) (x : XD) : Prop := to s (fun d s1 => d.isS = true ∧ o d [] fun z => k z s1) x
def dM1 (o : DM) (to te : DE) (s : S) (k : D → S → Prop) (x : XD) : Prop := to s (fun d s1 => d.isS = true ∧ te s1 (fun a s2 => o d [a] fun z => k z s2) x) x
section
variable {X : Cx} {T : List (Addr × Str)} {W : WX} {a b c e : Expr} {to te : DE} {pos apos : Pos} {o : DM} {id : String} {name : Str}
theorem isS_v {K : PySem.W.Frag} {f : Hp} {d : D} {v : V} (r : Rep K f d v) (h : d.isS = true) : ∃ z, v = .str z := by
  cases d with
  | str z => exact ⟨z, r.1⟩
  | _ => cases h
theorem d_m0 (slot : Slot "str" name id) (ty : typeOf (.builtin id) = pure (.type "method_descriptor")) (rule : MtR X id (rM X.K o)) (ho : PE X a (lE X.K T W to))
    (hbase : attributeBase a name X.env (eval a X.env) = eval a X.env := by rfl) (hline : (apos.endLine == pos.line) = true := by rfl) : PE X (.Call (.Attribute a name apos) [] [] pos) (lE X.K T W (dM0 o to)) :=
  (pe_m0 slot ty rule ho hbase hline).up fun σ H Q ⟨g, f, s, XQ, Kd, ok, xo, h, hQ⟩ => ⟨g, f, s, XQ, _, ok, xo, h, fun d s1 v f1 H1 hx e1 ok1 r1 => ⟨isS_v r1 hx.1, f1, d, [], _, ok1.fr.inn, r1, rfl, hx.2,
    fun z u f2 H2 hz gr rr => hQ z s1 u f2 H2 hz (e1.trans gr.sub) (ok1.gro gr) rr⟩⟩
theorem d_m1 (slot : Slot "str" name id) (ty : typeOf (.builtin id) = pure (.type "method_descriptor")) (rule : MtR X id (rM X.K o)) (ho : PE X a (lE X.K T W to)) (he : PE X e (lE X.K T W te))
    (hs : starEach [e] X.env = [(false, eval e X.env)] := by rfl) (hbase : attributeBase a name X.env (eval a X.env) = eval a X.env := by rfl) (hline : (apos.endLine == pos.line) = true := by rfl) : PE X (.Call (.Attribute a name apos) [e] [] pos) (lE X.K T W (dM1 o to te)) :=
  (pe_m1 slot ty rule ho he hs hbase hline).up fun σ H Q ⟨g, f, s, XQ, Kd, ok, xo, h, hQ⟩ => ⟨g, f, s, XQ, _, ok, xo, h, fun d s1 v f1 H1 hx e1 ok1 r1 => ⟨isS_v r1 hx.1, g, f1, s1, XQ, _, ok1, xo, hx.2, fun y s2 u f2 H2 hy e2 ok2 r2 =>
    ⟨f2, d, [y], _, ok2.fr.inn, r1.ex e2, .one r2, hy, fun z u f3 H3 hz gr rr => hQ z s2 u f3 H3 hz (e1.trans (e2.trans gr.sub)) (ok2.gro gr) rr⟩⟩⟩
/-- the texts of data -/
def strsOf : List D → Option (List Str)
  | [] => some []
  | .str i :: r => (match strsOf r with
    | some l => some (i :: l)
    | none => none)
  | _ :: _ => none
theorem Reps.strs {K : PySem.W.Frag} {f : Hp} : ∀ {ds : List D} {xs : List V} {l : List Str}, Reps K f ds xs → strsOf ds = some l → xs = l.map V.str
  | [], _, _, h, e => by cases h; cases e; rfl
  | d :: ds, _, l, ⟨x, r, h1, h2, h3⟩, e => by
    subst h1
    cases d with
    | str z =>
      unfold strsOf at e
      split at e
      · rename_i l' el
        cases e
        obtain ⟨rfl, _⟩ := h2
        rw [Reps.strs h3 el]
        rfl
      · cases e
    | _ => cases e
def mJoin : DM := fun d as k => match d, as with
  | .str z, [.lst ds] => (match strsOf ds with
    | some ys => ((ys.map (·.length)).sum + ys.length * z.length ≤ 16777216 ∧ (Txt.join z ys).length ≤ sizeLine) ∧ k (.str (Txt.join z ys))
    | none => False)
  | .str z, [.tup ds] => (match strsOf ds with
    | some ys => ((ys.map (·.length)).sum + ys.length * z.length ≤ 16777216 ∧ (Txt.join z ys).length ≤ sizeLine) ∧ k (.str (Txt.join z ys))
    | none => False)
  | _, _ => False
theorem m_join : MtR X "str.join" (rM X.K mJoin) := fun pins s σ H x xs v us Q I rx rs ⟨f, d, ds, Kd, e, r1, r2, h, hQ⟩ => by
  unfold mJoin at h
  split at h
  · obtain ⟨rfl, _⟩ := r1
    obtain ⟨u, _, rfl, ⟨a, ys, rfl, h3, h4, _⟩, rfl⟩ := r2
    split at h
    · rename_i l el
      have z := h4.strs el
      subst z
      exact mt_join pins s σ H _ _ v us Q I rx rs ⟨_, a, l, rfl, rfl, .inl (sql_of (e _ _ h3)), h.1.1, hQ _ _ f H h.2 (Gro.refl e) ⟨rfl, h.1.2⟩⟩
    · exact h.elim
  · obtain ⟨rfl, _⟩ := r1
    obtain ⟨u, _, rfl, ⟨a, ys, rfl, h3, h4, _⟩, rfl⟩ := r2
    split at h
    · rename_i l el
      have z := h4.strs el
      subst z
      exact mt_join pins s σ H _ _ v us Q I rx rs ⟨_, a, l, rfl, rfl, .inr (e.tq h3), h.1.1, hQ _ _ f H h.2 (Gro.refl e) ⟨rfl, h.1.2⟩⟩
    · exact h.elim
  · exact h.elim
end
end DL

/-! DL: repr of data. -/
namespace DL
open PySem PySem.Spec PyProof.Rows L2 Z LamX

mutual
/-- d is shown as t; ow tells the texts of own instances -/
def Shn (ow : Addr → Option FD) : D → Str → Prop
  | .non, t => t = ("None" : String)
  | .bl b, t => t = (if b then "True" else "False" : String)
  | .int i, t => i.natAbs.log2 < 1920 ∧ t = (toString i : String)
  | .str z, t => (reprText z).length ≤ sizeLine ∧ t = reprText z
  | .lst ds, t => ∃ ts, Shns ow ds ts ∧ t = listText ts
  | .tup ds, t => ∃ ts, Shns ow ds ts ∧ t = tupleText ts
  | .obj C fs, t => ∃ φ, ow C = some φ ∧ ∀ (k : D → Nat → Prop) (x : Value → List (Str × D) → Nat → Prop), k (.str t) 0 → φ [.obj C fs] 0 0 k x
  | .dic kvs, t => kvs = [] ∧ t = dictText []
  | _, _ => False
def Shns (ow : Addr → Option FD) : List D → List Str → Prop
  | [], ts => ts = []
  | d :: ds, ts => ∃ t r, ts = t :: r ∧ Shn ow d t ∧ Shns ow ds r
end
mutual
/-- how many lists and tuples stand in it; how deep -/
def sz : D → Nat
  | .lst ds => 1 + szs ds
  | .tup ds => 1 + szs ds
  | .dic _ => 1
  | _ => 0
def szs : List D → Nat
  | [] => 0
  | d :: ds => sz d + szs ds
end
mutual
def dpt : D → Nat
  | .lst ds => 1 + dpts ds
  | .tup ds => 1 + dpts ds
  | .dic _ => 1
  | _ => 0
def dpts : List D → Nat
  | [] => 0
  | d :: ds => max (dpt d) (dpts ds)
end
/-- how own instances are shown in X -/
def OwnsX (X : Cx) (k : Nat) (ow : Addr → Option FD) : Prop := ∀ C φ, ow C = some φ → ∃ f fd ps, Own X (L2.CX X.prog X.w) k C f fd ps (spD X.K [] φ) L2.E0
section
variable {X : Cx} {ow : Addr → Option FD} {pins : List (Addr × Obj)} {σ : L2.St} {f H : Hp} {s : Shared} {k : Nat}
theorem kind_lt {a : Addr} {xs ys : List V} (I : Inv X pins σ H s) (h : H a = some (.lst xs)) (h' : TpAt X.K H a ys) : False := by
  obtain ⟨_, _, ⟨o, n, e, c, _⟩, _⟩ := I.list (sql_of h)
  obtain ⟨_, _, ⟨o', e', c', _⟩, _⟩ := I.tuple h'.sqt
  rw [e] at e'
  cases e'
  rw [c] at c'
  exact absurd c' (by decide)
theorem kind_ot {a C dx : Addr} {fs : List (Str × V)} {ys : List V} (I : Inv X pins σ H s) (h : H a = some (.ins C dx fs)) (h' : TpAt X.K H a ys) : False := by
  obtain ⟨_, _, i1⟩ := ins_look I h
  obtain ⟨_, _, ⟨o', e', c', _⟩, _⟩ := I.tuple h'.sqt
  have z := i1.at_
  rw [e'] at z
  cases z
  have z2 := i1.cls
  rw [c'] at z2
  cases z2
theorem kind_dt {a : Addr} {ks : List (Key × V)} {ys : List V} (I : Inv X pins σ H s) (h : H a = some (.dK ks)) (h' : TpAt X.K H a ys) : False := by
  obtain ⟨_, _, vs, _, o, es, ep, e, ⟨c, _⟩, _⟩ := dk_of I.hok h
  obtain ⟨_, _, ⟨o', e', c', _⟩, _⟩ := I.tuple h'.sqt
  rw [e] at e'
  cases e'
  rw [c] at c'
  exact absurd c' (by decide)
theorem shw_dic {a : Addr} (h : H a = some (.dK [])) : Shw X (k + 1) [a] H (.ref a) (dictText []) := by
  intro b A g u pins σ s H1 Q hz r c e1 I rv hQ
  obtain rfl : u = Value.ref a := rv
  obtain ⟨_, hsys, vs, kv, o, es, ep, h1, ⟨h2, _⟩, h3, _, hp, _⟩ := dk_of I.hok (e1 _ _ h)
  cases kv
  generalize hes : es.toList = el at hp
  cases hp
  have K1 := ReprK.dict (prog := X.prog) (w := X.w) (as := []) (h₀ := s.heap) (d := 0) (ps := []) h1 h2 h3 hsys (by simp) (by rw [hes]; exact .nil)
  have hu := r.rm.un
  exact K1 b hz A g X.xe s Q r.gd c (by omega) (fun _ _ e => e) fun h' tk hk => hQ _ H1 (Ex.refl _) (I.kept hk)
mutual
theorem usz (I : Inv X pins σ H s) (e : Ex f H) : ∀ {d d' : D} {v : V} {t t' : Str}, Shn ow d t → Shn ow d' t' → Rep X.K f d v → Rep X.K f d' v → sz d = sz d'
  | .lst ds, d', v, t, t', ⟨ts, g, _⟩, g', ⟨a, xs, h1, h2, h3, _⟩, r' => by
    cases d' with
    | lst es =>
      obtain ⟨ts', g', _⟩ := g'
      obtain ⟨b, ys, q1, q2, q3, _⟩ := r'
      rw [h1] at q1
      cases q1
      rw [h2] at q2
      cases q2
      have := uszs I e g g' h3 q3
      show 1 + szs ds = 1 + szs es
      omega
    | tup es =>
      obtain ⟨b, ys, q1, q2, q3, _⟩ := r'
      rw [h1] at q1
      cases q1
      exact (kind_lt I (e _ _ h2) (e.tp q2)).elim
    | obj C fs =>
      obtain ⟨b, dx, ys, q1, q2, _⟩ := r'
      rw [h1] at q1
      cases q1
      rw [h2] at q2
      cases q2
    | dic fs =>
      obtain ⟨b, ys, q1, q2, _⟩ := r'
      rw [h1] at q1
      cases q1
      rw [h2] at q2
      cases q2
    | non => rw [h1] at r'; cases r'
    | bl _ => rw [h1] at r'; cases r'
    | int _ => rw [h1] at r'; cases r'
    | str _ => rw [h1] at r'; cases r'.1
    | _ => exact g'.elim
  | .tup ds, d', v, t, t', ⟨ts, g, _⟩, g', ⟨a, xs, h1, h2, h3, _⟩, r' => by
    cases d' with
    | tup es =>
      obtain ⟨ts', g', _⟩ := g'
      obtain ⟨b, ys, q1, q2, q3, _⟩ := r'
      rw [h1] at q1
      cases q1
      have z := I.tuple_inj (e.tp h2).sqt (e.tp q2).sqt
      subst z
      have := uszs I e g g' h3 q3
      show 1 + szs ds = 1 + szs es
      omega
    | lst es =>
      obtain ⟨b, ys, q1, q2, q3, _⟩ := r'
      rw [h1] at q1
      cases q1
      exact (kind_lt I (e _ _ q2) (e.tp h2)).elim
    | obj C fs =>
      obtain ⟨b, dx, ys, q1, q2, _⟩ := r'
      rw [h1] at q1
      cases q1
      exact (kind_ot I (e _ _ q2) (e.tp h2)).elim
    | dic fs =>
      obtain ⟨b, ys, q1, q2, _⟩ := r'
      rw [h1] at q1
      cases q1
      exact (kind_dt I (e _ _ q2) (e.tp h2)).elim
    | non => rw [h1] at r'; cases r'
    | bl _ => rw [h1] at r'; cases r'
    | int _ => rw [h1] at r'; cases r'
    | str _ => rw [h1] at r'; cases r'.1
    | _ => exact g'.elim
  | .obj C fs, d', v, t, t', g, g', ⟨a, dx, ys, h1, h2, _⟩, r' => by
    cases d' with
    | tup es =>
      obtain ⟨b, ys, q1, q2, q3, _⟩ := r'
      rw [h1] at q1
      cases q1
      exact (kind_ot I (e _ _ h2) (e.tp q2)).elim
    | lst es =>
      obtain ⟨b, ys, q1, q2, q3, _⟩ := r'
      rw [h1] at q1
      cases q1
      rw [h2] at q2
      cases q2
    | dic es =>
      obtain ⟨b, ys, q1, q2, _⟩ := r'
      rw [h1] at q1
      cases q1
      rw [h2] at q2
      cases q2
    | _ => rfl
  | .dic ks, d', v, t, t', g, g', ⟨a, ys, h1, h2, _⟩, r' => by
    cases d' with
    | tup es =>
      obtain ⟨b, ys, q1, q2, q3, _⟩ := r'
      rw [h1] at q1
      cases q1
      exact (kind_dt I (e _ _ h2) (e.tp q2)).elim
    | lst es =>
      obtain ⟨b, ys, q1, q2, q3, _⟩ := r'
      rw [h1] at q1
      cases q1
      rw [h2] at q2
      cases q2
    | obj C es =>
      obtain ⟨b, dx, ys, q1, q2, _⟩ := r'
      rw [h1] at q1
      cases q1
      rw [h2] at q2
      cases q2
    | dic es => rfl
    | non => rw [h1] at r'; cases r'
    | bl _ => rw [h1] at r'; cases r'
    | int _ => rw [h1] at r'; cases r'
    | str _ => rw [h1] at r'; cases r'.1
    | _ => exact g'.elim
  | .non, d', v, t, t', g, g', h1, r' => by
    cases d' with
    | tup es =>
      obtain ⟨b, ys, q1, _⟩ := r'
      cases h1
      cases q1
    | lst es =>
      obtain ⟨b, ys, q1, _⟩ := r'
      cases h1
      cases q1
    | dic es =>
      obtain ⟨b, ys, q1, _⟩ := r'
      cases h1
      cases q1
    | _ => rfl
  | .bl _, d', v, t, t', g, g', h1, r' => by
    cases d' with
    | tup es =>
      obtain ⟨b, ys, q1, _⟩ := r'
      cases h1
      cases q1
    | lst es =>
      obtain ⟨b, ys, q1, _⟩ := r'
      cases h1
      cases q1
    | dic es =>
      obtain ⟨b, ys, q1, _⟩ := r'
      cases h1
      cases q1
    | _ => rfl
  | .int _, d', v, t, t', g, g', h1, r' => by
    cases d' with
    | tup es =>
      obtain ⟨b, ys, q1, _⟩ := r'
      cases h1
      cases q1
    | lst es =>
      obtain ⟨b, ys, q1, _⟩ := r'
      cases h1
      cases q1
    | dic es =>
      obtain ⟨b, ys, q1, _⟩ := r'
      cases h1
      cases q1
    | _ => rfl
  | .str _, d', v, t, t', g, g', ⟨h1, _⟩, r' => by
    cases d' with
    | tup es =>
      obtain ⟨b, ys, q1, _⟩ := r'
      cases h1
      cases q1
    | lst es =>
      obtain ⟨b, ys, q1, _⟩ := r'
      cases h1
      cases q1
    | dic es =>
      obtain ⟨b, ys, q1, _⟩ := r'
      cases h1
      cases q1
    | _ => rfl
  | .ty _, _, _, _, _, g, _, _, _ => g.elim
  | .ref _, _, _, _, _, g, _, _, _ => g.elim
theorem uszs (I : Inv X pins σ H s) (e : Ex f H) : ∀ {ds ds' : List D} {xs : List V} {ts ts' : List Str}, Shns ow ds ts → Shns ow ds' ts' → Reps X.K f ds xs → Reps X.K f ds' xs → szs ds = szs ds'
  | [], ds', xs, ts, ts', g, g', h, h' => by
    cases h
    cases ds' with
    | nil => rfl
    | cons d ds => obtain ⟨x, r, q, _⟩ := h'; cases q
  | d :: ds, ds', xs, ts, ts', ⟨t, r, _, g1, g2⟩, g', ⟨x, rx, h1, h2, h3⟩, h' => by
    subst h1
    cases ds' with
    | nil => cases h'
    | cons d' ds' =>
      obtain ⟨x', rx', q, q2, q3⟩ := h'
      cases q
      obtain ⟨t', r', _, g1', g2'⟩ := g'
      have a := usz I e g1 g1' h2 q2
      have b := uszs I e g2 g2' h3 q3
      show sz d + szs ds = sz d' + szs ds'
      omega
end
/-- the lists and tuples that stand in it -/
def AdOk (X : Cx) (ow : Addr → Option FD) (f : Hp) (n : Nat) (as : List Addr) : Prop := ∀ a ∈ as, ∃ d t, Shn ow d t ∧ Rep X.K f d (.ref a) ∧ 0 < sz d ∧ sz d ≤ n
theorem shwAll_mono {k k' : Nat} {as as' : List Addr} (hk : k ≤ k') (ha : ∀ a ∈ as, a ∈ as') : ∀ {xs : List V} {ts : List Str}, ShwAll X k as H xs ts → ShwAll X k' as' H xs ts
  | _, _, .nil => .nil
  | _, _, .cons h r => .cons (h.mono hk ha) (shwAll_mono hk ha r)
theorem shw_obj (O : OwnsX X k ow) (e : Ex f H) {C : Addr} {fs : List (Str × D)} {t : Str} {v : V} (g : Shn ow (.obj C fs) t) (r : Rep X.K f (.obj C fs) v) (nt : ∀ a o, f a = some o → isTbl o = false) : Shw X k [] H v t := by
  obtain ⟨φ, h1, h2⟩ := g
  obtain ⟨fn, fd, ps, O⟩ := O C φ h1
  have r0 := r
  obtain ⟨a, dx, xs, rfl, q1, _⟩ := r
  refine Shw.own O (e _ _ q1) fun H1 e1 => ?_
  refine ⟨f, 0, 0, [.obj C fs], fun d _ => d = .str t, fun _ _ _ => False, e.trans e1, ⟨.inl rfl, fun _ z => (by cases z), nt⟩, .one r0, h2 _ _ rfl, fun d n' v f' H' hd _ fr _ rv => ?_, fun _ _ _ _ _ _ _ z => z.elim⟩
  subst hd
  refine ⟨rv.1, fun b o hb => ?_⟩
  cases hf : f b with
  | none => exact fr.old b o hb hf (fun z => z.1 rfl) (.inl rfl)
  | some o' =>
    have : H1 b = some o' := (e.trans e1) b o' hf
    rw [hb] at this
    cases this
    exact fr.inn b o (fr.sub b o hf)
mutual
theorem shw_of (O : OwnsX X k ow) (I : Inv X pins σ H s) (e : Ex f H) (nt : ∀ a o, f a = some o → isTbl o = false) : ∀ {d : D} {v : V} {t : Str}, Shn ow d t → Rep X.K f d v → ∃ as, Shw X (k + dpt d) as H v t ∧ AdOk X ow f (sz d) as
  | .non, v, t, g, r => by
    cases g; cases r
    exact ⟨[], .non, fun _ z => by cases z⟩
  | .bl b, v, t, g, r => by
    cases g; cases r
    exact ⟨[], .bl, fun _ z => by cases z⟩
  | .int i, v, t, ⟨g0, g⟩, r => by
    cases g; cases r
    exact ⟨[], .int g0, fun _ z => by cases z⟩
  | .str z, v, t, ⟨g0, g⟩, r => by
    cases g
    obtain ⟨rfl, _⟩ := r
    exact ⟨[], .str g0, fun _ z => by cases z⟩
  | .obj C fs, v, t, g, r => ⟨[], (shw_obj O e g r nt).mono (Nat.le_add_right _ _) (fun _ z => z), fun _ z => by cases z⟩
  | .lst ds, v, t, ⟨ts, g, ht⟩, ⟨a, xs, h1, h2, h3, h4⟩ => by
    subst ht h1
    obtain ⟨as, q1, q2⟩ := shws_of O I e nt g h3
    have na : a ∉ as := fun z => by
      obtain ⟨d', t', g', r', _, l⟩ := q2 a z
      have := usz I e (d := .lst ds) ⟨ts, g, rfl⟩ g' ⟨a, xs, rfl, h2, h3, h4⟩ r'
      have e1 : sz (.lst ds) = 1 + szs ds := rfl
      omega
    refine ⟨a :: as, (Shw.list (sql_of (e _ _ h2)) q1 na).mono (Nat.le_of_eq (by show k + dpts ds + 1 = k + (1 + dpts ds); omega)) (fun _ z => z), fun b hb => ?_⟩
    have e1 : sz (.lst ds) = 1 + szs ds := rfl
    rcases List.mem_cons.mp hb with rfl | hb
    · exact ⟨.lst ds, _, ⟨ts, g, rfl⟩, ⟨b, xs, rfl, h2, h3, h4⟩, by omega, Nat.le_refl _⟩
    · obtain ⟨d', t', g', r', z, l⟩ := q2 b hb
      exact ⟨d', t', g', r', z, by omega⟩
  | .tup ds, v, t, ⟨ts, g, ht⟩, ⟨a, xs, h1, h2, h3, h4⟩ => by
    subst ht h1
    obtain ⟨as, q1, q2⟩ := shws_of O I e nt g h3
    have na : a ∉ as := fun z => by
      obtain ⟨d', t', g', r', _, l⟩ := q2 a z
      have := usz I e (d := .tup ds) ⟨ts, g, rfl⟩ g' ⟨a, xs, rfl, h2, h3, h4⟩ r'
      have e1 : sz (.tup ds) = 1 + szs ds := rfl
      omega
    refine ⟨a :: as, (Shw.tup (e.tq h2) q1 na).mono (Nat.le_of_eq (by show k + dpts ds + 1 = k + (1 + dpts ds); omega)) (fun _ z => z), fun b hb => ?_⟩
    have e1 : sz (.tup ds) = 1 + szs ds := rfl
    rcases List.mem_cons.mp hb with rfl | hb
    · exact ⟨.tup ds, _, ⟨ts, g, rfl⟩, ⟨b, xs, rfl, h2, h3, h4⟩, by omega, Nat.le_refl _⟩
    · obtain ⟨d', t', g', r', z, l⟩ := q2 b hb
      exact ⟨d', t', g', r', z, by omega⟩
  | .ty _, _, _, g, _ => g.elim
  | .ref _, _, _, g, _ => g.elim
  | .dic ks, v, t, ⟨g0, g⟩, ⟨a, xs, h1, h2, h3, h4⟩ => by
    subst g h1 g0
    cases h3
    refine ⟨[a], shw_dic (e _ _ h2), fun b hb => ?_⟩
    rcases List.mem_cons.mp hb with rfl | hb
    · exact ⟨.dic [], _, ⟨rfl, rfl⟩, ⟨b, [], rfl, h2, rfl, h4⟩, Nat.one_pos, Nat.le_refl _⟩
    · cases hb
theorem shws_of (O : OwnsX X k ow) (I : Inv X pins σ H s) (e : Ex f H) (nt : ∀ a o, f a = some o → isTbl o = false) : ∀ {ds : List D} {xs : List V} {ts : List Str}, Shns ow ds ts → Reps X.K f ds xs → ∃ as, ShwAll X (k + dpts ds) as H xs ts ∧ AdOk X ow f (szs ds) as
  | [], xs, ts, g, r => by
    cases g; cases r
    exact ⟨[], .nil, fun _ z => by cases z⟩
  | d :: ds, xs, ts, ⟨t, r, ht, g1, g2⟩, ⟨x, rx, h1, h2, h3⟩ => by
    subst ht h1
    obtain ⟨as, p1, p2⟩ := shw_of O I e nt g1 h2
    obtain ⟨bs, q1, q2⟩ := shws_of O I e nt g2 h3
    have e1 : szs (d :: ds) = sz d + szs ds := rfl
    have e2 : dpts (d :: ds) = max (dpt d) (dpts ds) := rfl
    refine ⟨as ++ bs, .cons (p1.mono (by rw [e2]; omega) fun _ z => List.mem_append_left _ z) (shwAll_mono (by rw [e2]; omega) (fun _ z => List.mem_append_right _ z) q1), fun a ha => ?_⟩
    rcases List.mem_append.mp ha with z | z
    · obtain ⟨d', t', g', r', z, l⟩ := p2 a z
      exact ⟨d', t', g', r', z, by omega⟩
    · obtain ⟨d', t', g', r', z, l⟩ := q2 a z
      exact ⟨d', t', g', r', z, by omega⟩
end
/-- repr(d) -/
def bRepr (ow : Addr → Option FD) : DB := fun as k => match as with
  | [d] => (∃ t, (Shn ow d t ∧ t.length ≤ sizeLine ∧ dpt d ≤ 12) ∧ k (.str t)) ∧ (match d with
    | .int _ => True
    | .lst _ => True
    | .tup _ => True
    | .obj _ _ => True
    | _ => False)
  | _ => False
/-- .. the frozen part bears no table -/
def rBn (K : PySem.W.Frag) (o : DB) : RC := fun vs H Q => ∃ f ds Kd, (∀ a o, f a = some o → isTbl o = false) ∧ Ex f H ∧ Reps K f ds vs ∧ o ds Kd ∧ ∀ d v f' H', Kd d → Gro f H f' H' → Rep K f' d v → Q v H'
theorem shwT_of (O : OwnsX X k ow) (hG : X.A.guards = some []) (hr : Room (k + 14) X.A) (I : Inv X pins σ H s) (e : Ex f H) (nt : ∀ a o, f a = some o → isTbl o = false) {d : D} {v : V} {t : Str} (g : Shn ow d t) (hl : t.length ≤ sizeLine) (hd : dpt d ≤ 12) (r : Rep X.K f d v)
    (hs : match d with
    | .int _ => False
    | .lst _ => True
    | .tup _ => True
    | .obj _ _ => True
    | _ => False) : ShwT X H v t := by
  cases d with
  | lst ds =>
    obtain ⟨ts, g, rfl⟩ := g
    obtain ⟨a, xs, rfl, h2, h3, h4⟩ := r
    obtain ⟨as, q1, q2⟩ := shws_of O I e nt g h3
    have na : a ∉ as := fun z => by
      obtain ⟨d', t', g', r', _, l⟩ := q2 a z
      have := usz I e (d := .lst ds) ⟨ts, g, rfl⟩ g' ⟨a, xs, rfl, h2, h3, h4⟩ r'
      have e1 : sz (.lst ds) = 1 + szs ds := rfl
      omega
    have e2 : dpt (.lst ds) = 1 + dpts ds := rfl
    exact ShwT.list hG (hr.mono (by omega)) (sql_of (e _ _ h2)) q1 na hl
  | tup ds =>
    obtain ⟨ts, g, rfl⟩ := g
    obtain ⟨a, xs, rfl, h2, h3, h4⟩ := r
    obtain ⟨as, q1, q2⟩ := shws_of O I e nt g h3
    have na : a ∉ as := fun z => by
      obtain ⟨d', t', g', r', _, l⟩ := q2 a z
      have := usz I e (d := .tup ds) ⟨ts, g, rfl⟩ g' ⟨a, xs, rfl, h2, h3, h4⟩ r'
      have e1 : sz (.tup ds) = 1 + szs ds := rfl
      omega
    have e2 : dpt (.tup ds) = 1 + dpts ds := rfl
    exact ShwT.tup hG (hr.mono (by omega)) (e.tq h2) q1 na hl
  | obj C fs =>
    obtain ⟨φ, h1, h2⟩ := g
    obtain ⟨fn, fd, ps, O⟩ := O C φ h1
    have r0 := r
    obtain ⟨a, dx, xs, rfl, q1, _⟩ := r
    refine ShwT.own (hr.mono (by omega)) O (e _ _ q1) ⟨f, 0, 0, [.obj C fs], fun d _ => d = .str t, fun _ _ _ => False, e, ⟨.inl rfl, fun _ z => (by cases z), nt⟩, .one r0, h2 _ _ rfl, fun d n' v f' H' hd _ fr _ rv => ?_, fun _ _ _ _ _ _ _ z => z.elim⟩
    subst hd
    refine ⟨rv.1, fun b o hb => ?_⟩
    cases hf : f b with
    | none => exact fr.old b o hb hf (fun z => z.1 rfl) (.inl rfl)
    | some o' =>
      have : H b = some o' := e b o' hf
      rw [hb] at this
      cases this
      exact fr.inn b o (fr.sub b o hf)
  | _ => exact hs.elim
theorem c_repr (O : OwnsX X k ow) (hG : X.A.guards = some []) (hr : Room (k + 14) X.A) : CallR X (.builtin "repr") (rBn X.K (bRepr ow)) := fun pins s σ H xs us Q I r ⟨f, ds, Kd, nt, e, r1, ho, hQ⟩ => by
  unfold bRepr at ho
  split at ho
  · rename_i d
    obtain ⟨v, _, rfl, r1, rfl⟩ := r1
    obtain ⟨⟨t, ⟨g, hl, hd⟩, hk⟩, hs⟩ := ho
    cases d with
    | int i =>
      obtain ⟨g0, rfl⟩ := g
      cases r1
      exact SkE.call_repr_int pins s σ H _ us Q I r ⟨i, rfl, g0, hQ _ _ f H hk (Gro.refl e) ⟨rfl, hl⟩⟩
    | lst ds => exact call_reprS pins s σ H _ us Q I r ⟨v, t, rfl, shwT_of O hG hr I e nt g hl hd r1 trivial, fun H' e' => hQ _ _ f H' hk ⟨Ex.refl _, e.trans e', e', fun _ _ _ n => n, fun _ _ => no_new⟩ ⟨rfl, hl⟩⟩
    | tup ds => exact call_reprS pins s σ H _ us Q I r ⟨v, t, rfl, shwT_of O hG hr I e nt g hl hd r1 trivial, fun H' e' => hQ _ _ f H' hk ⟨Ex.refl _, e.trans e', e', fun _ _ _ n => n, fun _ _ => no_new⟩ ⟨rfl, hl⟩⟩
    | obj C fs => exact call_reprS pins s σ H _ us Q I r ⟨v, t, rfl, shwT_of O hG hr I e nt g hl hd r1 trivial, fun H' e' => hQ _ _ f H' hk ⟨Ex.refl _, e.trans e', e', fun _ _ _ n => n, fun _ _ => no_new⟩ ⟨rfl, hl⟩⟩
    | _ => exact hs.elim
  · exact ho.elim
end
section
variable {X : Cx} {T : List (Addr × Str)} {W : WX} {x : Str} {p pos : Pos} {e : Expr} {es : List Expr} {tr : DR}
theorem d_callBn {id : String} {o : DB} (hc : CallR X (.builtin id) (rBn X.K o)) (hg : Gl X x) (hm : X.mg x = none) (hv : bootBuiltins x = some (.builtin id)) (ha : PA X (e :: es) (lA X.K T W tr)) (hn : x ≠ "__name__" := by decide) (hdb : (x == ("__debug__" : Str)) = false := by decide)
    (he : starEach (e :: es) X.env = (false, eval e X.env) :: starEach es X.env := by rfl) (hpl : (backTo pos (starEach es X.env)).any (·.1) = false := by rfl) : PE X (.Call (.Name x p) (e :: es) [] pos) (lE X.K T W (dCB o tr)) :=
  (pe_callB hc hg hm hv ha hn hdb he hpl).up fun σ H Q ⟨g, f, s, XQ, Kd, ok, xo, h, hQ⟩ => ⟨g, f, s, XQ, _, ok, xo, h, fun ds s1 vs f1 H1 hx e1 ok1 r1 => ⟨f1, ds, _, ok1.wo.nt, ok1.fr.inn, r1, hx, fun d v f' H' hk gr rr => hQ d s1 v f' H' hk (e1.trans gr.sub) (ok1.gro gr) rr⟩⟩
end
end DL

/-! DL: what is heard of a lambda. -/
namespace DL
open PySem PySem.Spec PyProof.Rows L2 Z LamX

section
variable {K : PySem.W.Frag} {T : List (Addr × Str)} {g : Gd} {f H f' H' : Hp} {σ : L2.St} {s s' : S}
/-- from here on -/
theorem Okay.sub (k : Okay K T g f H σ s) : Okay K T { g with f := f } f H σ s :=
  ⟨⟨Ex.refl _, k.fr.inn, fun a o h n x t => k.fr.old a o h (k.fr.sub.free n) x t, fun _ _ _ _ n => n, k.fr.there⟩, k.px, k.pq, k.wo, k.len, k.val, k.own, k.rs, k.one⟩
theorem Okay.unsub (k : Okay K T g f H σ s) (k' : Okay K T { g with f := f } f' H' σ s') : Okay K T g f' H' σ s' ∧ Ex f f' :=
  ⟨⟨⟨k.fr.sub.trans k'.fr.sub, k'.fr.inn, fun a o h n x t => k'.fr.old a o h (k.fr.out a o h t n) x t, fun a o h t n => k'.fr.out a o h t (k.fr.out a o h t n), k'.fr.there⟩, k'.px, k'.pq, k'.wo, k'.len, k'.val, k'.own, k'.rs, k'.one⟩, k'.fr.sub⟩
theorem Gro.at_ {p : Addr} {u : HO} (h : Ex f H) (hp : H p = none) (e : Ex H H') (h' : H' p = some u) (ht : isTbl u = false := by rfl) : Gro f H (upd f p u) H' := by
  have hf : f p = none := h.free hp
  refine ⟨Ex.new hf, fun a o ha => ?_, e, fun a o ha n => ?_, fun a o ha n => ?_⟩
  · by_cases z : a = p
    · subst z
      rw [upd_same] at ha
      cases ha
      exact h'
    · rw [upd_ne z] at ha
      exact e _ _ (h _ _ ha)
  · rw [upd_ne (ne_of_none ha hp)]
    exact n
  · by_cases z : a = p
    · subst z
      rw [upd_same] at ha
      cases ha
      exact ht
    · rw [upd_ne z, n] at ha
      cases ha
end
def hearD (Cw Cv Cu : Addr) (k : D → S → Prop) : XD := fun cls fs s =>
  (cls = .ref Cw ∧ ∃ v, fs = [(("width" : Str), v)] ∧ k (.tup [.str "width", v]) s) ∨ (cls = .ref Cv ∧ ∃ v, fs = [(("value" : Str), v)] ∧ k (.tup [.str "word", v]) s) ∨
  (cls = .ref Cu ∧ ∃ u v, fs = [(("other" : Str), v), (("one" : Str), u)] ∧ k (.tup [.str "unlike", u, v]) s)
def dHeard (Cw Cv Cu : Addr) (t : DE) (s : S) (k : D → S → Prop) (_ : XD) : Prop := t s (fun d s1 => k (.tup [.str "made", d]) s1) (hearD Cw Cv Cu k)
section
variable {X : Cx} {T : List (Addr × Str)} {W : WX} {e : Expr} {Cw Cv Cu : Addr} {t : DE}
theorem tell_of {K : PySem.W.Frag} {g : Gd} {f H : Hp} {σ : L2.St} {s : S} {Kd : D → S → Prop} {Q : VK} {z : Str} {ds : List D} {vs : List V} (ok : Okay K T g f H σ s) (r : Reps K f ds vs) (hz : z.length ≤ sizeLine) (hl : ds.length < 100) (h : Kd (.tup (.str z :: ds)) s)
    (hQ : ∀ d s' v f' H', Kd d s' → Ex f f' → Okay K T g f' H' σ s' → Rep K f' d v → Q v H') : Tell Q z vs H := fun p H2 hp e h2 => by
  have gr := Gro.at_ ok.fr.inn hp e h2
  have big : 100 ≤ sizeLine := by decide
  exact hQ _ s (.ref p) _ H2 h gr.sub (ok.gro gr) ⟨p, .str z :: vs, rfl, tp_of upd_same, ⟨.str z, vs, rfl, ⟨rfl, hz⟩, r.ex gr.sub⟩, by rw [List.length_cons]; omega⟩
theorem d_heard (h : PE X e (tLam T (TTh Cw Cv Cu) fun E => lE X.K T (wxE E) t)) (hT : T ≠ []) : PE X e (lE X.K T W (dHeard Cw Cv Cu t)) :=
  h.up fun σ H Q ⟨g, f, s, XQ, Kd, ok, xo, h, hQ⟩ => s_lam ok.wo.tab fun H1 tx tb => by
    have ok1 := ok.tx hT tx tb
    have big : 100 ≤ sizeLine := by decide
    refine ⟨{ g with f := f }, f, s, hearD Cw Cv Cu Kd, fun d s1 => Kd (.tup [.str "made", d]) s1, ok1.sub, fun cls fs s1 f1 H1 xs dd ok2 hd hr hx => ?_, h, fun d s1 v f1 H1 hk e1 ok2 r => ?_⟩
    · replace hd := ok2.fr.inn _ _ hd
      obtain ⟨ok3, e3⟩ := ok1.unsub ok2
      have hQ' : ∀ d s' v f' H', Kd d s' → Ex f1 f' → Okay X.K T g f' H' σ s' → Rep X.K f' d v → Q v H' := fun d s' v f' H' hk e ok r => hQ d s' v f' H' hk (e3.trans e) ok r
      rcases hx with ⟨rfl, v, rfl, hx⟩ | ⟨rfl, v, rfl, hx⟩ | ⟨rfl, u, v, rfl, hx⟩
      · obtain ⟨x, _, rfl, r1, rfl⟩ := hr
        exact .inl ⟨rfl, dd, x, rfl, hd, tell_of ok3 (.one r1) (by decide +kernel) (by show 1 < 100; omega) hx hQ'⟩
      · obtain ⟨x, _, rfl, r1, rfl⟩ := hr
        exact .inr (.inl ⟨rfl, dd, x, rfl, hd, tell_of ok3 (.one r1) (by decide +kernel) (by show 1 < 100; omega) hx hQ'⟩)
      · obtain ⟨x, _, rfl, r1, y, _, rfl, r2, rfl⟩ := hr
        exact .inr (.inr ⟨rfl, dd, y, x, rfl, hd, tell_of ok3 (reps2 r2 r1) (by decide +kernel) (by show 2 < 100; omega) hx hQ'⟩)
    · obtain ⟨ok3, e3⟩ := ok1.unsub ok2
      exact made_q (tell_of ok3 (.one r) (by decide +kernel) (by show 1 < 100; omega) hk fun d s' v f' H' hk e ok r => hQ d s' v f' H' hk (e3.trans e) ok r)
end
section
variable {P : Program} {w : World} {K : PySem.W.Frag} {mg : Str → Option Value} {base : Heap} {T : List (Addr × Str)}
/-- a def that makes lambdas -/
theorem okDGL {x ql : Str} {pr : Arguments} {bd : List Stmt} {sc : Scope} {dvs : List V} {kws : List (Str × V)} {f : Addr} {fd : FuncData} {N ps : List Str} {k : Nat} {φ : FD} (F : FunD K x ql pr bd sc dvs kws f fd) (S : FnScope N ps sc) (hc : codeB K f = true)
    (hl : ∀ ds p n kd xd, φ ds p n kd xd → ds.length = ps.length)
    (hb : ∃ t : DS, (∀ (A : Around) (outer : List Env) (s : Shared) (H : Hp) (E : XK), Room k (A.deeper (envOfC ql sc s.heap.objs.size f (.ref (codeAd K f)))) → (A.deeper (envOfC ql sc s.heap.objs.size f (.ref (codeAd K f)))).guards = some [] →
        PSs (cxOf (L2.CX P w) P w K mg base N ql sc f (.ref (codeAd K f)) A outer s H E) bd (lS K T (wxE E) t)) ∧
      ∀ ds p n kd xd, φ ds p n kd xd → t (S0 N ds p n) (E0 kd xd)) : FnG P w K mg base (k + 1) f fd ps (spD K T φ) := by
  obtain ⟨t, h1, h2⟩ := hb
  refine okGL F S hc (spD_len hl) (fun A outer s H vs Q E hr hG h => ⟨_, h1 A outer s H E hr hG, ?_⟩)
  exact run0 (X := cxOf (L2.CX P w) P w K mg base N ql sc f (.ref (codeAd K f)) A outer s H E) (bd := bd) h2 h
end
end DL

/-! DL: operators of own classes beside anything. -/
namespace DL
open PySem PySem.Spec PyProof.Rows L2 Z LamX
section
open PySem.W
variable {prog : Program} {w : World} {A : Around} {E : Value → Shared → Prop} {s : Shared} {K : Frag} {x C L f : Addr} {h₀ : Heap} {m : Str → Option Value} {ox : Obj} {od : Option Obj} {T : String}
theorem ksp_binL {op : Operator} {b : Value} {fo ro rc : Option Value} {Q : Value → Shared → Prop} (F : PyProof.Rows.Fr h₀ L s.heap m) (X₀ : K.In h₀) (I : PySem.W.InstAt s.heap x ox C od) (hb : PySem.W.Looks (model prog w) s.heap (typeOf b) (.type T)) (hc : selfFirst K C = true)
    (hs : findIn K (.ref C) (PySem.dunder op.info.2) = some (some (.ref f))) (hf : isFn K (.ref f) = true) (hr : findIn K (.ref C) (dunderR op.info.2) = some rc) (hp : rc = none ∨ ∃ g : Addr, rc = some (.ref g))
    (h1 : findIn K (.type T) (PySem.dunder op.info.2) = some fo) (h2 : findIn K (.type T) (dunderR op.info.2) = some ro) (hsub : subIn K (.type T) (.ref C) = some false)
    (h : wpAny (model prog w) A (call (.ref f) [.ref x, b]) (PySem.W.CmpBack Q) E s) : wpAny (model prog w) A (binaryOp op (.ref x) b) Q E s := by
  have X := X₀.keeps F.keep
  obtain ⟨cd, rest, hcd, hm⟩ := ksp_first hc
  rcases hi : op.info with ⟨sym, nm'⟩
  rw [hi] at hs hr h1 h2
  dsimp only at hs hr h1 h2
  have one := ksp_try X I hs hf h
  obtain ⟨hh, g, d, tt, os⟩ := s
  have L1 : PySem.W.Looks (model prog w) hh (typeOf (.ref x)) (.ref C) := I.type
  have L2 : PySem.W.Looks (model prog w) hh (typeOf b) (.type T) := hb
  have L3 : PySem.W.Looks (model prog w) hh (fillsNumberSlot (.ref C) nm') true := fills_K X hcd hm hs
  have L4 : PySem.W.Looks (model prog w) hh (fillsNumberSlot (.type T) nm') ((fo.isSome && !isSeqSlot fo) || (ro.isSome && !isSeqSlot ro)) := ksp_fillsT X h1 h2
  have L5 : PySem.W.Looks (model prog w) hh (isSubtype (.type T) (.ref C)) false := looks_subIn X hsub
  have L6 : PySem.W.Looks (model prog w) hh (numberSlotInPython (.ref C) nm') true := ksp_inPy X hs hr hp
  have L7 : PySem.W.Looks (model prog w) hh (numberSlotInPython (.type T) nm') false := PySem.W.Looks.of_pure rfl
  have L8 : PySem.W.Looks (model prog w) hh (typeLookup (.type T) (dunderR nm')) ro := looks_findIn X h2
  generalize ((fo.isSome && !isSeqSlot fo) || (ro.isSome && !isSeqSlot ro)) = right at L4
  have hne : (Value.ref C == Value.type T) = false := Bool.eq_false_iff.mpr fun q => by cases beq_iff_eq.mp q
  simp only [binaryOp, hi]
  refine wpAny_holding (wpAny_bind ?_)
  unfold binaryOp1
  refine wpAny_bind (L1.at (wpAny_bind (L2.at (wpAny_bind (L3.at ?_)))))
  simp only [hne, Bool.false_eq_true, if_false]
  cases right with
  | false =>
    ksp_lk
    refine wpAny_mono one (fun r s' hr' => ?_) fun _ _ e => e
    obtain ⟨v, rfl, hq⟩ := hr'
    ksp_lk
    exact hq
  | true =>
    ksp_lk
    refine wpAny_mono one (fun r s' hr' => ?_) fun _ _ e => e
    obtain ⟨v, rfl, hq⟩ := hr'
    ksp_lk
    exact hq
end
section
variable {X : Cx} {T : List (Addr × Str)} {pins : List (Addr × Obj)} {σ : L2.St} {f0 H : Hp} {s : Shared} {C f : Addr} {k : Nat} {fd : FuncData} {ps : List Str} {φ : FD} {E : XK}
/-- the built-in class of data -/
theorem tyS_looks (I : Inv X pins σ H s) (e : Ex f0 H) {d : D} {v : V} {u : Value} {t : String} (r : Rep X.K f0 d v) (ru : RelV v u) (h : tyS d = some t) : PySem.W.Looks (model X.prog X.w) s.heap (typeOf u) (.type t) := by
  cases d with
  | non => cases h; cases r; cases ru; exact PySem.W.Looks.of_pure rfl
  | bl b => cases h; cases r; cases ru; exact PySem.W.Looks.of_pure rfl
  | int i => cases h; cases r; obtain ⟨_, rfl⟩ := ru; exact PySem.W.Looks.of_pure rfl
  | str z => cases h; obtain ⟨rfl, _⟩ := r; obtain ⟨_, rfl⟩ := ru; exact PySem.W.Looks.of_pure rfl
  | lst ds =>
    cases h
    obtain ⟨a, xs, rfl, h1, _⟩ := r
    cases ru
    obtain ⟨_, _, ⟨o, n, eo, c, _⟩, _⟩ := I.list (sql_of (e _ _ h1))
    exact fun A Q E s k q => wpAny_typeOf_ref (k _ _ eo) (by rw [c]; exact q)
  | tup ds =>
    cases h
    obtain ⟨a, xs, rfl, h1, _⟩ := r
    cases ru
    obtain ⟨_, _, ⟨o, eo, c, _⟩, _⟩ := I.tuple (e.tq h1)
    exact fun A Q E s k q => wpAny_typeOf_ref (k _ _ eo) (by rw [c]; exact q)
  | dic ds =>
    cases h
    obtain ⟨a, xs, rfl, h1, _⟩ := r
    cases ru
    obtain ⟨_, _, vs, _, o, es, ep, eo, ⟨c, _⟩, _⟩ := dk_of I.hok (e _ _ h1)
    exact fun A Q E s k q => wpAny_typeOf_ref (k _ _ eo) (by rw [c]; exact q)
  | _ => cases h
def tys7 : List String := ["NoneType", "bool", "int", "str", "list", "tuple", "dict"]
theorem tyS_7 {d : D} {t : String} (h : tyS d = some t) : t ∈ tys7 := by cases d <;> cases h <;> decide
/-- a op y -/
def oOV (C : Addr) (φ : FD) : D2X := fun a b k x => isO C a = true ∧ (tyS b).isSome = true ∧ φ [a, b] 0 0 (fun d _ => k d) (fun c fs _ => x c fs)
def sayB7 (K : PySem.W.Frag) (C : Addr) (op : Operator) : Bool := tys7.all fun t => (PySem.W.findIn K (.type t) (PySem.dunder op.info.2)).isSome && (PySem.W.findIn K (.type t) (dunderR op.info.2)).isSome && decide (PySem.W.subIn K (.type t) (.ref C) = some false)
theorem px_ov {op : Operator} {rc : Option Value} (hc : PySem.W.selfFirst X.K C = true) (hs : PySem.W.findIn X.K (.ref C) (PySem.dunder op.info.2) = some (some (.ref f))) (hf : PySem.W.isFn X.K (.ref f) = true)
    (hr2 : PySem.W.findIn X.K (.ref C) (dunderR op.info.2) = some rc) (hp : rc = none ∨ ∃ g : Addr, rc = some (.ref g)) (hsay : sayB7 X.K C op = true)
    (F : FnOk X.prog X.w X.K X.mg X.base (L2.CX X.prog X.w) k f fd ps (spD X.K T φ)) (hr : Room k X.A) (hb : Binds X.K fd ps []) (hx : Passes (L2.CX X.prog X.w) X E) : OpR X (binaryOp op) (rPX X.K T (oOV C φ) E) :=
  fun pins s σ H x y v u Q I rx ry ⟨f, dx, dy, Kd, Xd, e, w, r1, r2, ⟨h1, h2, ho⟩, hK, hX⟩ => by
    obtain ⟨a, d1, fs, rfl, q1⟩ := isO_rep h1 r1
    obtain ⟨t, et⟩ := Option.isSome_iff_exists.mp h2
    have q := List.all_eq_true.mp hsay t (tyS_7 et)
    obtain ⟨qa, q3⟩ := Bool.and_eq_true_iff.mp q
    obtain ⟨qa, q2⟩ := Bool.and_eq_true_iff.mp qa
    obtain ⟨fo, f1⟩ := Option.isSome_iff_exists.mp qa
    obtain ⟨ro, f2⟩ := Option.isSome_iff_exists.mp q2
    obtain rfl : v = Value.ref a := rx
    obtain ⟨ox, od, i1⟩ := ins_look I (e _ _ q1)
    obtain ⟨m, fr⟩ := I.fr
    refine ksp_binL fr I.ok.mod.kin i1 (tyS_looks I e r2 ry et) hc hs hf hr2 hp f1 f2 (of_decide_eq_true q3) (wpAny_mono (run_fn (vs := [.ref a, y]) F hr hb .nil hx I (.cons rfl (.cons ry .nil)) (by simpa using spD0 e w (reps2 r1 r2) ho hK hX)) (fun _ _ q => back_of q) fun _ _ q => q)
/-- a cmp y -/
def notB7 (K : PySem.W.Frag) (C : Addr) : Bool := tys7.all fun t => PySem.W.notFirst K C (.type t)
theorem px_cv {op : CmpOp} (hop : ∀ a b, compareOp op a b = richCompare op a b) (hs : PySem.W.findIn X.K (.ref C) (cmpInfo op).2.1 = some (some (.ref f))) (hf : PySem.W.isFn X.K (.ref f) = true) (hn : notB7 X.K C = true)
    (F : FnOk X.prog X.w X.K X.mg X.base (L2.CX X.prog X.w) k f fd ps (spD X.K T φ)) (hr : Room k X.A) (hb : Binds X.K fd ps []) (hx : Passes (L2.CX X.prog X.w) X E) : OpR X (compareOp op) (rPX X.K T (oOV C φ) E) :=
  fun pins s σ H x y v u Q I rx ry ⟨f, dx, dy, Kd, Xd, e, w, r1, r2, ⟨h1, h2, ho⟩, hK, hX⟩ => by
    obtain ⟨a, d1, fs, rfl, q1⟩ := isO_rep h1 r1
    obtain ⟨t, et⟩ := Option.isSome_iff_exists.mp h2
    obtain rfl : v = Value.ref a := rx
    obtain ⟨ox, od, i1⟩ := ins_look I (e _ _ q1)
    obtain ⟨m, fr⟩ := I.fr
    rw [hop]
    have hu := hr.un
    refine PySem.W.cmp_K (by omega) fr I.ok.mod.kin i1 (tyS_looks I e r2 ry et) (List.all_eq_true.mp hn t (tyS_7 et)) hs hf (wpAny_mono (run_fn (vs := [.ref a, y]) F hr hb .nil hx I (.cons rfl (.cons ry .nil)) (by simpa using spD0 e w (reps2 r1 r2) ho hK hX)) (fun _ _ q => back_of q) fun _ _ q => q)
end
end DL

/-! DL: {}, own lists by index, by +; str of own instances. -/
namespace DL
open PySem PySem.Spec PyProof.Rows L2 Z LamX
section
variable {X : Cx} {T : List (Addr × Str)} {W : WX} {a b e oe ie : Expr} {ta tb te ti : DE} {pos : Pos} {i : Nat}
theorem d_dict0 : PE X (.Dict [] [] pos) (lE X.K T W (dC (.dic []))) :=
  pe_dnewK.up fun σ H Q ⟨g, f, s, XQ, Kd, ok, xo, h, hQ⟩ p hp => by
    have gr := Gro.new (u := .dK []) ok.fr.inn hp
    exact hQ (.dic []) s _ _ _ h gr.sub (ok.gro gr) ⟨p, [], rfl, upd_same, rfl, Nat.zero_le _⟩
/-- name[e] = v, name a list of one's own -/
def gSubO (i : Nat) (ti : DE) (v : D) (s : S) (k : S → Prop) : Prop := lookO s i (fun _ => True) ∧ ti s (fun d s1 => match d, s1.lv[i]? with
  | .int n, some (some (.own b (.lst ds))) => (match ixN ds.length n with
    | some j => k (s1.putO i b (.lst (ds.set j v)))
    | none => False)
  | _, _ => False) noXS
theorem dg_subL (ho : PE X oe (tVar i)) (hi : PE X ie (lE X.K T W0 ti))
    (ha : ∀ v, assign (.Subscript oe ie pos) X.env v = (do
      let ov ← holding [v] (eval oe X.env)
      let iv ← holding [v, ov] (eval ie X.env)
      standAt pos
      holding [v, ov, iv] (setItem ov iv v)
      release [v, ov, iv] []) := by intro _; rfl) : PG X (.Subscript oe ie pos) (lG X.K T [] (gSubO i ti)) := by
  refine ⟨fun pins s σ H x v Q I rx h => (pg_sub ho hi set_list ha).run pins s σ H x v Q I rx ?_⟩
  obtain ⟨g, f, s', d, Kd, ok, r, ⟨h0, h⟩, hQ⟩ := h
  unfold lookO at h0
  split at h0
  · rename_i b0 o0 e0
    obtain ⟨a, h1, h2, _⟩ := ok.own i b0 o0 e0
    refine ⟨.ref a, h1, g, f, s', noXS, _, ok, fun _ _ _ _ _ _ _ _ _ _ z => z.elim, h, fun dn s1 iv f1 H1 hx e1 ok1 r1 => ?_⟩
    split at hx
    · rename_i n b ds e2
      split at hx
      · rename_i j ej
        cases r1
        obtain ⟨a', q1, ⟨q2, xs, q3, q4, q5⟩, _⟩ := ok1.own i b _ e2
        rw [h1] at q1
        cases q1
        refine ⟨a, xs, n, j, rfl, rfl, q3, by rw [q4.len]; exact ej, hQ _ σ f1 _ hx e1 rfl (ok1.mut e2 h1 rfl ⟨q2, _, upd_same, q4.set j (r.ex e1), by rw [List.length_set]; exact q5⟩)⟩
      · exact hx.elim
    · exact hx.elim
  · exact h0.elim
/-- [..] + [..], of one's own -/
def dAddN (ta tb : DE) (s : S) (k : OD → S → Prop) (x : XD) : Prop := ta s (fun a s1 => tb s1 (fun b s2 => match a, b with
  | .lst xs, .lst ys => xs.length + ys.length ≤ sizeLine ∧ k (.lst (xs ++ ys)) s2
  | _, _ => False) x) x
theorem d_addN (ha : PE X a (lE X.K T W ta)) (hb : PE X b (lE X.K T W tb)) : PE X (.BinOp a .Add b pos) (lN X.K T W (dAddN ta tb)) :=
  (pe_op op_cat ha hb).up fun σ H Q ⟨g, f, s, XQ, Kd, ok, xo, h, hQ⟩ => ⟨g, f, s, XQ, _, ok, xo, h, fun x s1 v f1 H1 hx e1 ok1 r1 => ⟨g, f1, s1, XQ, _, ok1, xo, hx, fun y s2 u f2 H2 hy e2 ok2 r2 => by
    split at hy
    · obtain ⟨p1, xs, rfl, h1, h2, _⟩ := r1
      obtain ⟨p2, ys, rfl, h3, h4, _⟩ := r2
      refine ⟨p1, p2, xs, ys, rfl, rfl, ok2.fr.inn _ _ (e2 _ _ h1), ok2.fr.inn _ _ h3, by rw [h2.len, h4.len]; exact hy.1, fun p hp => ?_⟩
      obtain ⟨n1, n2, n3, n4, n5⟩ := new_own (u := .lst (xs ++ ys)) ok2 hp
      exact hQ (.lst _) s2 p f2 _ hy.2 (e1.trans e2) n1 ⟨ok2.fr.inn.free hp, xs ++ ys, upd_same, (h2.ex e2).app h4, by rw [List.length_append]; exact hy.1⟩ n2 n3 n4 n5
    · exact hy.elim⟩⟩
end
theorem Fr.gro {f H f' H' : Hp} {p : Addr} (x : Fr [] (pex p 0) f H f' H') (e : Ex f H) (nt : ∀ a o, f' a = some o → isTbl o = false) : Gro f H f' H' := by
  refine ⟨x.sub, x.inn, fun b o hb => ?_, fun a o h n => x.out a o h (.inl rfl) n, fun a o h _ => nt a o h⟩
  cases hf : f b with
  | none => exact x.old b o hb hf (fun z => z.1 rfl) (.inl rfl)
  | some o' =>
    have := e b o' hf
    rw [hb] at this
    cases this
    exact x.inn b o (x.sub b o hf)
section
variable {X : Cx} {C f : Addr} {k : Nat} {fd : FuncData} {ps : List Str} {φ : FD}
/-- str(o) -/
def bStrO (C : Addr) (φ : FD) : DB := fun as k => match as with
  | [d] => isO C d = true ∧ φ [d] 0 0 (fun d _ => d.isS = true ∧ k d) fun _ _ _ => False
  | _ => False
theorem c_strO (hs : PySem.W.findIn X.K (.ref C) "__str__" = some (some (.ref f))) (hf : PySem.W.isFn X.K (.ref f) = true) (F : FnOk X.prog X.w X.K X.mg X.base (L2.CX X.prog X.w) k f fd ps (spD X.K [] φ)) (hr : Room (k + 2) X.A) (hb : Binds X.K fd ps []) (hx : Passes (L2.CX X.prog X.w) X L2.E0) :
    CallR X (.type "str") (rBn X.K (bStrO C φ)) := fun pins s σ H xs us Q I r ⟨f0, ds, Kd, nt, e, r1, ho, hQ⟩ => by
  unfold bStrO at ho
  split at ho
  · rename_i d
    obtain ⟨v, _, rfl, r1, rfl⟩ := r1
    obtain ⟨h1, ho⟩ := ho
    obtain ⟨a, d1, fs, rfl, q1⟩ := isO_rep h1 r1
    obtain ⟨u, rfl, ru⟩ := vals1 r
    obtain rfl : u = Value.ref a := ru
    obtain ⟨ox, od, i1⟩ := ins_look I (e _ _ q1)
    have hu := hr.un
    refine PySem.W.kso_call (by show X.A.units + 1 + 1 < cLine; omega) I.kIn i1 hs hf ?_
    refine wpAny_mono (run_in (vs := [.ref a]) (Q := fun v H' => (∃ z, v = V.str z) ∧ Q v H') F (Room.in1 (Room.in1 hr)) I.env0.in1.in1 hb hx I (.cons rfl .nil) ?_) (fun v s' hv => ?_) fun _ _ z => z
    · exact ⟨f0, 0, 0, [d], _, fun _ _ _ => False, e, ⟨.inl rfl, fun _ z => (by cases z), nt⟩, .one r1, ho, fun d n' v f' H' hk _ fr wo' rr => ⟨isS_v rr hk.1, hQ d v f' H' hk.2 (Fr.gro fr e wo'.nt) rr⟩, fun _ _ _ _ _ _ _ z => z.elim⟩
    · obtain ⟨y, H', I', ry, ⟨z, rfl⟩, hq⟩ := hv
      obtain ⟨tk, rfl⟩ := id ry
      exact ⟨.str z, H', I', ry, hq⟩
  · exact ho.elim
end
end DL

/-! DL: defs with *args, calls by keywords. -/
namespace DL
open PySem PySem.Spec PyProof.Rows L2 Z LamX
/-- .. what is left over behind m arguments is a tuple -/
def phiS (m : Nat) (φ : FD) : FD := fun ds p n k x => m ≤ ds.length ∧ ds.length ≤ sizeLine ∧ φ (ds.take m ++ [.tup (ds.drop m)]) p n k x
theorem star_imp {K : PySem.W.Frag} {T : List (Addr × Str)} {m : Nat} {φ : FD} {vs : List V} {H : Hp} {Q : VK} {E : XK} (h : spD K T (phiS m φ) vs H Q E) :
    ∃ ws rest, vs = ws ++ rest ∧ ws.length = m ∧ rest.length ≤ sizeLine ∧ ∀ p, H p = Option.none → spD K T φ (ws ++ [V.ref p]) (upd H p (.tup rest)) Q E := by
  obtain ⟨f, p, n, ds, Kd, Xd, e, wo, r, ⟨h1, h2, hφ⟩, hK, hX⟩ := h
  have hl := r.len
  refine ⟨vs.take m, vs.drop m, (List.take_append_drop m vs).symm, by rw [List.length_take]; omega, by rw [List.length_drop]; omega, fun q hq => ?_⟩
  have gr := Gro.new (u := .tup (vs.drop m)) e hq
  refine ⟨_, p, n, _, Kd, Xd, gr.inn, wo.gro gr, ((r.take m).ex gr.sub).app (Reps.one (d := .tup (ds.drop m)) ⟨q, vs.drop m, rfl, tp_of upd_same, (r.drop m).ex gr.sub, by rw [List.length_drop]; omega⟩), hφ, fun d n' v f' H' hk le fr wo' rr => hK d n' v f' H' hk le (gr.fr.trans fr) wo' rr,
    fun cls fs n' f' H' xs dd hx le fr wo' hd rr => hX cls fs n' f' H' xs dd hx le (gr.fr.trans fr) wo' hd rr⟩
section
variable {P : Program} {w : World} {K : PySem.W.Frag} {mg : Str → Option Value} {base : Heap} {T : List (Addr × Str)}
theorem okDS {x ql : Str} {pr : Arguments} {bd : List Stmt} {sc : Scope} {kws : List (Str × V)} {f : Addr} {fd : FuncData} {N ps : List Str} {pv : Str} {k : Nat} {φ : FD} (F : FunD K x ql pr bd sc [] kws f fd) (S : FnScope N (ps ++ [pv]) sc)
    (hbi : ∀ (kV doc pm : Value) (an : Option Addr) (cdv ct : Value) (us rest : List Value), us.length = ps.length → bindArgs (PySem.W.fnOf x ql pr bd sc .none kV doc pm an cdv ct) ⟨us ++ rest, []⟩ = (newTuple rest >>= fun t => pure (ps.zip us ++ [(pv, t)])))
    (hb : ∃ t : DS, (∀ (cdv : Value) (A : Around) (outer : List Env) (s : Shared) (H : Hp) (E : XK), Room k (A.deeper (envOfC ql sc s.heap.objs.size f cdv)) → PSs (cxOf (L2.CX P w) P w K mg base N ql sc f cdv A outer s H E) bd (lS K T (wxE E) t)) ∧
      ∀ ds p n kd xd, φ ds p n kd xd → t (S0 N ds p n) (E0 kd xd)) : FnR P w K mg base (L2.CX P w) (k + 1) f (spD K T (phiS ps.length φ)) := by
  obtain ⟨t, h1, h2⟩ := hb
  obtain ⟨oc, od, dV, kV, doc, pm, an, cdv, ct, osl, rfl, lk, hcd, hD, _⟩ := F.ex
  rcases hD with ⟨_, rfl⟩ | ⟨e, _⟩
  · have G := StX.fn_star (sp := spD K T φ) (k := k) (base := base) (mg := mg) lk hcd S (StX.cxUp (P := P) (w := w)) (fun us rest hl => hbi kV doc pm an cdv ct us rest hl) (fun A outer s H vs Q E hr h => ⟨_, h1 cdv A outer s H E hr, run0 (X := cxOf (L2.CX P w) P w K mg base N ql sc f cdv A outer s H E) (bd := bd) h2 h⟩)
    exact fun A outer s H us vs Q E hr e0 r h => G A outer s H us vs Q E hr e0 r (star_imp h)
  · exact absurd rfl e
/-- a def that is called by keywords alone -/
def FnKw (P : Program) (w : World) (K : PySem.W.Frag) (mg : Str → Option Value) (base : Heap) (CX : CXT) (k : Nat) (f : Addr) (ks : List Str) (sp : Sp) : Prop :=
  ∀ (A : Around) (outer : List Env) (s : Shared) (H : Hp) (us : List Value) (vs : List V) (Q : VK) (E : XK), Room k A → Env0 P w K mg base A outer s H → Vals vs us → us.length = ks.length → sp vs H Q E →
    codeAny (model P w) A (.call (.ref f) ⟨[], ks.zip us⟩) (CR CX outer P w H s Q E) s
/-- f(a = ..), f has *args behind a -/
theorem okDSk {x ql : Str} {pr : Arguments} {bd : List Stmt} {sc : Scope} {kws : List (Str × V)} {f : Addr} {fd : FuncData} {N : List Str} {p1 pv : Str} {k : Nat} {φ : FD} (F : FunD K x ql pr bd sc [] kws f fd) (S : FnScope N [p1, pv] sc)
    (hbi : ∀ (kV doc pm : Value) (an : Option Addr) (cdv ct : Value) (u : Value), bindArgs (PySem.W.fnOf x ql pr bd sc .none kV doc pm an cdv ct) ⟨[], [(p1, u)]⟩ = (newTuple [] >>= fun t => pure [(p1, u), (pv, t)]))
    (hb : ∃ t : DS, (∀ (cdv : Value) (A : Around) (outer : List Env) (s : Shared) (H : Hp) (E : XK), Room k (A.deeper (envOfC ql sc s.heap.objs.size f cdv)) → PSs (cxOf (L2.CX P w) P w K mg base N ql sc f cdv A outer s H E) bd (lS K T (wxE E) t)) ∧
      ∀ ds p n kd xd, φ ds p n kd xd → t (S0 N ds p n) (E0 kd xd)) : FnKw P w K mg base (L2.CX P w) (k + 1) f [p1] (spD K T (phiS 1 φ)) := by
  obtain ⟨t, h1, h2⟩ := hb
  obtain ⟨oc, od, dV, kV, doc, pm, an, cdv, ct, osl, rfl, lk, hcd, hD, _⟩ := F.ex
  rcases hD with ⟨_, rfl⟩ | ⟨e, _⟩
  · intro A outer s H us vs Q E hr e0 r hl hsp
    match us, hl with
    | [u], _ =>
      obtain ⟨ws, rest, ev, hl1, hz, hq⟩ := star_imp hsp
      have hl2 := r.length
      have hrest : rest = [] := by
        have := congrArg List.length ev
        rw [List.length_append, hl2, hl1] at this
        exact List.eq_nil_of_length_eq_zero (by simpa using this.symm)
      subst hrest
      rw [List.append_nil] at ev
      subst ev
      have hn : H s.heap.objs.size = Option.none := e0.hok.fresh (Nat.le_refl _)
      refine StX.run_bnd (ps := [p1, pv]) lk hcd S hr e0 (G := fun xs H2 => ∃ p, H p = Option.none ∧ xs = vs ++ [V.ref p] ∧ H2 = upd H p (.tup [])) (fun A' Ex Q' h => ?_) fun s2 H2 xs ⟨p, hp, ex, eH⟩ hr' => ?_
      · show wpAny _ A' (bindArgs _ ⟨[], [(p1, u)]⟩) Q' Ex s
        rw [hbi kV doc pm an cdv ct u]
        refine wpAny_bind (wpAny_newTuple (wpAny_pure ?_) (Nat.zero_le _))
        have new : ObjOk P w (upd H s.heap.objs.size (.tup [])) (s.heap.push ({ cls := .type "tuple", data := .seq #[] } : Obj)) s.heap.objs.size (.tup []) := ⟨Nat.zero_le _, [], .nil, ⟨_, Heap.get?_push_size _ rfl, rfl, _, rfl⟩⟩
        have un := StX.un_laid (fs := frs outer) (s := s) (o := ({ cls := .type "tuple", data := .seq #[] } : Obj)) (u := .tup []) hn
        exact h _ _ (vs ++ [V.ref s.heap.objs.size]) ([u] ++ [Value.ref s.heap.objs.size]) (StX.env0_laid e0 new) un rfl (fun e s' => StX.cxUp (P := P) (w := w) outer s H _ _ E e s' un (fun b o q => Heap.get?_push_of_some _ q) rfl) (r.append (.cons rfl .nil))
          (by rw [List.length_append, hl1] <;> rfl) ⟨_, hn, rfl, rfl⟩
      · subst ex eH
        exact ⟨_, h1 cdv A outer s2 (upd H p (.tup [])) E hr', run0 (X := cxOf (L2.CX P w) P w K mg base N ql sc f cdv A outer s2 (upd H p (.tup [])) E) (bd := bd) h2 (hq p hp)⟩
  · exact absurd rfl e
end
section
variable {X : Cx} {W : WX} {k : Nat} {f : Addr} {sp : Sp} {ee : XK}
theorem runs_r (F : FnR X.prog X.w X.K X.mg X.base (L2.CX X.prog X.w) k f sp) (hr : Room k X.A) (tk : Takes X (wxE ee)) : Runs X f sp [] (WE (wxE ee)) :=
  fun pins σ H s Q us vs I r h => wpAny_call (run_fnR F hr (passes_call tk fun _ _ _ _ h => h) I r (by simpa using h))
end
section
variable {X : Cx} {T : List (Addr × Str)} {W : WX} {k : Nat} {f C : Addr} {fd : FuncData} {ps ks : List Str} {x : Str} {p pos : Pos} {kws : List Keyword} {tr : DR} {φ : FD} {ee : XK} {g : List Value → List Value → List Value} {gV : List V → List V → List V}
theorem dk_nil : PK X [] (lA X.K T W dNil) := ⟨fun pos pins s σ H Q I ⟨g, f, st, XQ, Kd, ok, xo, h, hQ⟩ => pk_nil.run pos pins s σ H Q I (hQ [] st [] f H h (Ex.refl _) ok rfl)⟩
theorem dk_cons {nm : Option Str} {kpos : Pos} {e : Expr} {te : DE} (ha : PE X e (lE X.K T W te)) (hr : PK X kws (lA X.K T W tr)) : PK X (⟨nm, e, kpos⟩ :: kws) (lA X.K T W (dCons te tr)) :=
  ⟨fun pos pins s σ H Q I ⟨g, f, s1, XQ, Kd, ok, xo, h, hQ⟩ => (pk_cons ha hr).run pos pins s σ H Q I ⟨g, f, s1, XQ, _, ok, xo, h, fun x s1 v f1 H1 hx e1 ok1 r1 => ⟨g, f1, s1, XQ, _, ok1, xo, hx, fun ys s2 us f2 H2 hy e2 ok2 r2 =>
    hQ (x :: ys) s2 (v :: us) f2 H2 hy (e1.trans e2) ok2 ⟨v, us, rfl, r1.ex e2, r2⟩⟩⟩⟩
/-- f(k = v, ..) -/
def dCallK (φ : FD) (n : Nat) (gd : List D → List D) (tr : DR) (s : S) (k : D → S → Prop) (x : XD) : Prop := tr s (fun ds s1 => ds.length = n ∧ φ (gd ds) s1.p s1.n (fun d n' => k d { s1 with n := n' }) (fun c fs n' => x c fs { s1 with n := n' })) x
theorem d_callK {n : Nat} {gd : List D → List D} (hW : W = wxE ee) (F : FnOk X.prog X.w X.K X.mg X.base (L2.CX X.prog X.w) k f fd ps (spD X.K T φ)) (hr : Room k X.A) (tk : Takes X W) (hg : Gl X x) (hm : X.mg x = some (.ref f)) (hk : PySem.W.keepIn X.K (.ref f) = true)
    (hb : KBn X.K fd ps 0 ks g gV) (hgd : ∀ (h : Hp) (ds : List D) (vs : List V), vs.length = ks.length → Reps X.K h ds vs → Reps X.K h (gd ds) (gV [] vs)) (hkw : PK X kws (lA X.K T W tr))
    (hall : (backToKw pos (keywordEach kws X.env)).all (·.1.isSome) = true := by rfl) (hks : (backToKw pos (keywordEach kws X.env)).filterMap (·.1) = ks := by rfl)
    (hpl : ((backTo pos (starEach [] X.env)).any (·.1) || (backToKw pos (keywordEach kws X.env)).any (·.1.isNone)) = false := by rfl) (hdb : (x == ("__debug__" : Str)) = false := by decide) (hn : ks.length = n := by rfl) :
    PE X (.Call (.Name x p) [] kws pos) (lE X.K T W (dCallK φ n gd tr)) := by
  subst hW hn
  exact (Z.pe_callN (E := ee) F hr hg hm hk hb (passes_call tk fun _ _ _ _ h => h) hkw hall hks hpl hdb).up fun σ H Q ⟨g, f, s, XQ, Kd, ok, xo, h, hQ⟩ => ⟨g, f, s, XQ, _, ok, xo, h, fun ds s1 vs f1 H1 hx e1 ok1 r1 =>
    ⟨by rw [r1.len]; exact hx.1, spD_of (W := wxE ee) ok1 xo (hgd f1 ds vs (by rw [r1.len]; exact hx.1) r1) hx.2 fun d s' v f' H' hk e2 ok2 rr => hQ d s' v f' H' hk (e1.trans e2) ok2 rr⟩⟩
theorem d_callKw {n : Nat} (hW : W = wxE ee) (F : FnKw X.prog X.w X.K X.mg X.base (L2.CX X.prog X.w) k f ks (spD X.K T φ)) (hr : Room k X.A) (tk : Takes X W) (hg : Gl X x) (hm : X.mg x = some (.ref f)) (hk : PySem.W.keepIn X.K (.ref f) = true) (hkw : PK X kws (lA X.K T W tr))
    (hall : (backToKw pos (keywordEach kws X.env)).all (·.1.isSome) = true := by rfl) (hks : (backToKw pos (keywordEach kws X.env)).filterMap (·.1) = ks := by rfl)
    (hpl : ((backTo pos (starEach [] X.env)).any (·.1) || (backToKw pos (keywordEach kws X.env)).any (·.1.isNone)) = false := by rfl) (hdb : (x == ("__debug__" : Str)) = false := by decide) (hn : ks.length = n := by rfl) :
    PE X (.Call (.Name x p) [] kws pos) (lE X.K T W (dCallK φ n (fun ds => ds) tr)) := by
  subst hW hn
  refine ⟨fun pins s σ H Q I h => wpAny_Call_Name_kw (ld_glob I hg hm ?_ hdb)⟩
  obtain ⟨g, f1, st, XQ, Kd, ok, xo, h, hQ⟩ := h
  refine PySem.W.callWith_KW0 (first := []) (h₀ := X.base) I.ok.mod.kin hk hall (thn (hkw.run pos pins s σ H (fun zs H2 => zs.length = ks.length ∧ spD X.K T φ zs H2 Q ee) I ⟨g, f1, st, XQ, _, ok, xo, h, fun ds s1 vs f2 H1 hx e1 ok1 r1 => ⟨by rw [r1.len]; exact hx.1, spD_of (W := wxE ee) ok1 xo r1 hx.2 fun d s' v f' H' hk e2 ok2 rr => hQ d s' v f' H' hk (e1.trans e2) ok2 rr⟩⟩) fun ws s2 ⟨zs, H2, I2, rz, l2, q2⟩ => ⟨I2.kIn, ?_⟩) hpl
  rw [hks]
  refine wpAny_call (codeAny_mono (F X.A X.stack s2 H2 ws zs Q ee hr I2.env0 rz (rz.length.symm.trans l2) q2) fun r s' hq => ?_)
  cases r with
  | error e => exact passes_call tk (fun _ _ _ _ h => h) pins σ H2 s2 e s' I2 hq
  | ok fl =>
    cases fl with
    | ret u => exact I2.after hq
    | next => exact False.elim hq
    | brk => exact False.elim hq
    | cont => exact False.elim hq
end
end DL

/-! DL: an own operator beside its like or anything else. -/
namespace DL
open PySem PySem.Spec PyProof.Rows L2 Z LamX
section
variable {X : Cx} {T : List (Addr × Str)} {C f : Addr} {k : Nat} {fd : FuncData} {ps : List Str} {φ : FD} {E : XK} {o' : D2X}
/-- a op y: the method of a -/
def oOA (C : Addr) (φ : FD) : D2X := fun a b k x => isO C a = true ∧ (isO C b = true ∨ (tyS b).isSome = true) ∧ φ [a, b] 0 0 (fun d _ => k d) (fun c fs _ => x c fs)
theorem px_oa {op : Operator} {rc : Option Value} (hc : PySem.W.selfFirst X.K C = true) (hs : PySem.W.findIn X.K (.ref C) (PySem.dunder op.info.2) = some (some (.ref f))) (hf : PySem.W.isFn X.K (.ref f) = true)
    (hr2 : PySem.W.findIn X.K (.ref C) (dunderR op.info.2) = some rc) (hp : rc = none ∨ ∃ g : Addr, rc = some (.ref g)) (hsay : sayB7 X.K C op = true)
    (F : FnOk X.prog X.w X.K X.mg X.base (L2.CX X.prog X.w) k f fd ps (spD X.K T φ)) (hr : Room k X.A) (hb : Binds X.K fd ps []) (hx : Passes (L2.CX X.prog X.w) X E) : OpR X (binaryOp op) (rPX X.K T (oOA C φ) E) :=
  fun pins s σ H x y v u Q I rx ry ⟨f0, dx, dy, Kd, Xd, e, w, r1, r2, ⟨h1, h2, ho⟩, hK, hX⟩ => by
    rcases h2 with h2 | h2
    · exact px_oo hc hs hf F hr hb hx pins s σ H x y v u Q I rx ry ⟨f0, dx, dy, Kd, Xd, e, w, r1, r2, ⟨h1, h2, ho⟩, hK, hX⟩
    · exact px_ov hc hs hf hr2 hp hsay F hr hb hx pins s σ H x y v u Q I rx ry ⟨f0, dx, dy, Kd, Xd, e, w, r1, r2, ⟨h1, h2, ho⟩, hK, hX⟩
theorem px_ca {op : CmpOp} (hop : ∀ a b, compareOp op a b = richCompare op a b) (hs : PySem.W.findIn X.K (.ref C) (cmpInfo op).2.1 = some (some (.ref f))) (hf : PySem.W.isFn X.K (.ref f) = true) (hn : notB7 X.K C = true)
    (F : FnOk X.prog X.w X.K X.mg X.base (L2.CX X.prog X.w) k f fd ps (spD X.K T φ)) (hr : Room k X.A) (hb : Binds X.K fd ps []) (hx : Passes (L2.CX X.prog X.w) X E) : OpR X (compareOp op) (rPX X.K T (oOA C φ) E) :=
  fun pins s σ H x y v u Q I rx ry ⟨f0, dx, dy, Kd, Xd, e, w, r1, r2, ⟨h1, h2, ho⟩, hK, hX⟩ => by
    rcases h2 with h2 | h2
    · exact px_cc hop hs hf F hr hb hx pins s σ H x y v u Q I rx ry ⟨f0, dx, dy, Kd, Xd, e, w, r1, r2, ⟨h1, h2, ho⟩, hK, hX⟩
    · exact px_cv hop hs hf hn F hr hb hx pins s σ H x y v u Q I rx ry ⟨f0, dx, dy, Kd, Xd, e, w, r1, r2, ⟨h1, h2, ho⟩, hK, hX⟩
/-- .. or the plain operation, where a is none of C -/
def oOwn (C : Addr) (φ : FD) (o : D2) : D2X := oWhen (fun a _ => isO C a) (oOA C φ) (oUp o)
end
end DL

/-! f-strings -/
namespace DL
open PySem PySem.Spec PyProof.Rows L2 Z LamX
def dJs : List DE → Str → S → (Str → S → Prop) → XD → Prop
  | [], acc, s, k, _ => k acc s
  | t :: ts, acc, s, k, x => t s (fun d s1 => match d with
    | .str y => (acc ++ y).length ≤ sizeLine ∧ dJs ts (acc ++ y) s1 k x
    | _ => False) x
def dJoin (ts : List DE) (s : S) (k : D → S → Prop) (x : XD) : Prop := dJs ts Str.empty s (fun z s1 => k (.str z) s1) x
def dFmt (te : DE) (s : S) (k : D → S → Prop) (x : XD) : Prop := te s (fun d s1 => match d with
  | .str y => k (.str y) s1
  | .int i => i.natAbs.log2 < 1920 ∧ k (.str (toString i : String)) s1
  | _ => False) x
def dFmtR (te : DE) (s : S) (k : D → S → Prop) (x : XD) : Prop := te s (fun d s1 => match d with
  | .str y => (reprText y).length ≤ sizeLine ∧ k (.str (reprText y)) s1
  | .int i => i.natAbs.log2 < 1920 ∧ k (.str (toString i : String)) s1
  | _ => False) x
section
variable {X : Cx} {T : List (Addr × Str)} {W : WX} {e : Expr} {te : DE} {pos : Pos} {es : List Expr} {ts : List DE}
theorem djs_up {K : PySem.W.Frag} {σ : L2.St} : ∀ {ts : List DE} {acc : Str} {H : Hp} {Q : Str → Hp → Prop}, acc.length ≤ sizeLine → (∃ g f s XQ Kd, Okay K T g f H σ s ∧ XOk K T W g σ XQ ∧ dJs ts acc s Kd XQ ∧ ∀ z s' f' H', Kd z s' → z.length ≤ sizeLine → Ex f f' → Okay K T g f' H' σ s' → Q z H') → tJs (ts.map (lE K T W)) acc σ H Q
  | [], acc, H, Q, hl, ⟨g, f, s, XQ, Kd, ok, xo, h, hQ⟩ => hQ acc s f H h hl (Ex.refl _) ok
  | t :: ts, acc, H, Q, hl, ⟨g, f, s, XQ, Kd, ok, xo, h, hQ⟩ => ⟨g, f, s, XQ, _, ok, xo, h, fun d s1 v f1 H1 hx e1 ok1 r1 => by
    cases d with
    | str y =>
      obtain ⟨rfl, _⟩ := r1
      exact ⟨y, rfl, hx.1, djs_up hx.1 ⟨g, f1, s1, XQ, Kd, ok1, xo, hx.2, fun z s2 f2 H2 hk hz e2 ok2 => hQ z s2 f2 H2 hk hz (e1.trans e2) ok2⟩⟩
    | _ => exact (show False from hx).elim⟩
theorem dj_nil : PJ X [] (([] : List DE).map (lE X.K T W)) := .nil
theorem dj_cons (h : PE X e (lE X.K T W te)) (r : PJ X es (ts.map (lE X.K T W))) : PJ X (e :: es) ((te :: ts).map (lE X.K T W)) := .cons h r
theorem d_join {v1 v2 : Expr} {rest : List Expr} (h : PJ X (v1 :: v2 :: rest) (ts.map (lE X.K T W))) : PE X (.JoinedStr (v1 :: v2 :: rest) pos) (lE X.K T W (dJoin ts)) :=
  (pe_joinS h).up fun σ H Q ⟨g, f, s, XQ, Kd, ok, xo, h, hQ⟩ => djs_up (Nat.zero_le _) ⟨g, f, s, XQ, _, ok, xo, h, fun z s1 f1 H1 hk hz e1 ok1 => hQ (.str z) s1 (.str z) f1 H1 hk e1 ok1 ⟨rfl, hz⟩⟩
theorem d_join1 (h : PE X e (lE X.K T W te)) : PE X (.JoinedStr [e] pos) (lE X.K T W te) := pe_joined1 h
theorem d_fmt (he : PE X e (lE X.K T W te)) : PE X (.FormattedValue e (-1) none pos) (lE X.K T W (dFmt te)) :=
  (pe_fmt he).up fun σ H Q ⟨g, f, s, XQ, Kd, ok, xo, h, hQ⟩ => ⟨g, f, s, XQ, _, ok, xo, h, fun d s1 v f1 H1 hx e1 ok1 r1 => by
    cases d with
    | str y => obtain ⟨rfl, hl⟩ := r1; exact .inl ⟨y, rfl, hl, hQ (.str y) s1 _ f1 H1 hx e1 ok1 ⟨rfl, hl⟩⟩
    | int i => cases r1; exact .inr ⟨i, rfl, hx.1, hQ _ s1 _ f1 H1 hx.2 e1 ok1 ⟨rfl, str_of_int_len hx.1⟩⟩
    | _ => exact (show False from hx).elim⟩
theorem d_fmtR (he : PE X e (lE X.K T W te)) : PE X (.FormattedValue e 114 none pos) (lE X.K T W (dFmtR te)) :=
  (pe_fmtR he).up fun σ H Q ⟨g, f, s, XQ, Kd, ok, xo, h, hQ⟩ => ⟨g, f, s, XQ, _, ok, xo, h, fun d s1 v f1 H1 hx e1 ok1 r1 => by
    cases d with
    | str y => obtain ⟨rfl, hl⟩ := r1; exact .inl ⟨y, rfl, hx.1, hQ (.str _) s1 _ f1 H1 hx.2 e1 ok1 ⟨rfl, hx.1⟩⟩
    | int i => cases r1; exact .inr ⟨i, rfl, hx.1, hQ _ s1 _ f1 H1 hx.2 e1 ok1 ⟨rfl, str_of_int_len hx.1⟩⟩
    | _ => exact (show False from hx).elim⟩
end
end DL

/-! DL: what the generator names. -/
namespace DL
open PySem PySem.Spec PyProof.Rows L2 Z LamX
section
variable {X : Cx} {T : List (Addr × Str)} {W : WX} {k : Nat} {f C : Addr} {x : Str} {p pos : Pos} {e : Expr} {es : List Expr} {tr : DR} {φ : FD}
theorem d_callS (R : Runs X f (spD X.K T φ) [] (WE W)) (hg : Gl X x) (hm : X.mg x = some (.ref f)) (hk : PySem.W.keepIn X.K (.ref f) = true)
    (ha : PA X (e :: es) (lA X.K T W tr)) (hdb : (x == ("__debug__" : Str)) = false := by decide) (hst : starEach (e :: es) X.env = (false, eval e X.env) :: starEach es X.env := by rfl) (hpl : (backTo pos (starEach es X.env)).any (·.1) = false := by rfl) :
    PE X (.Call (.Name x p) (e :: es) [] pos) (lE X.K T W (dCall φ tr)) := by
  rw [← dCall_nil]
  exact d_callX R (fun _ => rfl) hg hm hk ha hdb hst hpl
theorem d_callTyn {id : String} {o : DB} (hc : CallR X (.type id) (rBn X.K o)) (hg : Gl X x) (hm : X.mg x = none) (hv : bootBuiltins x = some (.type id)) (ha : PA X (e :: es) (lA X.K T W tr)) (hn : x ≠ "__name__" := by decide) (hdb : (x == ("__debug__" : Str)) = false := by decide)
    (he : starEach (e :: es) X.env = (false, eval e X.env) :: starEach es X.env := by rfl) (hpl : (backTo pos (starEach es X.env)).any (·.1) = false := by rfl) : PE X (.Call (.Name x p) (e :: es) [] pos) (lE X.K T W (dCB o tr)) :=
  (pe_callTy hc hg hm hv ha hn hdb he hpl).up fun σ H Q ⟨g, f, s, XQ, Kd, ok, xo, h, hQ⟩ => ⟨g, f, s, XQ, _, ok, xo, h, fun ds s1 vs f1 H1 hx e1 ok1 r1 => ⟨f1, ds, _, ok1.wo.nt, ok1.fr.inn, r1, hx, fun d v f' H' hk gr rr => hQ d s1 v f' H' hk (e1.trans gr.sub) (ok1.gro gr) rr⟩⟩
def ow0 : Addr → Option FD := fun _ => none
def owC (C : Addr) (φ : FD) (r : Addr → Option FD) : Addr → Option FD := fun C' => if C' = C then some φ else r C'
theorem owns_nil : OwnsX X k ow0 := fun _ _ h => by cases h
theorem owns_cons {fn : Addr} {fd : FuncData} {ps : List Str} {r : Addr → Option FD} (O : Own X (L2.CX X.prog X.w) k C fn fd ps (spD X.K [] φ) L2.E0) (h : OwnsX X k r) : OwnsX X k (owC C φ r) := fun C' φ' q => by
  unfold owC at q
  split at q
  · rename_i z
    subst z
    cases q
    exact ⟨fn, fd, ps, O⟩
  · exact h C' φ' q
theorem Own.mono {CX : CXT} {k' : Nat} {fn : Addr} {fd : FuncData} {ps : List Str} {sp : Sp} {E : XK} (O : Own X CX k C fn fd ps sp E) (F : FnOk X.prog X.w X.K X.mg X.base CX k' fn fd ps sp) : Own X CX k' C fn fd ps sp E := ⟨O.hs, O.hf, F, O.hb, O.hx⟩
theorem ds_len0 {ds : List D} (h : ds.length = 0) : ds = [] := List.eq_nil_of_length_eq_zero h
end
end DL

/-! DL: calls by position and keyword. -/
namespace DL
open PySem PySem.Spec PyProof.Rows L2 Z LamX
/-- the items in another order -/
def pick {α : Type} (perm : List Nat) (l : List α) : List α := perm.filterMap fun i => l[i]?
theorem vals_pick {vs : List V} {us : List Value} (r : Vals vs us) : ∀ (perm : List Nat), Vals (pick perm vs) (pick perm us)
  | [] => .nil
  | i :: perm => by
    unfold pick
    rw [List.filterMap_cons, List.filterMap_cons]
    have h := vals_pick r perm
    cases e : vs[i]? with
    | none =>
      have e2 : us[i]? = none := by
        rw [List.getElem?_eq_none_iff] at e ⊢
        rw [← r.length]
        exact e
      rw [e2]
      exact h
    | some v =>
      obtain ⟨u, e2, ru⟩ := L2.Vals.get r e
      rw [e2]
      exact .cons ru h
theorem reps_pick {K : PySem.W.Frag} {f : Hp} {ds : List D} {vs : List V} (r : Reps K f ds vs) : ∀ (perm : List Nat), Reps K f (pick perm ds) (pick perm vs)
  | [] => rfl
  | i :: perm => by
    unfold pick
    rw [List.filterMap_cons, List.filterMap_cons]
    have h := reps_pick r perm
    cases e : ds[i]? with
    | none =>
      have e2 : vs[i]? = none := by
        rw [List.getElem?_eq_none_iff] at e ⊢
        rw [r.len]
        exact e
      rw [e2]
      exact h
    | some d =>
      obtain ⟨v, e2, rv⟩ := r.get i e
      rw [e2]
      exact ⟨v, _, rfl, rv, h⟩
/-- g of a def's binding, by a permutation -/
abbrev gP (perm : List Nat) {α : Type} (us ws : List α) : List α := pick perm (us ++ ws)
theorem gP_rel (perm : List Nat) {vs zs : List V} {us ws : List Value} (r1 : Vals vs us) (r2 : Vals zs ws) : Vals (gP perm vs zs) (gP perm us ws) := vals_pick (r1.append r2) perm
def dCallN (φ : FD) (n m : Nat) (perm : List Nat) (tr tk : DR) (s : S) (k : D → S → Prop) (x : XD) : Prop := tr s (fun ds s1 => tk s1 (fun es s2 => ds.length = n ∧ es.length = m ∧ φ (pick perm (ds ++ es)) s2.p s2.n (fun d n' => k d { s2 with n := n' }) (fun c fs n' => x c fs { s2 with n := n' })) x) x
section
variable {X : Cx} {T : List (Addr × Str)} {W : WX} {k n m : Nat} {f C : Addr} {fd : FuncData} {ps ks : List Str} {x : Str} {p pos : Pos} {e : Expr} {es : List Expr} {kws : List Keyword} {tr tk : DR} {φ : FD} {φ' : FI} {ee : XK} {perm : List Nat}
/-- f(e, .., k = v, ..) -/
theorem d_callN (hW : W = wxE ee) (F : FnOk X.prog X.w X.K X.mg X.base (L2.CX X.prog X.w) k f fd ps (spD X.K T φ)) (hr : Room k X.A) (tk' : Takes X W) (hg : Gl X x) (hm : X.mg x = some (.ref f)) (hk : PySem.W.keepIn X.K (.ref f) = true)
    (hb : KBn X.K fd ps n ks (gP perm) (gP perm)) (ha : PA X (e :: es) (lA X.K T W tr)) (hkw : PK X kws (lA X.K T W tk))
    (hall : (backToKw pos (keywordEach kws X.env)).all (·.1.isSome) = true := by rfl) (hks : (backToKw pos (keywordEach kws X.env)).filterMap (·.1) = ks := by rfl)
    (hdb : (x == ("__debug__" : Str)) = false := by decide) (he : starEach (e :: es) X.env = (false, eval e X.env) :: starEach es X.env := by rfl)
    (hpl : ((backTo pos (starEach (e :: es) X.env)).any (·.1) || (backToKw pos (keywordEach kws X.env)).any (·.1.isNone)) = false := by rfl) (hn : ks.length = m := by rfl) :
    PE X (.Call (.Name x p) (e :: es) kws pos) (lE X.K T W (dCallN φ n m perm tr tk)) := by
  subst hW hn
  exact (L2.pe_callN (E := ee) F hr hg hm hk hb (passes_call tk' fun _ _ _ _ h => h) ha hkw hall hks hdb he hpl).up fun σ H Q ⟨g, f, s, XQ, Kd, ok, xo, h, hQ⟩ => ⟨g, f, s, XQ, _, ok, xo, h, fun ds s1 vs f1 H1 hx e1 ok1 r1 => ⟨g, f1, s1, XQ, _, ok1, xo, hx, fun es s2 zs f2 H2 hy e2 ok2 r2 =>
    ⟨by rw [r1.len]; exact hy.1, by rw [r2.len]; exact hy.2.1, spD_of (W := wxE ee) ok2 xo (reps_pick ((Reps.ex e2 r1).app r2) perm) hy.2.2 fun d s' v f' H' hk e3 ok3 rr => hQ d s' v f' H' hk (e1.trans (e2.trans e3)) ok3 rr⟩⟩⟩
/-- .. of an __init__ -/
def gI (perm : List Nat) {α : Type} (us ws : List α) : List α := match us with
  | u :: us => u :: pick perm (us ++ ws)
  | [] => ws
theorem gI_rel (perm : List Nat) {vs zs : List V} {us ws : List Value} (r1 : Vals vs us) (r2 : Vals zs ws) : Vals (gI perm vs zs) (gI perm us ws) := by
  cases r1 with
  | nil => exact r2
  | cons a r => exact .cons a (vals_pick (L2.Vals.append r r2) perm)
def dMakeN (C : Addr) (φ : FI) (n m : Nat) (perm : List Nat) (tr tk : DR) (s : S) (k : D → S → Prop) (x : XD) : Prop := tr s (fun ds s1 => tk s1 (fun es s2 => ds.length = n ∧ es.length = m ∧ φ (pick perm (ds ++ es)) s2.p s2.n (fun gs n' => k (.obj C gs) { s2 with n := n' }) (fun c fs n' => x c fs { s2 with n := n' })) x) x
theorem make_upN {n m : Nat} {φ : FI} {σ : L2.St} {H : Hp} {Q : VK} (h : lE X.K T (wxE ee) (dMakeN C φ n m perm tr tk) σ H Q) : L2.tMakeK C n m (spI X.K T C φ) (gI perm) ee (lA X.K T (wxE ee) tr) (lA X.K T (wxE ee) tk) σ H Q := by
  obtain ⟨g, f, s, XQ, Kd, ok, xo, h, hQ⟩ := h
  refine ⟨g, f, s, XQ, _, ok, xo, h, fun ds s0 vs f0 H0 hx0 e0 ok0 r0 => ⟨g, f0, s0, XQ, _, ok0, xo, hx0, fun es s1 zs f1 H1 hx e1 ok1 r1 => ?_⟩⟩
  refine ⟨by rw [r0.len]; exact hx.1, by rw [r1.len]; exact hx.2.1, ?_⟩
  obtain ⟨_, _, hx⟩ := hx
  have e01 := e0.trans e1
  have rr1 := reps_pick ((Reps.ex e1 r0).app r1) perm
  intro a dx ha' hd ne
  have g1 : Gro f1 H1 f1 (upd H1 dx (.own a)) := Gro.lay ok1.fr.inn hd
  have ha2 : upd H1 dx (.own a) a = none := by rw [upd_ne (Ne.symm ne)]; exact ha'
  have g2 : Gro f1 (upd H1 dx (.own a)) f1 (upd (upd H1 dx (.own a)) a (.ins C dx [])) := Gro.lay g1.inn ha2
  have gr := g1.trans g2
  obtain ⟨_, n2, n3, n4, n5⟩ := new_own (u := .ins C dx []) (ok1.gro g1) ha2
  have back : ∀ {f' H' : Hp}, Fr T (pexI s1.p s1.n a) f1 (upd (upd H1 dx (.own a)) a (.ins C dx [])) f' H' → Fr T (pex s1.p s1.n) f1 H1 f' H' := fun {f' H'} fr =>
    ⟨fr.sub, fr.inn, fun c o h n x t => fr.old c o (gr.all _ _ h) n (fun z => z.elim x fun z => by rw [z, ha'] at h; cases h) t, fun c o h t n => fr.out c o (gr.all _ _ h) t n, fun c o h t => fr.there c o (gr.all _ _ h) t⟩
  refine ⟨f1, s1.p, s1.n, pick perm (ds ++ es), _, _, a, dx, pick perm (vs ++ zs), rfl, gr.inn, ok1.wo.gro gr, rr1, upd_same, ok1.fr.inn.free ha', n3, hx, fun gs n' f' H' dx' xs hk le fr wo' hn hh rr => ⟨rfl, ?_⟩, fun cls fs n' f' H' xs dd hx le fr wo' hd rr => ?_⟩
  · have ok2 := ok1.call (back fr) wo' le
    obtain ⟨f2, e2, ok3, r3⟩ := ok2.fzNew (a := a) (o := .obj C gs) ⟨hn, dx', xs, hh, rr⟩ n2 (fun z => n3 fun y => z (by show n' = 0; omega)) n4 n5
    exact hQ (.obj C gs) _ _ f2 H' hk (e01.trans (fr.sub.trans e2)) ok3 r3
  · exact xo cls fs _ f' H' xs dd (ok1.call (back fr) wo' le) hd rr hx
/-- C(k = v, ..) -/
theorem d_makeK0 (hW : W = wxE ee) (M : Mk X.K C f) (F : FnOk X.prog X.w X.K X.mg X.base (L2.CX X.prog X.w) k f fd ps (spI X.K T C φ')) (hr : Room (k + 1) X.A) (tk' : Takes X W) (hg : Gl X x) (hm : X.mg x = some (.ref C)) (hb : KBn X.K fd ps 1 ks (gI perm) (gI perm)) (hkw : PK X kws (lA X.K T W tk))
    (hall : (backToKw pos (keywordEach kws X.env)).all (·.1.isSome) = true := by rfl) (hks : (backToKw pos (keywordEach kws X.env)).filterMap (·.1) = ks := by rfl) (hdb : (x == ("__debug__" : Str)) = false := by decide)
    (hpl : ((backTo pos (starEach [] X.env)).any (·.1) || (backToKw pos (keywordEach kws X.env)).any (·.1.isNone)) = false := by rfl) (hn : ks.length = m := by rfl) :
    PE X (.Call (.Name x p) [] kws pos) (lE X.K T W (dMakeN C φ' 0 m perm dNil tk)) := by
  subst hW hn
  refine (L2.pe_makeK0 (E := ee) M F hr hg hm hb (passes_call tk' fun _ _ _ _ h => h) hkw hall hks hdb hpl).up fun σ H Q h => ?_
  obtain ⟨g, f, s, XQ, Kd, ok, xo, h, hQ⟩ := h
  obtain ⟨g2, f2, s2, XQ2, Kd2, ok2, xo2, h2, hQ2⟩ := make_upN ⟨g, f, s, XQ, Kd, ok, xo, h, hQ⟩
  exact hQ2 [] s2 [] f2 H h2 (Ex.refl _) ok2 rfl
/-- C(e, .., k = v, ..) -/
theorem d_makeK (hW : W = wxE ee) (M : Mk X.K C f) (F : FnOk X.prog X.w X.K X.mg X.base (L2.CX X.prog X.w) k f fd ps (spI X.K T C φ')) (hr : Room (k + 1) X.A) (tk' : Takes X W) (hg : Gl X x) (hm : X.mg x = some (.ref C)) (hb : KBn X.K fd ps (n + 1) ks (gI perm) (gI perm)) (ha : PA X (e :: es) (lA X.K T W tr)) (hkw : PK X kws (lA X.K T W tk))
    (hall : (backToKw pos (keywordEach kws X.env)).all (·.1.isSome) = true := by rfl) (hks : (backToKw pos (keywordEach kws X.env)).filterMap (·.1) = ks := by rfl) (hdb : (x == ("__debug__" : Str)) = false := by decide)
    (he : starEach (e :: es) X.env = (false, eval e X.env) :: starEach es X.env := by rfl) (hpl : ((backTo pos (starEach (e :: es) X.env)).any (·.1) || (backToKw pos (keywordEach kws X.env)).any (·.1.isNone)) = false := by rfl) (hn : ks.length = m := by rfl) :
    PE X (.Call (.Name x p) (e :: es) kws pos) (lE X.K T W (dMakeN C φ' n m perm tr tk)) := by
  subst hW hn
  exact (L2.pe_makeK (E := ee) M F hr hg hm hb (passes_call tk' fun _ _ _ _ h => h) ha hkw hall hks hdb he hpl).up fun σ H Q h => make_upN h
end
end DL

/-! DL: hearing, by any list of clauses. -/
namespace DL
open PySem PySem.Spec PyProof.Rows L2 Z LamX
/-- except C as e: ("tag", e.f, ..) -/
structure Cl where
  c : Addr
  tag : Str
  fs : List Str
def HearG (cs : List Cl) (Q : VK) : XK := fun cls d H => ∃ cl ∈ cs, cls = .ref cl.c ∧ ∃ dd fs vs, d = some dd ∧ H dd = some (.xd fs) ∧ cl.fs.map (fun f => fs.lookup f) = vs.map some ∧ Tell Q cl.tag vs H
theorem lenD2 {α : Type} : ∀ {l : List α}, l.length = 2 → ∃ a b, l = [a, b]
  | [a, b], _ => ⟨a, b, rfl⟩
theorem lenD3 {α : Type} : ∀ {l : List α}, l.length = 3 → ∃ a b c, l = [a, b, c]
  | [a, b, c], _ => ⟨a, b, c, rfl⟩
def TTg (cs : List Cl) : (XK → Hp → VK → Prop) → Hp → VK → Prop := fun tl H Q => ∀ H0, Ex H H0 → tl (HearG cs Q) H0 (MadeQ Q)
theorem s_lamG {T : List (Addr × Str)} {cs : List Cl} {t : XK → TE} {σ : L2.St} {H : Hp} {Q : VK} (hT : Tabs T H) (k : ∀ H1, Tx H H1 → Tabs T H1 → t (HearG cs Q) σ H1 (MadeQ Q)) : tLam T (TTg cs) t σ H Q :=
  ⟨hT, fun H1 e hT1 H0 e0 => k H0 ((Tx.of e).trans e0.tx) (hT1.ext e0)⟩
def hearG (cs : List Cl) (k : D → S → Prop) : XD := fun cls fs s => ∃ cl ∈ cs, cls = .ref cl.c ∧ ∃ ds, cl.fs.map (fun f => fs.lookup f) = ds.map some ∧ cl.tag.length ≤ sizeLine ∧ ds.length < 100 ∧ k (.tup (.str cl.tag :: ds)) s
def dHearG (cs : List Cl) (t : DE) (s : S) (k : D → S → Prop) (_ : XD) : Prop := t s (fun d s1 => k (.tup [.str "made", d]) s1) (hearG cs k)
theorem looks_rep {K : PySem.W.Frag} {f : Hp} {gs : List (Str × D)} {xs : List (Str × V)} (r : RepF K f gs xs) : ∀ {fs : List Str} {ds : List D}, fs.map (fun f => gs.lookup f) = ds.map some → ∃ vs, fs.map (fun f => xs.lookup f) = vs.map some ∧ Reps K f ds vs
  | [], ds, h => by
    cases ds with
    | nil => exact ⟨[], rfl, rfl⟩
    | cons d ds => cases h
  | f :: fs, ds, h => by
    cases ds with
    | nil => cases h
    | cons d ds =>
      rw [List.map_cons, List.map_cons] at h
      injection h with h1 h2
      obtain ⟨v, e1, e2⟩ := (r.look f).1 d h1
      obtain ⟨vs, e3, e4⟩ := looks_rep r h2
      exact ⟨v :: vs, by rw [List.map_cons, List.map_cons, e1, e3], v, vs, rfl, e2, e4⟩
section
variable {X : Cx} {T : List (Addr × Str)} {W : WX} {e : Expr} {cs : List Cl} {t : DE}
theorem d_hearG (h : PE X e (tLam T (TTg cs) fun E => lE X.K T (wxE E) t)) (hT : T ≠ []) : PE X e (lE X.K T W (dHearG cs t)) :=
  h.up fun σ H Q ⟨g, f, s, XQ, Kd, ok, xo, h, hQ⟩ => s_lamG ok.wo.tab fun H1 tx tb => by
    have ok1 := ok.tx hT tx tb
    refine ⟨{ g with f := f }, f, s, hearG cs Kd, fun d s1 => Kd (.tup [.str "made", d]) s1, ok1.sub, fun cls fs s1 f1 H1 xs dd ok2 hd hr hx => ?_, h, fun d s1 v f1 H1 hk e1 ok2 r => ?_⟩
    · replace hd := ok2.fr.inn _ _ hd
      obtain ⟨ok3, e3⟩ := ok1.unsub ok2
      have hQ' : ∀ d s' v f' H', Kd d s' → Ex f1 f' → Okay X.K T g f' H' σ s' → Rep X.K f' d v → Q v H' := fun d s' v f' H' hk e ok r => hQ d s' v f' H' hk (e3.trans e) ok r
      obtain ⟨cl, hm, rfl, ds, hl, ht, hn, hx⟩ := hx
      obtain ⟨vs, e1, r1⟩ := looks_rep hr hl
      exact ⟨cl, hm, rfl, dd, xs, vs, rfl, hd, e1, tell_of ok3 r1 ht hn hx hQ'⟩
    · obtain ⟨ok3, e3⟩ := ok1.unsub ok2
      exact made_q (tell_of ok3 (.one r) (by decide +kernel) (by show 1 < 100; omega) hk fun d s' v f' H' hk e ok r => hQ d s' v f' H' hk (e3.trans e) ok r)
end
end DL

/-! DL: what the proofs of plain laws use. -/
namespace DL
open PySem PySem.Spec PyProof.Rows L2 Z LamX
section
variable {A B P : Prop} [Decidable P]
theorem iteDT (p : P) (h : A) : if decide P = true then A else B := by rw [if_pos (decide_eq_true p)]; exact h
theorem iteDF (p : ¬P) (h : B) : if decide P = true then A else B := by rw [decide_eq_false p]; exact h
theorem iteNT (p : ¬P) (h : A) : if (!decide P) = true then A else B := by rw [decide_eq_false p]; exact h
theorem iteNF (p : P) (h : B) : if (!decide P) = true then A else B := by rw [decide_eq_true p]; exact h
theorem iteD (h : P → A) (h' : ¬P → B) : if decide P = true then A else B := by
  by_cases p : P
  · exact iteDT p (h p)
  · exact iteDF p (h' p)
theorem iteN (h : ¬P → A) (h' : P → B) : if (!decide P) = true then A else B := by
  by_cases p : P
  · exact iteNF p (h' p)
  · exact iteNT p (h p)
theorem iteT2 (h : A) : if (!false) = true then A else B := h
theorem iteF2 (h : B) : if (!true) = true then A else B := h
/-- what `in` and `not in` leave -/
theorem iteC {a b : Bool} (h : if b = true then A else B) : if (if false = true then a else b) = true then A else B := h
theorem iteC2 {a b : Bool} (h : if (!b) = true then A else B) : if (!(if false = true then a else b)) = true then A else B := h
theorem iteC3 {a b : Bool} (h : if a = true then A else B) : if (if true = true then a else b) = true then A else B := h
theorem iteB {b : Bool} (h : b = true → A) (h' : b = false → B) : if b = true then A else B := by
  cases b
  · exact h' rfl
  · exact h rfl
end
theorem nxI {u : DS} {en : En} {s : S} (h : u s en) : nxT u en s := h
theorem loop_ind {tg : DG} {b : DS} {en : En} (P : List D → S → Prop) (h1 : ∀ d r s, P (d :: r) s → (∀ s', P r s' → loopD tg b en r s') → tg d s fun s1 => b s1 { en with nx := loopD tg b en r, ct := loopD tg b en r, bk := en.nx })
    (h0 : ∀ s, P [] s → en.nx s) : ∀ {ds : List D} {s : S}, P ds s → loopD tg b en ds s
  | [], s, h => h0 s h
  | d :: r, s, h => h1 d r s h fun s' h' => loop_ind P h1 h0 h'
theorem lc_ind {gt : DG} {tt : DT} {te : DE} {vs : List Nat} {k : List D → S → Prop} (P : List D → List D → S → Prop)
    (h1 : ∀ d r acc s, P (d :: r) acc s → (∀ acc' s', P r acc' s' → lcD gt tt te vs k r acc' s') → gt d s fun s1 => tt s1 (fun b s2 => if b = true then te s2 (fun e s3 => lcD gt tt te vs k r (acc ++ [e]) (s3.wipe vs)) noXS else lcD gt tt te vs k r acc (s2.wipe vs)) noXS)
    (h0 : ∀ acc s, P [] acc s → k acc s) : ∀ {ds acc : List D} {s : S}, P ds acc s → lcD gt tt te vs k ds acc s
  | [], acc, s, h => h0 acc s h
  | d :: r, acc, s, h => h1 d r acc s h fun acc' s' h' => lc_ind P h1 h0 h'
theorem at_10 {α : Type} {a : α} : L2.atI [a] 0 = some a := rfl
theorem at_20 {α : Type} {a b : α} : L2.atI [a, b] 0 = some a := rfl
theorem at_21 {α : Type} {a b : α} : L2.atI [a, b] 1 = some b := rfl
theorem at_30 {α : Type} {a b c : α} : L2.atI [a, b, c] 0 = some a := rfl
theorem at_31 {α : Type} {a b c : α} : L2.atI [a, b, c] 1 = some b := rfl
theorem at_32 {α : Type} {a b c : α} : L2.atI [a, b, c] 2 = some c := rfl
theorem at_40 {α : Type} {a b c d : α} : L2.atI [a, b, c, d] 0 = some a := rfl
theorem at_41 {α : Type} {a b c d : α} : L2.atI [a, b, c, d] 1 = some b := rfl
theorem at_42 {α : Type} {a b c d : α} : L2.atI [a, b, c, d] 2 = some c := rfl
theorem at_43 {α : Type} {a b c d : α} : L2.atI [a, b, c, d] 3 = some d := rfl
theorem at_50 {α : Type} {a b c d e : α} : L2.atI [a, b, c, d, e] 0 = some a := rfl
theorem at_51 {α : Type} {a b c d e : α} : L2.atI [a, b, c, d, e] 1 = some b := rfl
theorem at_52 {α : Type} {a b c d e : α} : L2.atI [a, b, c, d, e] 2 = some c := rfl
theorem at_53 {α : Type} {a b c d e : α} : L2.atI [a, b, c, d, e] 3 = some d := rfl
theorem at_54 {α : Type} {a b c d e : α} : L2.atI [a, b, c, d, e] 4 = some e := rfl
theorem rangeD_succ {lo : Int} {n : Nat} : rangeD lo (n + 1) = .int lo :: rangeD (lo + 1) n := by
  unfold rangeD
  rw [List.range_succ_eq_map, List.map_cons, List.map_map]
  congr 1
  · simp
  · refine List.map_congr_left fun i _ => ?_
    show D.int (lo + ((i + 1 : Nat) : Int)) = D.int (lo + 1 + (i : Nat))
    congr 1
    omega
theorem rangeD_zero {lo : Int} : rangeD lo 0 = [] := rfl
theorem rangeD_len {lo : Int} {n : Nat} : (rangeD lo n).length = n := by unfold rangeD; simp
theorem rangeC_zero {lo c : Int} : rangeC lo c 0 = [] := rfl
theorem rangeC_len {lo c : Int} {n : Nat} : (rangeC lo c n).length = n := by unfold rangeC; simp
theorem rangeC_succ {lo c : Int} {n : Nat} : rangeC lo c (n + 1) = .int lo :: rangeC (lo + c) c n := by
  unfold rangeC
  rw [List.range_succ_eq_map, List.map_cons, List.map_map]
  congr 1
  · simp
  · refine List.map_congr_left fun i _ => ?_
    show D.int (lo + ((i + 1 : Nat) : Int) * c) = D.int (lo + c + (i : Nat) * c)
    congr 1
    rw [Int.natCast_succ, Int.add_mul]
    omega
theorem atI_nat {α : Type} {xs : List α} {i : Nat} : L2.atI xs (i : Int) = xs[i]? := by
  unfold L2.atI ixN
  rw [if_pos (by omega)]
  by_cases h : (i : Int) < xs.length
  · rw [if_pos h]
    simp
  · rw [if_neg h]
    rw [List.getElem?_eq_none_iff.mpr (show xs.length ≤ i by omega)]
    rfl
theorem atI_pos {α : Type} {xs : List α} {i : Int} (h : 0 ≤ i) : L2.atI xs i = xs[i.toNat]? := by
  obtain ⟨n, rfl⟩ := Int.eq_ofNat_of_zero_le h
  exact atI_nat
theorem cut_to {xs : List D} {n : Int} (h : 0 ≤ n) : cutD xs none (some n) = xs.take n.toNat := by
  obtain ⟨m, rfl⟩ := Int.eq_ofNat_of_zero_le h
  unfold cutD
  rw [HT.sIx_none, HT.sIx_nat]
  simp only [List.drop_zero, Int.toNat_natCast, Nat.sub_zero]
  by_cases z : m ≤ xs.length
  · rw [Nat.min_eq_left z]
  · rw [Nat.min_eq_right (by omega), List.take_length, List.take_of_length_le (by omega)]
theorem cut_from {xs : List D} {n : Int} (h : 0 ≤ n) : cutD xs (some n) none = xs.drop n.toNat := by
  obtain ⟨m, rfl⟩ := Int.eq_ofNat_of_zero_le h
  unfold cutD
  rw [HT.sIx_none, HT.sIx_nat, Int.toNat_natCast]
  by_cases z : m ≤ xs.length
  · rw [Nat.min_eq_left z, List.take_of_length_le (by simp)]
  · rw [Nat.min_eq_right (by omega), List.drop_length, List.drop_eq_nil_of_le (by omega), List.take_nil]
theorem cut_both {xs : List D} {n m : Int} (h : 0 ≤ n) (h' : n ≤ m) (h2 : m ≤ xs.length) : cutD xs (some n) (some m) = (xs.drop n.toNat).take (m - n).toNat := by
  obtain ⟨a, rfl⟩ := Int.eq_ofNat_of_zero_le h
  obtain ⟨b, rfl⟩ := Int.eq_ofNat_of_zero_le (Int.le_trans h h')
  unfold cutD
  rw [HT.sIx_nat, HT.sIx_nat, Nat.min_eq_left (by omega), Nat.min_eq_left (by omega), Int.toNat_natCast]
  congr 1
  omega
theorem sz3 {n : Nat} (h : n ≤ 1000) : n ≤ sizeLine := Nat.le_trans h (Nat.le_of_ble_eq_true rfl)
theorem sz4 {n : Nat} (h : n < 1000) : n < sizeLine := Nat.lt_of_lt_of_le h (Nat.le_of_ble_eq_true rfl)
/-! texts of data, and their sizes -/
/-- d is shown, in at most N signs, at most p deep -/
def Shd (ow : Addr → Option FD) (N p : Nat) (d : D) : Prop := ∃ t, Shn ow d t ∧ t.length ≤ N ∧ dpt d ≤ p
def Shds (ow : Addr → Option FD) (N p : Nat) (ds : List D) : Prop := ∃ ts, Shns ow ds ts ∧ (ts.map (·.length)).sum ≤ N ∧ dpts ds ≤ p
section
variable {ow : Addr → Option FD} {N M p q : Nat} {d : D} {ds : List D}
theorem Shd.mono (h : Shd ow N p d) (h1 : N ≤ M) (h2 : p ≤ q) : Shd ow M q d := by
  obtain ⟨t, a, b, c⟩ := h
  exact ⟨t, a, by omega, by omega⟩
theorem shds_nil {p : Nat} : Shds ow 0 p [] := ⟨[], rfl, Nat.le_refl _, Nat.zero_le _⟩
theorem shds_cons (h : Shd ow N p d) (h' : Shds ow M p ds) : Shds ow (N + M) p (d :: ds) := by
  obtain ⟨t, a, b, c⟩ := h
  obtain ⟨ts, a', b', c'⟩ := h'
  refine ⟨t :: ts, ⟨t, ts, rfl, a, a'⟩, ?_, ?_⟩
  · simp only [List.map_cons, List.sum_cons]
    omega
  · show max (dpt d) (dpts ds) ≤ p
    omega
theorem Shds.mono (h : Shds ow N p ds) (h1 : N ≤ M) (h2 : p ≤ q) : Shds ow M q ds := by
  obtain ⟨t, a, b, c⟩ := h
  exact ⟨t, a, by omega, by omega⟩
theorem shds_all : ∀ {ds : List D}, (∀ d ∈ ds, Shd ow N p d) → Shds ow (ds.length * N) p ds
  | [], _ => shds_nil.mono (by omega) (Nat.le_refl _)
  | d :: ds, h => (shds_cons (h d (by simp)) (shds_all (ds := ds) fun d hd => h d (by simp [hd]))).mono (by rw [List.length_cons, Nat.succ_mul]; omega) (by omega)
theorem shns_len {ow : Addr → Option FD} : ∀ {ds : List D} {ts : List Str}, Shns ow ds ts → ts.length = ds.length
  | [], _, h => by cases h; rfl
  | _ :: _, _, ⟨_, _, h, _, h'⟩ => by subst h; exact congrArg Nat.succ (shns_len h')
theorem shd_lst (h : Shds ow N p ds) : Shd ow (N + 2 * ds.length + 3) (p + 1) (.lst ds) := by
  obtain ⟨ts, a, b, c⟩ := h
  have e := listText_len_le ts
  have l := shns_len a
  exact ⟨_, ⟨ts, a, rfl⟩, by omega, by show 1 + dpts ds ≤ p + 1; omega⟩
theorem shd_tup (h : Shds ow N p ds) : Shd ow (N + 2 * ds.length + 3) (p + 1) (.tup ds) := by
  obtain ⟨ts, a, b, c⟩ := h
  have e := tupleText_len_le ts
  have l := shns_len a
  exact ⟨_, ⟨ts, a, rfl⟩, by omega, by show 1 + dpts ds ≤ p + 1; omega⟩
theorem shd_int {i : Int} (h : i.natAbs < 2 ^ 100) : Shd ow 110 0 (.int i) := ⟨_, ⟨log_100 h, rfl⟩, Nat.le_trans (str_len h) (by decide), Nat.le_refl _⟩
theorem shd_non : Shd ow 110 0 .non := ⟨_, rfl, by decide +kernel, Nat.le_refl _⟩
theorem shd_bl {b : Bool} : Shd ow 110 0 (.bl b) := ⟨_, rfl, by cases b <;> decide +kernel, Nat.le_refl _⟩
theorem shd_str {z : Str} (h : (reprText z).length ≤ N) (h' : N ≤ sizeLine) : Shd ow N 0 (.str z) := ⟨_, ⟨by omega, rfl⟩, by omega, Nat.le_refl _⟩
def D.rk : D → Bool
  | .int _ => true
  | .lst _ => true
  | .tup _ => true
  | .obj _ _ => true
  | _ => false
theorem brepr_of {t : Str} {k : D → Prop} (h : Shn ow d t) (hl : t.length ≤ sizeLine) (hd : dpt d ≤ 12) (hk : d.rk = true) (h' : k (.str t)) : bRepr ow [d] k := by
  refine ⟨⟨t, ⟨h, hl, hd⟩, h'⟩, ?_⟩
  cases d <;> first | exact True.intro | cases hk
/-- repr of the same twice -/
theorem Shd.two (h : Shd ow N p d) (hN : N ≤ sizeLine) (hp : p ≤ 12) (hk : d.rk = true) : ∃ t, Shn ow d t ∧ t.length ≤ N ∧ ∀ {k : D → Prop}, k (.str t) → bRepr ow [d] k := by
  obtain ⟨t, a, b, c⟩ := h
  exact ⟨t, a, b, fun h' => brepr_of a (by omega) (by omega) hk h'⟩
end
end DL

/-! DL: several names at once, some with things of one's own. -/
namespace DL
open PySem PySem.Spec PyProof.Rows L2 Z LamX
inductive Mi where
  | dat (d : D) | own (o : OD)
section
variable (K : PySem.W.Frag) (T : List (Addr × Str)) (g : Gd) (f H : Hp) (σ : L2.St) (s : S)
/-- a new thing of one's own, none of these -/
structure New (fb : List Addr) (a : Addr) (o : OD) : Prop where
  at_ : OwnAt K f H a o
  nx : Nx T g.H a
  pen : s.n ≠ 0 → a ≠ s.p
  rs : ∀ q ∈ g.rs, q.1 ≠ a
  sl : ∀ (j : Nat) (b : Bool) (u : OD), s.lv[j]? = some (some (LV.own b u)) → σ[j]? ≠ some (some (V.ref a))
  fb : ∀ b ∈ fb, b ≠ a
def Mx : List Addr → List Mi → List V → Prop
  | _, [], vs => vs = []
  | fb, .dat d :: r, vs => ∃ v ws, vs = v :: ws ∧ Rep K f d v ∧ Mx fb r ws
  | fb, .own o :: r, vs => ∃ a ws, vs = .ref a :: ws ∧ New K T g f H σ s fb a o ∧ Mx (a :: fb) r ws
end
abbrev DMx := S → (List Mi → S → Prop) → XD → Prop
def lM (K : PySem.W.Frag) (T : List (Addr × Str)) (W : WX) (t : DMx) : TA := fun σ H Q => ∃ g f s XQ Kd, Okay K T g f H σ s ∧ XOk K T W g σ XQ ∧ t s Kd XQ ∧ ∀ its s' vs f' H', Kd its s' → Ex f f' → Okay K T g f' H' σ s' → Mx K T g f' H' σ s' [] its vs → Q vs H'
def mNil (s : S) (k : List Mi → S → Prop) (_ : XD) : Prop := k [] s
def mDat (te : DE) (tm : DMx) (s : S) (k : List Mi → S → Prop) (x : XD) : Prop := te s (fun d s1 => tm s1 (fun its s2 => k (.dat d :: its) s2) x) x
def mOwn (tn : DN) (tm : DMx) (s : S) (k : List Mi → S → Prop) (x : XD) : Prop := tn s (fun o s1 => tm s1 (fun its s2 => k (.own o :: its) s2) x) x
section
variable {K : PySem.W.Frag} {T : List (Addr × Str)} {g : Gd} {f H f' H' : Hp} {σ : L2.St} {s s' : S} {a : Addr} {o : OD}
theorem Okay.rsAdd {u : HO} (k : Okay K T g f H σ s) (h : New K T g f H σ s [] a o) (hu : H a = some u) (hf : f a = none) (ht : plainO u = true) : Okay K T { g with rs := (a, u) :: g.rs } f H σ s :=
  ⟨k.fr, k.px, k.pq, k.wo, k.len, k.val, k.own, fun q hq => by
    rcases List.mem_cons.mp hq with rfl | hq
    · exact ⟨hu, hf, h.nx, ht, h.pen, h.sl⟩
    · exact k.rs q hq, k.one⟩
theorem OwnAt.plain (h : OwnAt K f H a o) : f a = none ∧ ∃ u, H a = some u ∧ plainO u = true := by
  cases o with
  | lst ds => exact ⟨h.1, _, h.2.choose_spec.1, rfl⟩
  | dic ds => exact ⟨h.1, _, h.2.choose_spec.1, rfl⟩
  | obj C ds => exact ⟨h.1, _, h.2.choose_spec.choose_spec.1, rfl⟩
theorem OwnAt.same {u : HO} (h : OwnAt K f H a o) (hu : H a = some u) (hu' : H' a = some u) (hf : f' a = none) (e : Ex f f') : OwnAt K f' H' a o := by
  cases o with
  | lst ds =>
    obtain ⟨n, xs, q, r, l⟩ := h
    exact ⟨hf, xs, by rw [hu', ← hu, q], r.ex e, l⟩
  | dic ds =>
    obtain ⟨n, xs, q, r, l⟩ := h
    exact ⟨hf, xs, by rw [hu', ← hu, q], r.ex e, l⟩
  | obj C ds =>
    obtain ⟨n, dx, xs, q, r⟩ := h
    exact ⟨hf, dx, xs, by rw [hu', ← hu, q], r.ex e⟩
theorem Mx.weak {rs : List (Addr × HO)} : ∀ {its : List Mi} {fb : List Addr} {vs : List V}, Mx K T { g with rs := rs } f H σ s fb its vs → (∀ q ∈ g.rs, q ∈ rs) → (∀ q ∈ rs, q ∈ g.rs ∨ q.1 = a) → (∃ q ∈ rs, q.1 = a) → ∀ {fb' : List Addr}, (∀ b ∈ fb', b ∈ fb ∨ b = a) → Mx K T g f H σ s fb' its vs
  | [], _, _, h, _, _, _, _, _ => h
  | .dat d :: r, fb, vs, ⟨v, ws, e, rr, m⟩, h1, h2, h3, fb', h4 => ⟨v, ws, e, rr, Mx.weak m h1 h2 h3 h4⟩
  | .own o :: r, fb, vs, ⟨b, ws, e, n, m⟩, h1, h2, h3, fb', h4 => by
    refine ⟨b, ws, e, ⟨n.at_, n.nx, n.pen, fun q hq => n.rs q (h1 q hq), n.sl, fun c hc => ?_⟩, Mx.weak m h1 h2 h3 fun c hc => ?_⟩
    · rcases h4 c hc with z | z
      · exact n.fb c z
      · obtain ⟨q, hq, e⟩ := h3
        rw [z, ← e]
        exact n.rs q hq
    · rcases List.mem_cons.mp hc with rfl | hc
      · exact .inl (by simp)
      · exact (h4 c hc).imp (fun z => by simp [z]) id
end
section
variable {X : Cx} {T : List (Addr × Str)} {W : WX} {e : Expr} {es : List Expr} {te : DE} {tn : DN} {tm : DMx}
theorem dm_nil : PA X [] (lM X.K T W mNil) := pa_nil.up fun σ H Q ⟨g, f, s, XQ, Kd, ok, xo, h, hQ⟩ => hQ [] s [] f H h (Ex.refl _) ok rfl
theorem dm_dat (ha : PE X e (lE X.K T W te)) (hr : PA X es (lM X.K T W tm)) (hs : starEach (e :: es) X.env = (false, eval e X.env) :: starEach es X.env := by rfl) : PA X (e :: es) (lM X.K T W (mDat te tm)) :=
  (pa_cons ha hr hs).up fun σ H Q ⟨g, f, s, XQ, Kd, ok, xo, h, hQ⟩ => ⟨g, f, s, XQ, _, ok, xo, h, fun x s1 v f1 H1 hx e1 ok1 r1 => ⟨g, f1, s1, XQ, _, ok1, xo, hx, fun its s2 us f2 H2 hy e2 ok2 m2 =>
    hQ (.dat x :: its) s2 (v :: us) f2 H2 hy (e1.trans e2) ok2 ⟨v, us, rfl, r1.ex e2, m2⟩⟩⟩
theorem dm_own (ha : PE X e (lN X.K T W tn)) (hr : PA X es (lM X.K T W tm)) (hs : starEach (e :: es) X.env = (false, eval e X.env) :: starEach es X.env := by rfl) : PA X (e :: es) (lM X.K T W (mOwn tn tm)) :=
  (pa_cons ha hr hs).up fun σ H Q ⟨g, f, s, XQ, Kd, ok, xo, h, hQ⟩ => ⟨g, f, s, XQ, _, ok, xo, h, fun o s1 a f1 H1 hx e1 ok1 ow h0 hp hrs hsl => by
    obtain ⟨hfa, u, hu, hpl⟩ := ow.plain
    have nw : New X.K T g f1 H1 σ s1 [] a o := ⟨ow, h0, hp, hrs, hsl, fun b hb => by cases hb⟩
    have okA := ok1.rsAdd nw hu hfa hpl
    refine ⟨{ g with rs := (a, u) :: g.rs }, f1, s1, XQ, _, okA, fun cls fs s f H xs dd ok h1 h2 h3 => xo cls fs s f H xs dd ok.rsDrop h1 h2 h3, hx, fun its s2 us f2 H2 hy e2 ok2 m2 => ?_⟩
    obtain ⟨q1, q2, q3, q4, q5, q6⟩ := ok2.rs (a, u) (by simp)
    refine hQ (.own o :: its) s2 (.ref a :: us) f2 H2 hy (e1.trans e2) ok2.rsDrop ⟨a, us, rfl, ⟨ow.same hu q1 q2 e2, h0, q5, hrs, q6, fun b hb => by cases hb⟩, ?_⟩
    exact Mx.weak m2 (fun q hq => by simp [hq]) (fun q hq => (List.mem_cons.mp hq).symm.imp id fun z => by rw [z]) ⟨(a, u), by simp, rfl⟩ fun b hb => .inr (List.mem_singleton.mp hb)⟩
end
def S.putM (s : S) (i : Nat) : Mi → S
  | .dat d => s.put i d
  | .own o => s.putO i true o
section
variable {K : PySem.W.Frag} {T : List (Addr × Str)} {g : Gd} {f H f' H' : Hp} {σ : L2.St} {s s' : S} {a : Addr} {o : OD} {i : Nat}
theorem Mx.put {d : D} {v : V} : ∀ {its : List Mi} {fb : List Addr} {vs : List V}, Mx K T g f H σ s fb its vs → Mx K T g f H (σ.set i (some v)) (s.put i d) fb its vs
  | [], _, _, h => h
  | .dat d :: r, fb, vs, ⟨v, ws, e, rr, m⟩ => ⟨v, ws, e, rr, m.put⟩
  | .own o :: r, fb, vs, ⟨b, ws, e, n, m⟩ => ⟨b, ws, e, ⟨n.at_, n.nx, n.pen, n.rs, fun j c u hj => by
    unfold S.put at hj
    dsimp only at hj
    rw [List.getElem?_set] at hj ⊢
    split at hj
    · split at hj <;> cases hj
    · rename_i ne
      rw [if_neg ne]
      exact n.sl j c u hj, n.fb⟩, m.put⟩
theorem Mx.putO (hl : σ.length = s.lv.length) : ∀ {its : List Mi} {fb : List Addr} {vs : List V}, a ∈ fb → Mx K T g f H σ s fb its vs → Mx K T g f H (σ.set i (some (.ref a))) (s.putO i true o) fb its vs
  | [], _, _, _, h => h
  | .dat d :: r, fb, vs, ha, ⟨v, ws, e, rr, m⟩ => ⟨v, ws, e, rr, m.putO hl ha⟩
  | .own o :: r, fb, vs, ha, ⟨b, ws, e, n, m⟩ => ⟨b, ws, e, ⟨n.at_, n.nx, n.pen, n.rs, fun j c u hj => by
    unfold S.putO at hj
    dsimp only at hj
    rw [List.getElem?_set] at hj ⊢
    split at hj
    · rename_i e
      subst e
      split at hj
      · rename_i hlt
        rw [if_pos rfl, if_pos (by rw [hl]; exact hlt)]
        intro z
        cases z
        exact n.fb a ha rfl
      · cases hj
    · rename_i ne
      rw [if_neg ne]
      exact n.sl j c u hj, n.fb⟩, m.putO hl (by simp [ha])⟩
/-- the first of these is given to a name -/
theorem Mx.step {it : Mi} {its : List Mi} {fb : List Addr} {vs : List V} (ok : Okay K T g f H σ s) (m : Mx K T g f H σ s fb (it :: its) vs) : ∃ v ws fb', vs = v :: ws ∧ Okay K T g f H (σ.set i (some v)) (s.putM i it) ∧ Mx K T g f H (σ.set i (some v)) (s.putM i it) fb' its ws := by
  cases it with
  | dat d =>
    obtain ⟨v, ws, e, r, m⟩ := m
    exact ⟨v, ws, fb, e, ok.set r, m.put⟩
  | own o =>
    obtain ⟨a, ws, e, n, m⟩ := m
    exact ⟨_, ws, a :: fb, e, ok.setOwn n.at_ n.nx n.sl n.pen n.rs, m.putO ok.len (by simp)⟩
end
def dParM (i j : Nat) (tm : DMx) (s : S) (en : En) : Prop := tm s (fun its s1 => match its with
  | [a, b] => en.nx ((s1.putM i a).putM j b)
  | _ => False) en.ex
def dParM3 (i j l : Nat) (tm : DMx) (s : S) (en : En) : Prop := tm s (fun its s1 => match its with
  | [a, b, c] => en.nx (((s1.putM i a).putM j b).putM l c)
  | _ => False) en.ex
section
variable {X : Cx} {T : List (Addr × Str)} {W : WX} {a b c : Expr} {tm : DMx} {i j l : Nat} {pos : Pos}
theorem ds_parM {x y : Str} {px py pt : Pos} {kt k2 pt2} (hc : X.calm = true) (hN : X.N.Nodup) (hi : X.N[i]? = some x) (hj : X.N[j]? = some y) (hij : i ≠ j)
    (hx : X.env.scope.names.lookup x = some .local) (hy : X.env.scope.names.lookup y = some .local) (ha : PA X [a, b] (lM X.K T W tm))
    (hw : swappedStores [.Tuple [.Name x px, .Name y py] kt pt] (.Tuple [a, b] k2 pt2) X.env = pure (some [x, y]))
    (hs : swapsWithSole [.Tuple [.Name x px, .Name y py] kt pt] (.Tuple [a, b] k2 pt2) pos.line X.env = pure false := by rfl) :
    PS X (.Assign [.Tuple [.Name x px, .Name y py] kt pt] (.Tuple [a, b] k2 pt2) pos) (lS X.K T W (dParM i j tm)) :=
  (ps_par hc hN hi hj hij hx hy ha hw hs).up fun D σ H ⟨g, f, s, en, ok, xo, h, q1, _⟩ => ⟨g, f, s, en.ex, _, ok, xo _, h, fun its s1 us f1 H1 hk e1 ok1 m1 => by
    split at hk
    · obtain ⟨u, w1, f1', rfl, k1, m2⟩ := m1.step (i := i) ok1
      obtain ⟨v, w2, f2', rfl, k2, m3⟩ := m2.step (i := j) k1
      cases m3
      exact ⟨u, v, rfl, q1 _ _ f1 H1 hk e1 k2⟩
    · exact hk.elim⟩
theorem ds_parM3 {x y z : Str} {px py pz pt : Pos} {kt k2 pt2} (hc : X.calm = true) (hN : X.N.Nodup) (hi : X.N[i]? = some x) (hj : X.N[j]? = some y) (hl : X.N[l]? = some z) (hij : i ≠ j) (hil : i ≠ l) (hjl : j ≠ l)
    (hx : X.env.scope.names.lookup x = some .local) (hy : X.env.scope.names.lookup y = some .local) (hz : X.env.scope.names.lookup z = some .local) (ha : PA X [a, b, c] (lM X.K T W tm))
    (hw : swappedStores [.Tuple [.Name x px, .Name y py, .Name z pz] kt pt] (.Tuple [a, b, c] k2 pt2) X.env = pure (some [x, y, z]))
    (hs : swapsWithSole [.Tuple [.Name x px, .Name y py, .Name z pz] kt pt] (.Tuple [a, b, c] k2 pt2) pos.line X.env = pure false := by rfl) :
    PS X (.Assign [.Tuple [.Name x px, .Name y py, .Name z pz] kt pt] (.Tuple [a, b, c] k2 pt2) pos) (lS X.K T W (dParM3 i j l tm)) :=
  (ps_par3 hc hN hi hj hl hij hil hjl hx hy hz ha hw hs).up fun D σ H ⟨g, f, s, en, ok, xo, h, q1, _⟩ => ⟨g, f, s, en.ex, _, ok, xo _, h, fun its s1 us f1 H1 hk e1 ok1 m1 => by
    split at hk
    · obtain ⟨u, w1, f1', rfl, k1, m2⟩ := m1.step (i := i) ok1
      obtain ⟨v, w2, f2', rfl, k2, m3⟩ := m2.step (i := j) k1
      obtain ⟨v3, w3, f3', rfl, k3, m4⟩ := m3.step (i := l) k2
      cases m4
      exact ⟨u, v, v3, rfl, q1 _ _ f1 H1 hk e1 k3⟩
    · exact hk.elim⟩
end
/-- list(e) of one's own -/
def lstOwn (d : D) (k : OD → Prop) : Prop := match d with
  | .lst ds => k (.lst ds)
  | .tup ds => k (.lst ds)
  | _ => False
def dListN (te : DE) (s : S) (k : OD → S → Prop) (x : XD) : Prop := te s (fun d s1 => lstOwn d fun o => k o s1) x
section
variable {X : Cx} {T : List (Addr × Str)} {W : WX} {e : Expr} {te : DE} {x : Str} {p pos : Pos}
theorem d_listN (hg : Gl X x) (hm : X.mg x = none) (hv : bootBuiltins x = some (.type "list")) (he : PE X e (lE X.K T W te)) (hn : x ≠ "__name__" := by decide) (hdb : (x == ("__debug__" : Str)) = false := by decide)
    (hst : starEach [e] X.env = (false, eval e X.env) :: starEach [] X.env := by rfl) (hpl : (backTo pos (starEach [] X.env)).any (·.1) = false := by rfl) : PE X (.Call (.Name x p) [e] [] pos) (lN X.K T W (dListN te)) :=
  (pe_callTy call_list_of hg hm hv (d_cons he d_nil hst) hn hdb hst hpl).up fun σ H Q ⟨g, f, s, XQ, Kd, ok, xo, h, hQ⟩ => ⟨g, f, s, XQ, fun ds s1 => match ds with
  | [d] => lstOwn d fun o => Kd o s1
  | _ => False, ok, xo, h, fun ds s1 vs f1 H1 hx e1 ok1 r1 => by
    dsimp only at hx
    split at hx
    rotate_left
    · exact hx.elim
    rename_i d
    obtain ⟨v, _, rfl, r1, rfl⟩ := r1
    have go : ∀ {a : Addr} {xs : List V} {ds : List D}, Reps X.K f1 ds xs → ds.length ≤ sizeLine → Kd (.lst ds) s1 → ∀ p, H1 p = none → Q (.ref p) (upd H1 p (.lst xs)) := fun {a xs ds} r l hk p hp => by
      obtain ⟨n1, n2, n3, n4, n5⟩ := new_own (u := .lst xs) ok1 hp
      exact hQ (.lst _) s1 p f1 _ hk e1 n1 ⟨ok1.fr.inn.free hp, xs, upd_same, r, l⟩ n2 n3 n4 n5
    cases d with
    | lst ds =>
      obtain ⟨a, xs, rfl, h1, h2, hl⟩ := r1
      exact ⟨a, xs, rfl, .inl (sql_of (ok1.fr.inn _ _ h1)), go (a := a) h2 hl hx⟩
    | tup ds =>
      obtain ⟨a, xs, rfl, h1, h2, hl⟩ := r1
      exact ⟨a, xs, rfl, .inr (ok1.fr.inn.tq h1), go (a := a) h2 hl hx⟩
    | _ => exact (show False from hx).elim⟩
end
end DL

/-! DL: cls(..), methods of classes, by position and by keyword. -/
namespace DL
open PySem PySem.Spec PyProof.Rows L2 Z LamX
section
variable {X : Cx} {T : List (Addr × Str)} {ee : XK} {C : Addr} {φ : FI} {tr : DR} {σ : L2.St} {H : Hp} {Q : VK}
theorem make_up (h : lE X.K T (wxE ee) (dMake C φ tr) σ H Q) : tMake C (spI X.K T C φ) [] ee (lA X.K T (wxE ee) tr) σ H Q := by
  obtain ⟨g, f, s, XQ, Kd, ok, xo, h, hQ⟩ := h
  refine ⟨g, f, s, XQ, _, ok, xo, h, fun ds s1 vs f1 H1 hx e1 ok1 r1 => ?_⟩
  intro a dx ha' hd ne
  rw [List.append_nil]
  have g1 : Gro f1 H1 f1 (upd H1 dx (.own a)) := Gro.lay ok1.fr.inn hd
  have ha2 : upd H1 dx (.own a) a = none := by rw [upd_ne (Ne.symm ne)]; exact ha'
  have g2 : Gro f1 (upd H1 dx (.own a)) f1 (upd (upd H1 dx (.own a)) a (.ins C dx [])) := Gro.lay g1.inn ha2
  have gr := g1.trans g2
  obtain ⟨_, n2, n3, n4, n5⟩ := new_own (u := .ins C dx []) (ok1.gro g1) ha2
  have back : ∀ {f' H' : Hp}, Fr T (pexI s1.p s1.n a) f1 (upd (upd H1 dx (.own a)) a (.ins C dx [])) f' H' → Fr T (pex s1.p s1.n) f1 H1 f' H' := fun {f' H'} fr =>
    ⟨fr.sub, fr.inn, fun c o h n x t => fr.old c o (gr.all _ _ h) n (fun z => z.elim x fun z => by rw [z, ha'] at h; cases h) t, fun c o h t n => fr.out c o (gr.all _ _ h) t n, fun c o h t => fr.there c o (gr.all _ _ h) t⟩
  refine ⟨f1, s1.p, s1.n, ds, _, _, a, dx, vs, rfl, gr.inn, ok1.wo.gro gr, r1, upd_same, ok1.fr.inn.free ha', n3, hx, fun gs n' f' H' dx' xs hk le fr wo' hn hh rr => ⟨rfl, ?_⟩, fun cls fs n' f' H' xs dd hx le fr wo' hd rr => ?_⟩
  · have ok2 := ok1.call (back fr) wo' le
    obtain ⟨f2, e2, ok3, r3⟩ := ok2.fzNew (a := a) (o := .obj C gs) ⟨hn, dx', xs, hh, rr⟩ n2 (fun z => n3 fun y => z (by show n' = 0; omega)) n4 n5
    exact hQ (.obj C gs) _ _ f2 H' hk (e1.trans (fr.sub.trans e2)) ok3 r3
  · exact xo cls fs _ f' H' xs dd (ok1.call (back fr) wo' le) hd rr hx
end
/-- what slot i holds, called: the class C -/
def dMakeV (i : Nat) (C : Addr) (φ : FI) (tr : DR) (s : S) (k : D → S → Prop) (x : XD) : Prop := (match s.lv[i]? with
  | some (some (.val (.ref a))) => a = C
  | _ => False) ∧ dMake C φ tr s k x
section
variable {X : Cx} {T : List (Addr × Str)} {W : WX} {k i : Nat} {f C : Addr} {fd : FuncData} {ps : List Str} {x : Str} {p pos : Pos} {e : Expr} {es : List Expr} {tr : DR} {φ : FI} {ee : XK}
theorem d_makeV (hW : W = wxE ee) (M : Mk X.K C f) (F : FnOk X.prog X.w X.K X.mg X.base (L2.CX X.prog X.w) k f fd ps (spI X.K T C φ)) (hr : Room (k + 1) X.A) (tk : Takes X W) (hN : X.N[i]? = some x) (hv : Vis X.env.scope x) (hb : Binds X.K fd ps [])
    (ha : PA X (e :: es) (lA X.K T W tr)) (hd : (x == ("__debug__" : Str)) = false := by decide) (hcd : (x == ("__classdict__" : Str)) = false := by decide) (he : starEach (e :: es) X.env = (false, eval e X.env) :: starEach es X.env := by rfl) (hpl : (backTo pos (starEach es X.env)).any (·.1) = false := by rfl) :
    PE X (.Call (.Name x p) (e :: es) [] pos) (lE X.K T W (dMakeV i C φ tr)) := by
  subst hW
  refine ⟨fun pins s σ H Q I h => ?_⟩
  have hs : σ[i]? = some (some (V.ref C)) := by
    obtain ⟨g, f, st, XQ, Kd, ok, xo, ⟨h1, _⟩, hQ⟩ := h
    split at h1
    · rename_i a ea
      subst h1
      obtain ⟨v, e1, e2⟩ := ok.val i _ ea
      cases e2
      exact e1
    · exact h1.elim
  have h2 : lE X.K T (wxE ee) (dMake C φ tr) σ H Q := by
    obtain ⟨g, f, st, XQ, Kd, ok, xo, ⟨_, h1⟩, hQ⟩ := h
    exact ⟨g, f, st, XQ, Kd, ok, xo, h1, hQ⟩
  have h3 := make_up h2
  refine wpAny_Call_Name_kw (thn ((pe_var (pos := p) (i := i) hN hv hd hcd).run pins s σ H (fun v H1 => v = .ref C ∧ H1 = H) I ⟨.ref C, hs, rfl, rfl⟩) fun u s1 ⟨v, H1, I1, r1, ev, eH⟩ => ?_)
  subst ev
  rw [eH] at I1
  cases r1
  refine PySem.W.callWith_K (h₀ := X.base) I1.ok.mod.kin M.kp (thn (ha.run pos pins s1 σ H _ I1 h3) fun us s2 ⟨vs, H2, I2, r, q⟩ => ⟨I2.kIn, ?_⟩) he hpl
  exact run_make M F hr hb .nil (passes_call tk fun _ _ _ _ h => h) I2 r q
end
section
variable {X : Cx} {CX : CXT} {k n : Nat} {C p g f : Addr} {mc : Value} {fd : FuncData} {ps ks : List Str} {sp : Sp} {E : XK} {o e : Expr} {es : List Expr} {m : Str} {pos apos : Pos} {ta : TE} {t tk : TA} {pl : Sem Bool} {kws : List Keyword} {pins : List (Addr × Obj)} {σ : L2.St} {H : Hp} {s : Shared} {Q : VK} {us ws : List Value} {vs zs : List V} {gg : List Value → List Value → List Value} {gV : List V → List V → List V}
theorem code_fn (F : FnOk X.prog X.w X.K X.mg X.base CX k f fd ps sp) (hr : Room k X.A) (hb : Binds X.K fd ps []) (hx : Passes CX X E) (I : Inv X pins σ H s) (r : Vals vs us) (h : sp vs H Q E) :
    codeAny (model X.prog X.w) X.A (.call (.ref f) ⟨us, []⟩) (fun r s' => match r with | .ok (.ret v) => EP X pins σ Q v s' | .ok _ => False | .error e => X.xe e s') s := by
  have r2 : Vals (vs ++ []) (us ++ []) := r.append .nil
  have h2 : sp (vs ++ []) H Q E := by rw [List.append_nil]; exact h
  have hl : (us ++ []).length = ps.length := by rw [← r2.length]; exact F.len _ _ _ _ h2
  refine codeAny_mono (F.run X.A X.stack s H ⟨us, []⟩ (us ++ []) (vs ++ []) Q E hr I.env0 (hb s us I.kIn hl) r2 h2) fun r s' hq => ?_
  cases r with
  | error e => exact hx pins σ H s e s' I hq
  | ok fl =>
    cases fl with
    | ret u => exact I.after hq
    | next => exact False.elim hq
    | brk => exact False.elim hq
    | cont => exact False.elim hq
theorem code_fnN (F : FnOk X.prog X.w X.K X.mg X.base CX k f fd ps sp) (hr : Room k X.A) (hb : KBn X.K fd ps n ks gg gV) (hx : Passes CX X E) (I : Inv X pins σ H s) (r : Vals vs us) (rz : Vals zs ws) (l1 : vs.length = n) (l2 : zs.length = ks.length) (h : sp (gV vs zs) H Q E) :
    codeAny (model X.prog X.w) X.A (.call (.ref f) ⟨us, ks.zip ws⟩) (fun r s' => match r with | .ok (.ret v) => EP X pins σ Q v s' | .ok _ => False | .error e => X.xe e s') s := by
  have r2 := hb.rel r rz
  refine codeAny_mono (F.run X.A X.stack s H ⟨us, ks.zip ws⟩ (gg us ws) (gV vs zs) Q E hr I.env0 (hb.to s us ws I.kIn (r.length.symm.trans l1) (rz.length.symm.trans l2)) r2 h) fun r s' hq => ?_
  cases r with
  | error e => exact hx pins σ H s e s' I hq
  | ok fl =>
    cases fl with
    | ret u => exact I.after hq
    | next => exact False.elim hq
    | brk => exact False.elim hq
    | cont => exact False.elim hq
/-- C.m(..), m a classmethod -/
theorem pe_cmF (he : PE X o ta) (r : ClX.CRead X.K C mc) (c : ClX.CMet X.K C mc m p g) (F : FnOk X.prog X.w X.K X.mg X.base CX k g fd ps sp) (hr : Room k X.A) (hb : Binds X.K fd ps []) (hx : Passes CX X E) (ha : PA X (e :: es) t)
    (hst : starEach (e :: es) X.env = (false, eval e X.env) :: starEach es X.env := by rfl) (hpl : (backTo pos (starEach es X.env)).any (·.1) = false := by rfl)
    (ht : eval (.Call (.Attribute o m apos) (e :: es) [] pos) X.env = (eval o X.env >>= fun ov => standAt apos.atName >>= fun _ => holding [ov] (getMethod ov m pl) >>= fun q => callWith pos q.1 q.2 (backTo pos (starEach (e :: es) X.env)) (backToKw pos (keywordEach [] X.env))) := by rfl) :
    PE X (.Call (.Attribute o m apos) (e :: es) [] pos) (ClX.tCMeth C sp E ta t) := by
  refine ⟨fun pins s σ H Q I h => ?_⟩
  refine PySem.W.methodCall_KW (pl := pl) (thn (he.run pins s σ H _ I h) fun u s1 ⟨x, H1, I1, rx, ex, q⟩ => ?_) ht
  subst ex
  obtain rfl : u = Value.ref C := rx
  refine ClX.getmethcm_ok I1 r c fun s2 I2 => ?_
  refine ClX.callwith_cm I2 (ClX.base_none I1 (Nat.le_refl _)) c.fi (thn (ha.run pos _ s2 σ H1 _ I2 q) fun us s3 ⟨vs, H2, I3, rv, q2⟩ => ⟨⟨ClX.pin_at I3, I3.kIn⟩, ?_⟩) hst hpl
  exact thn (wpAny_call (PySem.W.method_call (ClX.pin_at I3) (code_fn (us := .ref C :: us) (vs := .ref C :: vs) F hr hb hx I3 (.cons rfl rv) q2))) fun _ _ y => ClX.unpinE y
def tCMethN (C : Addr) (n : Nat) (sp : Sp) (gV : List V → List V → List V) (E : XK) (ta : TE) (tk : TA) : TE := fun σ H Q => ta σ H fun x H1 => x = .ref C ∧ tk σ H1 fun zs H2 => zs.length = n ∧ sp (gV [.ref C] zs) H2 Q E
/-- C.m(k = e, ..) -/
theorem pe_cmN (he : PE X o ta) (r : ClX.CRead X.K C mc) (c : ClX.CMet X.K C mc m p g) (F : FnOk X.prog X.w X.K X.mg X.base CX k g fd ps sp) (hr : Room k X.A) (hb : KBn X.K fd ps 1 ks gg gV) (hx : Passes CX X E) (hkw : PK X kws tk)
    (hall : (backToKw pos (keywordEach kws X.env)).all (·.1.isSome) = true := by rfl) (hks : (backToKw pos (keywordEach kws X.env)).filterMap (·.1) = ks := by rfl)
    (hpl : ((backTo pos (starEach [] X.env)).any (·.1) || (backToKw pos (keywordEach kws X.env)).any (·.1.isNone)) = false := by rfl)
    (ht : eval (.Call (.Attribute o m apos) [] kws pos) X.env = (eval o X.env >>= fun ov => standAt apos.atName >>= fun _ => holding [ov] (getMethod ov m pl) >>= fun q => callWith pos q.1 q.2 (backTo pos (starEach [] X.env)) (backToKw pos (keywordEach kws X.env))) := by rfl) :
    PE X (.Call (.Attribute o m apos) [] kws pos) (tCMethN C ks.length sp gV E ta tk) := by
  refine ⟨fun pins s σ H Q I h => ?_⟩
  refine PySem.W.methodCall_KW (pl := pl) (thn (he.run pins s σ H _ I h) fun u s1 ⟨x, H1, I1, rx, ex, q⟩ => ?_) ht
  subst ex
  obtain rfl : u = Value.ref C := rx
  refine ClX.getmethcm_ok I1 r c fun s2 I2 => ?_
  refine PySem.W.callWith_of hpl (PySem.W.keeps_M c.fi) (PyProof.Rows.evalArgs_kw2_nil hall (thn (hkw.run pos _ s2 σ H1 _ I2 q) fun ws s3 ⟨zs, H2, I3, rz, l2, q2⟩ => ⟨⟨ClX.pin_at I3, I3.kIn⟩, ?_⟩))
  rw [hks]
  exact thn (wpAny_call (PySem.W.method_call (ClX.pin_at I3) (code_fnN (us := [.ref C]) (vs := [.ref C]) F hr hb hx I3 (.cons rfl .nil) rz rfl l2 q2))) fun _ _ y => ClX.unpinE y
def tSMN (C : Addr) (n : Nat) (sp : Sp) (gV : List V → List V → List V) (E : XK) (ta : TE) (tk : TA) : TE := fun σ H Q => ta σ H fun x H1 => x = .ref C ∧ tk σ H1 fun zs H2 => zs.length = n ∧ sp (gV [] zs) H2 Q E
/-- C.m(k = e, ..), m static -/
theorem pe_smN (he : PE X o ta) (c : SMet X.K C m p g) (F : FnOk X.prog X.w X.K X.mg X.base CX k g fd ps sp) (hr : Room k X.A) (hb : KBn X.K fd ps 0 ks gg gV) (hx : Passes CX X E) (hkw : PK X kws tk)
    (hall : (backToKw pos (keywordEach kws X.env)).all (·.1.isSome) = true := by rfl) (hks : (backToKw pos (keywordEach kws X.env)).filterMap (·.1) = ks := by rfl)
    (hpl : ((backTo pos (starEach [] X.env)).any (·.1) || (backToKw pos (keywordEach kws X.env)).any (·.1.isNone)) = false := by rfl)
    (ht : eval (.Call (.Attribute o m apos) [] kws pos) X.env = (eval o X.env >>= fun ov => standAt apos.atName >>= fun _ => holding [ov] (getMethod ov m pl) >>= fun q => callWith pos q.1 q.2 (backTo pos (starEach [] X.env)) (backToKw pos (keywordEach kws X.env))) := by rfl) :
    PE X (.Call (.Attribute o m apos) [] kws pos) (tSMN C ks.length sp gV E ta tk) := by
  refine ⟨fun pins s σ H Q I h => ?_⟩
  refine PySem.W.methodCall_KW (pl := pl) (thn (he.run pins s σ H _ I h) fun u s1 ⟨x, H1, I1, rx, ex, q⟩ => ?_) ht
  subst ex
  obtain rfl : u = Value.ref C := rx
  have hrc := c.rc
  cases hq : PySem.W.recIn X.K p "staticmethod" with
  | none =>
    rw [hq] at hrc
    cases hrc
  | some l =>
    cases l with
    | nil =>
      rw [hq] at hrc
      cases hrc
    | cons a r =>
      rw [hq] at hrc
      obtain rfl : a = Value.ref g := Option.some.inj hrc
      refine PySem.W.method_cls I1.kIn c.ga (PySem.W.cls_bind I1.kIn c.rd c.to (wpAny_call (PySem.W.sm_get (s := { s1 with toks := s1.toks + 1 }) I1.kIn hq (PySem.W.handed_on rfl ?_))))
      refine PySem.W.callWith_KW0 (first := []) (h₀ := X.base) I1.ok.mod.kin c.kp hall (thn (hkw.run pos pins _ σ H1 _ (I1.tok _) q) fun ws s2 ⟨zs, H2, I2, rz, l2, q2⟩ => ⟨I2.kIn, ?_⟩) hpl
      rw [hks]
      exact run_fnN (us := []) (vs := []) F hr hb hx I2 .nil rz rfl l2 q2
end
def dCM (C : Addr) (φ : FD) (tr : DR) (s : S) (k : D → S → Prop) (x : XD) : Prop := tr s (fun ds s1 => φ (.ref C :: ds) s1.p s1.n (fun d n' => k d { s1 with n := n' }) (fun c fs n' => x c fs { s1 with n := n' })) x
def dCMK (C : Addr) (φ : FD) (m : Nat) (perm : List Nat) (tr : DR) (s : S) (k : D → S → Prop) (x : XD) : Prop := tr s (fun ds s1 => ds.length = m ∧ φ (pick perm (.ref C :: ds)) s1.p s1.n (fun d n' => k d { s1 with n := n' }) (fun c fs n' => x c fs { s1 with n := n' })) x
def dSMK (φ : FD) (m : Nat) (perm : List Nat) (tr : DR) (s : S) (k : D → S → Prop) (x : XD) : Prop := tr s (fun ds s1 => ds.length = m ∧ φ (pick perm ds) s1.p s1.n (fun d n' => k d { s1 with n := n' }) (fun c fs n' => x c fs { s1 with n := n' })) x
section
variable {X : Cx} {T : List (Addr × Str)} {W : WX} {k n : Nat} {C p' f : Addr} {mc : Value} {fd : FuncData} {ps ks : List Str} {o e : Expr} {es : List Expr} {m : Str} {pos apos : Pos} {tr : DR} {φ : FD} {ee : XK} {pl : Sem Bool} {kws : List Keyword} {perm : List Nat}
theorem d_cm (hW : W = wxE ee) (he : PE X o (tC (.ref C))) (r : ClX.CRead X.K C mc) (c : ClX.CMet X.K C mc m p' f) (F : FnOk X.prog X.w X.K X.mg X.base (L2.CX X.prog X.w) k f fd ps (spD X.K T φ)) (hr : Room k X.A) (hb : Binds X.K fd ps []) (tk : Takes X W) (ha : PA X (e :: es) (lA X.K T W tr))
    (hst : starEach (e :: es) X.env = (false, eval e X.env) :: starEach es X.env := by rfl) (hpl : (backTo pos (starEach es X.env)).any (·.1) = false := by rfl)
    (ht : eval (.Call (.Attribute o m apos) (e :: es) [] pos) X.env = (eval o X.env >>= fun ov => standAt apos.atName >>= fun _ => holding [ov] (getMethod ov m pl) >>= fun q => callWith pos q.1 q.2 (backTo pos (starEach (e :: es) X.env)) (backToKw pos (keywordEach [] X.env))) := by rfl) :
    PE X (.Call (.Attribute o m apos) (e :: es) [] pos) (lE X.K T W (dCM C φ tr)) := by
  subst hW
  exact (pe_cmF (E := ee) (pl := pl) he r c F hr hb (passes_call tk fun _ _ _ _ h => h) ha hst hpl ht).up fun σ H Q ⟨g, f, s, XQ, Kd, ok, xo, h, hQ⟩ => ⟨rfl, g, f, s, XQ, _, ok, xo, h, fun ds s1 vs f1 H1 hx e1 ok1 r1 =>
    spD_of (W := wxE ee) (ds := .ref C :: ds) ok1 xo ⟨_, _, rfl, rfl, r1⟩ hx fun d s' v f' H' hk e2 ok2 rr => hQ d s' v f' H' hk (e1.trans e2) ok2 rr⟩
theorem d_cmK (hW : W = wxE ee) (he : PE X o (tC (.ref C))) (r : ClX.CRead X.K C mc) (c : ClX.CMet X.K C mc m p' f) (F : FnOk X.prog X.w X.K X.mg X.base (L2.CX X.prog X.w) k f fd ps (spD X.K T φ)) (hr : Room k X.A) (hb : KBn X.K fd ps 1 ks (gP perm) (gP perm)) (tk : Takes X W) (hkw : PK X kws (lA X.K T W tr))
    (hall : (backToKw pos (keywordEach kws X.env)).all (·.1.isSome) = true := by rfl) (hks : (backToKw pos (keywordEach kws X.env)).filterMap (·.1) = ks := by rfl)
    (hpl : ((backTo pos (starEach [] X.env)).any (·.1) || (backToKw pos (keywordEach kws X.env)).any (·.1.isNone)) = false := by rfl)
    (ht : eval (.Call (.Attribute o m apos) [] kws pos) X.env = (eval o X.env >>= fun ov => standAt apos.atName >>= fun _ => holding [ov] (getMethod ov m pl) >>= fun q => callWith pos q.1 q.2 (backTo pos (starEach [] X.env)) (backToKw pos (keywordEach kws X.env))) := by rfl) (hn : ks.length = n := by rfl) :
    PE X (.Call (.Attribute o m apos) [] kws pos) (lE X.K T W (dCMK C φ n perm tr)) := by
  subst hW hn
  exact (pe_cmN (E := ee) (pl := pl) he r c F hr hb (passes_call tk fun _ _ _ _ h => h) hkw hall hks hpl ht).up fun σ H Q ⟨g, f, s, XQ, Kd, ok, xo, h, hQ⟩ => ⟨rfl, g, f, s, XQ, _, ok, xo, h, fun ds s1 vs f1 H1 hx e1 ok1 r1 =>
    ⟨by rw [r1.len]; exact hx.1, spD_of (W := wxE ee) ok1 xo (reps_pick (ds := .ref C :: ds) (vs := .ref C :: vs) ⟨_, _, rfl, rfl, r1⟩ perm) hx.2 fun d s' v f' H' hk e2 ok2 rr => hQ d s' v f' H' hk (e1.trans e2) ok2 rr⟩⟩
theorem d_smK (hW : W = wxE ee) (he : PE X o (tC (.ref C))) (c : SMet X.K C m p' f) (F : FnOk X.prog X.w X.K X.mg X.base (L2.CX X.prog X.w) k f fd ps (spD X.K T φ)) (hr : Room k X.A) (hb : KBn X.K fd ps 0 ks (gP perm) (gP perm)) (tk : Takes X W) (hkw : PK X kws (lA X.K T W tr))
    (hall : (backToKw pos (keywordEach kws X.env)).all (·.1.isSome) = true := by rfl) (hks : (backToKw pos (keywordEach kws X.env)).filterMap (·.1) = ks := by rfl)
    (hpl : ((backTo pos (starEach [] X.env)).any (·.1) || (backToKw pos (keywordEach kws X.env)).any (·.1.isNone)) = false := by rfl)
    (ht : eval (.Call (.Attribute o m apos) [] kws pos) X.env = (eval o X.env >>= fun ov => standAt apos.atName >>= fun _ => holding [ov] (getMethod ov m pl) >>= fun q => callWith pos q.1 q.2 (backTo pos (starEach [] X.env)) (backToKw pos (keywordEach kws X.env))) := by rfl) (hn : ks.length = n := by rfl) :
    PE X (.Call (.Attribute o m apos) [] kws pos) (lE X.K T W (dSMK φ n perm tr)) := by
  subst hW hn
  exact (pe_smN (E := ee) (pl := pl) he c F hr hb (passes_call tk fun _ _ _ _ h => h) hkw hall hks hpl ht).up fun σ H Q ⟨g, f, s, XQ, Kd, ok, xo, h, hQ⟩ => ⟨rfl, g, f, s, XQ, _, ok, xo, h, fun ds s1 vs f1 H1 hx e1 ok1 r1 =>
    ⟨by rw [r1.len]; exact hx.1, spD_of (W := wxE ee) ok1 xo (reps_pick r1 perm) hx.2 fun d s' v f' H' hk e2 ok2 rr => hQ d s' v f' H' hk (e1.trans e2) ok2 rr⟩⟩
end
theorem cm_rc {K : PySem.W.Frag} {p g : Addr} (h : (PySem.W.recIn K p "classmethod").bind List.head? = some (.ref g)) : ∃ rest, PySem.W.recIn K p "classmethod" = some (.ref g :: rest) := by
  cases q : PySem.W.recIn K p "classmethod" with
  | none =>
    rw [q] at h
    cases h
  | some l =>
    cases l with
    | nil =>
      rw [q] at h
      cases h
    | cons a r =>
      rw [q] at h
      obtain rfl : a = Value.ref g := Option.some.inj h
      exact ⟨r, rfl⟩
/-- o.m(k = e, ..) -/
def dMethK (C : Addr) (m : Str) (φ : FD) (n : Nat) (perm : List Nat) (te : DE) (tr : DR) (s : S) (k : D → S → Prop) (x : XD) : Prop := te s (fun d s1 => match d with
  | .obj C' fs => C' = C ∧ noField m fs = true ∧ tr s1 (fun ds s2 => ds.length = n ∧ φ (pick perm (d :: ds)) s2.p s2.n (fun d n' => k d { s2 with n := n' }) (fun c gs n' => x c gs { s2 with n := n' })) x
  | _ => False) x
section
variable {X : Cx} {T : List (Addr × Str)} {W : WX} {k n : Nat} {C f : Addr} {fd : FuncData} {ps ks : List Str} {o : Expr} {m : Str} {pos apos : Pos} {te : DE} {tr : DR} {φ : FD} {ee : XK} {pl : Sem Bool} {kws : List Keyword} {perm : List Nat}
theorem d_methK (hW : W = wxE ee) (he : PE X o (lE X.K T W te)) (c : Cls X.K C) (hm : Meth X.K C m f) (F : FnOk X.prog X.w X.K X.mg X.base (L2.CX X.prog X.w) k f fd ps (spD X.K T φ)) (hr : Room k X.A) (hb : KBn X.K fd ps 1 ks (gP perm) (gP perm)) (tk : Takes X W) (hkw : PK X kws (lA X.K T W tr))
    (hall : (backToKw pos (keywordEach kws X.env)).all (·.1.isSome) = true := by rfl) (hks : (backToKw pos (keywordEach kws X.env)).filterMap (·.1) = ks := by rfl)
    (hpl : ((backTo pos (starEach [] X.env)).any (·.1) || (backToKw pos (keywordEach kws X.env)).any (·.1.isNone)) = false := by rfl)
    (ht : eval (.Call (.Attribute o m apos) [] kws pos) X.env = (do
      let ov ← eval o X.env
      standAt apos.atName
      let (f, first) ← holding [ov] (getMethod ov m pl)
      callWith pos f first (backTo pos (starEach [] X.env)) (backToKw pos (keywordEach kws X.env))) := by rfl) (hn : ks.length = n := by rfl) : PE X (.Call (.Attribute o m apos) [] kws pos) (lE X.K T W (dMethK C m φ n perm te tr)) := by
  subst hW hn
  refine (Z.pe_methN (E := ee) (pl := pl) he c hm F hr hb (passes_call tk fun _ _ _ _ h => h) hkw hall hks hpl ht).up fun σ H Q ⟨g, f, s, XQ, Kd, ok, xo, h, hQ⟩ => ⟨g, f, s, XQ, _, ok, xo, h, fun d s1 v f1 H1 hx e1 ok1 r1 => ?_⟩
  cases d with
  | obj C' fs =>
    obtain ⟨rfl, hn, hx⟩ := hx
    have r0 := r1
    obtain ⟨a, dx, xs, rfl, h1, h2⟩ := r1
    refine ⟨a, dx, xs, rfl, ok1.fr.inn _ _ h1, (h2.look m).2 (Option.isNone_iff_eq_none.mp hn), g, f1, s1, XQ, _, ok1, xo, hx, fun ds s2 vs f2 H2 hy e2 ok2 r2 => ?_⟩
    exact ⟨by rw [r2.len]; exact hy.1, spD_of (W := wxE ee) ok2 xo (reps_pick (ds := D.obj C' fs :: ds) (vs := .ref a :: vs) ⟨_, vs, rfl, r0.ex e2, r2⟩ perm) hy.2 fun d s' v f' H' hk e3 ok3 rr => hQ d s' v f' H' hk (e1.trans (e2.trans e3)) ok3 rr⟩
  | _ => exact (show False from hx).elim
end
end DL

/-! DL: bool of an own instance. -/
namespace PySem.W
open PySem PySem.Spec PySem.Calls PyProof.Rows
section
variable {prog : Program} {w : World} {A : Around} {E : Value → Shared → Prop} {s : Shared} {K : Frag} {x C f L : Addr} {ox : Obj} {od : Option Obj} {h₀ : Heap} {m : Str → Option Value}
open Builtin in
theorem kbo_call {Q : Value → Shared → Prop} (F : Fr h₀ L s.heap m) (X : K.In h₀) (I : InstAt s.heap x ox C od) (hs : findIn K (.ref C) "__bool__" = some (some (.ref f))) (hf : isFn K (.ref f) = true)
    (h : wpAny (model prog w) A.in1.in1 (call (.ref f) [.ref x]) (BoolBack fun b s' => Q (.bool b) s') E s) : wpAny (model prog w) A (call (.type "bool") [.ref x]) Q E s := by
  refine callType_codes (T := "bool") (Bi := Builtin.«object.__init__») (Q₁ := fun r s₁ => ∃ b, r = .bool b ∧ Q r s₁) PySem.F.called_bool (PySem.F.typeCall_bool_1 _) PySem.F.entry_object_init ?_ ?_
  · refine codeAny_of_tree ?_
    show wpAny _ A.in1.in1 (do checkBuiltinCall "bool.__new__" ⟨[.type "bool", .ref x], []⟩; again (.builtin "bool.__new__" ⟨[.type "bool", .ref x], []⟩)) _ _ s
    refine wpAny_bind (wpAny_of_eq (PySem.F.newCall_bool_1 _) (wpAny_pure ⟨plainId_quiet (by decide +kernel) _, codeAny_builtin PySem.F.entry_bool_new ?_⟩))
    rw [Around.under_plainId (by decide +kernel) _]
    unfold Builtin.«bool.__new__»
    refine wpAny_bind (wpAny_pure ?_)
    simp only [Bool.not_true, Bool.false_eq_true, if_false]
    refine wpAny_bind (wpAny_of_eq PySem.F.conv_sub_bool ?_)
    simp only [Bool.not_true, Bool.false_eq_true, if_false]
    refine wpAny_bind (wpAny_pure ?_)
    refine wpAny_bind (wpAny_mono (truthy_K (Q := fun b s' => Q (.bool b) s') F X I hs hf h) (fun r s₁ hr => wpAny_pure ⟨_, rfl, hr⟩) fun _ _ y => y)
  · rintro obj s₁ ⟨b, rfl, hq⟩
    exact ⟨typeIs_bool _ _, PySem.F.args_object_init_2 _ _, object_init_meets PySem.F.called_bool.init.lookup PySem.F.called_bool.made (by decide) prog w A.in1 _ s₁ ⟨typeIs_bool _ _, rfl, hq⟩⟩
end
end PySem.W
namespace DL
open PySem PySem.Spec PyProof.Rows L2 Z LamX
def D.isB : D → Bool
  | .bl _ => true
  | _ => false
/-- bool(o) -/
def bBoolO (C : Addr) (φ : FD) : DB := fun as k => match as with
  | [d] => isO C d = true ∧ φ [d] 0 0 (fun d _ => d.isB = true ∧ k d) fun _ _ _ => False
  | _ => False
section
variable {X : Cx} {C f : Addr} {k : Nat} {fd : FuncData} {ps : List Str} {φ : FD}
theorem isB_v {K : PySem.W.Frag} {f : Hp} {d : D} {v : V} (h : Rep K f d v) (e : d.isB = true) : ∃ b, v = V.bl b := by
  cases d with
  | bl b => cases h; exact ⟨b, rfl⟩
  | _ => cases e
theorem c_boolO (hs : PySem.W.findIn X.K (.ref C) "__bool__" = some (some (.ref f))) (hf : PySem.W.isFn X.K (.ref f) = true) (F : FnOk X.prog X.w X.K X.mg X.base (L2.CX X.prog X.w) k f fd ps (spD X.K [] φ)) (hr : Room (k + 2) X.A) (hb : Binds X.K fd ps []) (hx : Passes (L2.CX X.prog X.w) X L2.E0) :
    CallR X (.type "bool") (rBn X.K (bBoolO C φ)) := fun pins s σ H xs us Q I r ⟨f0, ds, Kd, nt, e, r1, ho, hQ⟩ => by
  unfold bBoolO at ho
  split at ho
  · rename_i d
    obtain ⟨v, _, rfl, r1, rfl⟩ := r1
    obtain ⟨h1, ho⟩ := ho
    obtain ⟨a, d1, fs, rfl, q1⟩ := isO_rep h1 r1
    obtain ⟨u, rfl, ru⟩ := vals1 r
    obtain rfl : u = Value.ref a := ru
    obtain ⟨ox, od, i1⟩ := ins_look I (e _ _ q1)
    obtain ⟨m, fr⟩ := I.fr
    refine PySem.W.kbo_call fr I.ok.mod.kin i1 hs hf ?_
    refine wpAny_mono (run_in (vs := [.ref a]) (Q := fun v H' => (∃ b, v = V.bl b) ∧ Q v H') F (Room.in1 (Room.in1 hr)) I.env0.in1.in1 hb hx I (.cons rfl .nil) ?_) (fun v s' hv => ?_) fun _ _ z => z
    · exact ⟨f0, 0, 0, [d], _, fun _ _ _ => False, e, ⟨.inl rfl, fun _ z => (by cases z), nt⟩, .one r1, ho, fun d n' v f' H' hk _ fr wo' rr => ⟨isB_v rr hk.1, hQ d v f' H' hk.2 (Fr.gro fr e wo'.nt) rr⟩, fun _ _ _ _ _ _ _ z => z.elim⟩
    · obtain ⟨y, H', I', ry, ⟨z, rfl⟩, hq⟩ := hv
      obtain rfl : v = Value.bool z := ry
      exact ⟨.bl z, H', I', rfl, hq⟩
  · exact ho.elim
end
end DL

/-! DL: a text times an int. -/
namespace DL
open PySem PySem.Spec PyProof.Rows L2 Z LamX
/-- the text, so many times -/
def repS (z : Str) (n : Nat) : Str := ⟨(List.replicate n z.cps).foldl (· ++ ·) #[]⟩
def oMulS : D2
  | .str z, .int n, k => (2 ≤ n ∧ n < 2 ^ 62 ∧ 0 < z.length ∧ z.length * n.toNat ≤ sizeLine) ∧ k (.str (repS z n.toNat))
  | _, _, _ => False
theorem foldl_size (c : Array Nat) : ∀ (n : Nat) (a : Array Nat), ((List.replicate n c).foldl (· ++ ·) a).size = a.size + c.size * n
  | 0, a => by simp
  | n + 1, a => by
    rw [List.replicate_succ, List.foldl_cons, foldl_size c n, Array.size_append, Nat.mul_succ]
    omega
theorem repS_len {z : Str} {n : Nat} : (repS z n).length = z.length * n := by
  show ((List.replicate n z.cps).foldl (· ++ ·) #[]).size = z.cps.size * n
  rw [foldl_size]
  simp
section
variable {X : Cx}
theorem p_mulS : OpR X (binaryOp .Mult) (rP X.K oMulS) := by
  intro pins s σ H x y v u Q I rx ry ⟨f, dx, dy, Kd, e, r1, r2, h, hQ⟩
  unfold oMulS at h
  split at h
  · rename_i kk z n
    obtain ⟨rfl, l1⟩ := r1
    cases r2
    obtain ⟨⟨h1, h2, h3, h4⟩, hk⟩ := h
    obtain ⟨t, rfl⟩ := rx
    obtain ⟨t', rfl⟩ := ry
    have hz : sizeLine = 16777216 := by decide
    have e1 : (n == 1 || z.length == 0) = false := by
      have a : (n == 1) = false := by simp; omega
      have b : (z.length == 0) = false := by simp; omega
      rw [a, b]
      rfl
    have hn : (n.toNat : Int) = n := Int.toNat_of_nonneg (by omega)
    refine PySem.P.mul_str ?_ (fun _ _ => ?_) (fun _ _ => ?_) ?_
    · rw [decide_eq_false (by omega), decide_eq_false (by omega)]
      rfl
    · have q1 : z.length ≤ 16777216 := by omega
      have hm : (z.length : Int) * n ≤ 2 ^ 63 - 1 := by
        rw [← hn]
        have : ((z.length * n.toNat : Nat) : Int) ≤ 16777216 := by omega
        rw [Int.natCast_mul] at this
        omega
      have := Int.le_ediv_of_mul_le (show 0 < n by omega) hm
      omega
    · unfold Builtin.Str.tooLong
      exact decide_eq_false (by omega)
    · rw [if_neg (by omega), e1]
      have hl : (repS z n.toNat).length ≤ sizeLine := by rw [repS_len]; exact h4
      exact ⟨hl, .str (repS z n.toNat), H, I.tok _, ⟨_, rfl⟩, hQ _ _ f H hk (Gro.refl e) ⟨rfl, hl⟩⟩
  · exact h.elim
end
end DL

/-! DL: a def that says whether an own error came of a lambda: try: ask() / except C as e: return isinstance(e, D) / return False. -/
namespace Z
open PySem PySem.W PySem.Calls PyProof.Rows PySem.HandSPX L2
/-- isinstance(e, c) in the suite of an except clause, e with a dict -/
def rIsX (K : Frag) (a : Addr) (cls : Value) (d : Option Addr) : List V → Hp → VK → Prop := fun xs H Q => ∃ (C dd : Addr) (fs : List (Str × V)) (c : V) (cv : Value) (b : Bool), cls = .ref C ∧ d = some dd ∧ xs = [.ref a, c] ∧ ErrQ K C ∧ H dd = some (.xd fs) ∧ (∀ u, RelV c u → u = cv) ∧ kitOne K (.ref C) cv = some b ∧ Q (.bl b) H
theorem call_isX {X : Cx} {a : Addr} {oe : Obj} {cls : Value} {d : Option Addr} {pn : List (Addr × Obj)} (hz : Zc cls d oe) (hf : ∃ vs, oe.data = .fields vs) : CallR (X.suite a ((a, oe) :: pn)) (.builtin "isinstance") (rIsX X.K a cls d) := by
  intro pins s σ H xs us Q I r h
  obtain ⟨C, dd, fs, c, cv, b, rfl, rfl, rfl, T, hx, hcv, ek, q⟩ := h
  cases r with
  | cons rx rr =>
    cases rr with
    | cons rt rr =>
      cases rr
      cases rx
      have ec := hcv _ rt
      subst ec
      obtain ⟨ha, _⟩ := I.pin (a, oe) (List.mem_append_left _ List.mem_cons_self)
      obtain ⟨vs, hd⟩ := hf
      have hx' : ObjOk X.prog X.w H s.heap dd (.xd fs) := I.hok dd _ hx
      obtain ⟨mA, hns, hr⟩ := hx'
      obtain ⟨od, ho, hl⟩ := lookIn_ns hns
      have J : InstAt s.heap a oe C (some od) := ⟨ha, hz.1, by unfold notCls; rw [hd] <;> rfl, by rw [hz.2]; exact ho⟩
      exact kia_one (kitx_exc T.hc T.xf.ga T.xf.gg T.xf.exC T.ha T.hn T.ht T.hm) I.kIn J ek (fun z => nomatch z) fun tk => ⟨.bl b, H, I.kept (t' := tk) fun _ _ z => z, rfl, q⟩
theorem r_isX {K : Frag} {a C dd : Addr} {fs : List (Str × V)} {t : String} {b : Bool} {H : Hp} {Q : VK} (T : ErrQ K C) (hx : H dd = some (.xd fs)) (e : kitOne K (.ref C) (.type t) = some b) (k : Q (.bl b) H) : rIsX K a (.ref C) (some dd) [.ref a, .ty t] H Q :=
  ⟨C, dd, fs, .ty t, .type t, b, rfl, rfl, rfl, T, hx, fun _ h => h, e, k⟩
end Z
namespace DL
open PySem PySem.Spec PyProof.Rows L2 Z LamX
/-- an own error of one of these classes is told as True -/
def ErrK (cs : List Addr) (Q : VK) : XK := fun cls d H => ∃ C ∈ cs, cls = .ref C ∧ ∃ dd fs, d = some dd ∧ H dd = some (.xd fs) ∧ Q (.bl true) H
def TTe (cs : List Addr) : (XK → Hp → VK → Prop) → Hp → VK → Prop := fun tl H Q => ∀ H0, Ex H H0 → tl (ErrK cs Q) H0 (fun _ H' => Q (.bl false) H')
theorem s_lamE {T : List (Addr × Str)} {cs : List Addr} {t : XK → TE} {σ : L2.St} {H : Hp} {Q : VK} (hT : Tabs T H) (k : ∀ H1, Tx H H1 → Tabs T H1 → t (ErrK cs Q) σ H1 (fun _ H' => Q (.bl false) H')) : tLam T (TTe cs) t σ H Q :=
  ⟨hT, fun H1 e hT1 H0 e0 => k H0 ((Tx.of e).trans e0.tx) (hT1.ext e0)⟩
def errD (cs : List Addr) (k : D → S → Prop) : XD := fun cls _ s => (∃ C ∈ cs, cls = .ref C) ∧ k (.bl true) s
def dIsErr (cs : List Addr) (t : DE) (s : S) (k : D → S → Prop) (_ : XD) : Prop := t s (fun _ s1 => k (.bl false) s1) (errD cs k)
section
variable {X : Cx} {T : List (Addr × Str)} {W : WX} {e : Expr} {cs : List Addr} {t : DE}
theorem d_isErr (h : PE X e (tLam T (TTe cs) fun E => lE X.K T (wxE E) t)) (hT : T ≠ []) : PE X e (lE X.K T W (dIsErr cs t)) :=
  h.up fun σ H Q ⟨g, f, s, XQ, Kd, ok, xo, h, hQ⟩ => s_lamE ok.wo.tab fun H1 tx tb => by
    have ok1 := ok.tx hT tx tb
    refine ⟨{ g with f := f }, f, s, errD cs Kd, fun _ s1 => Kd (.bl false) s1, ok1.sub, fun cls fs s1 f1 H1 xs dd ok2 hd hr hx => ?_, h, fun d s1 v f1 H1 hk e1 ok2 r => ?_⟩
    · replace hd := ok2.fr.inn _ _ hd
      obtain ⟨ok3, e3⟩ := ok1.unsub ok2
      obtain ⟨⟨C, hm, rfl⟩, hx⟩ := hx
      exact ⟨C, hm, rfl, dd, xs, rfl, hd, hQ (.bl true) s1 (.bl true) f1 H1 hx e3 ok3 rfl⟩
    · obtain ⟨ok3, e3⟩ := ok1.unsub ok2
      exact hQ (.bl false) s1 (.bl false) f1 H1 hk e3 ok3 rfl
end
end DL

/-! DL: try: .. / except C as e: return ..: what is returned is told by the error's class and fields alone. -/
namespace DL
open PySem PySem.W PySem.Spec PyProof.Rows L2 Z LamX
/-- readings over a caught error: its class, its fields -/
abbrev XE := Value → List (Str × D) → (D → Prop) → Prop
abbrev XT := Value → List (Str × D) → (Bool → Prop) → Prop
abbrev XR := Value → List (Str × D) → (List D → Prop) → Prop
section
variable (K : PySem.W.Frag) (i : Nat) (a : Addr) (cls : Value) (d : Option Addr)
/-- the error at a is in the slot i; its dict has these fields -/
def AtX (σ : L2.St) (f H : Hp) (fs : List (Str × D)) : Prop := σ[i]? = some (some (.ref a)) ∧ Ex f H ∧ ∃ xs dd, d = some dd ∧ H dd = some (.xd xs) ∧ RepF K f fs xs
def lX (t : XE) : TE := fun σ H Q => ∃ f fs Kd, AtX K i a d σ f H fs ∧ t cls fs Kd ∧ ∀ z v f' H', Kd z → Gro f H f' H' → Rep K f' z v → Q v H'
def lXT (t : XT) : TT := fun σ H Q => ∃ f fs Kd, AtX K i a d σ f H fs ∧ t cls fs Kd ∧ ∀ b f' H', Kd b → Gro f H f' H' → Q b H'
def lXA (t : XR) : TA := fun σ H Q => ∃ f fs Kd, AtX K i a d σ f H fs ∧ t cls fs Kd ∧ ∀ zs vs f' H', Kd zs → Gro f H f' H' → Reps K f' zs vs → Q vs H'
end
theorem AtX.gro {K : PySem.W.Frag} {i : Nat} {a : Addr} {d : Option Addr} {σ : L2.St} {f H f' H' : Hp} {fs : List (Str × D)} (h : AtX K i a d σ f H fs) (g : Gro f H f' H') : AtX K i a d σ f' H' fs := by
  obtain ⟨h1, h2, xs, dd, h3, h4, h5⟩ := h
  exact ⟨h1, g.inn, xs, dd, h3, g.all _ _ h4, h5.ex g.sub⟩
def xC (z : D) (_ : Value) (_ : List (Str × D)) (k : D → Prop) : Prop := k z
def xF (C : Addr) (n : Str) (cls : Value) (fs : List (Str × D)) (k : D → Prop) : Prop := cls = .ref C ∧ match fs.lookup n with
  | some z => k z
  | none => False
def xNil (_ : Value) (_ : List (Str × D)) (k : List D → Prop) : Prop := k []
def xCons (t : XE) (u : XR) (cls : Value) (fs : List (Str × D)) (k : List D → Prop) : Prop := t cls fs fun z => u cls fs fun zs => k (z :: zs)
def xTup (u : XR) (cls : Value) (fs : List (Str × D)) (k : D → Prop) : Prop := u cls fs fun zs => zs.length ≤ sizeLine ∧ k (.tup zs)
def xLst (u : XR) (cls : Value) (fs : List (Str × D)) (k : D → Prop) : Prop := u cls fs fun zs => zs.length ≤ sizeLine ∧ k (.lst zs)
def xIf (c : XT) (t u : XE) (cls : Value) (fs : List (Str × D)) (k : D → Prop) : Prop := c cls fs fun b => if b = true then t cls fs k else u cls fs k
/-- isinstance of it: told class by class -/
def xIs (ms : List (Addr × Bool)) (cls : Value) (_ : List (Str × D)) (k : Bool → Prop) : Prop := ∃ m ∈ ms, cls = .ref m.1 ∧ k m.2
section
variable {X : Cx} {K : PySem.W.Frag} {i : Nat} {a : Addr} {oe : Obj} {cls : Value} {d : Option Addr} {pn : List (Addr × Obj)} {e c e1 e2 : Expr} {es : List Expr} {t u : XE} {c' : XT} {tr : XR} {pos : Pos}
theorem x_c {v : V} {z : D} (h : PE X e (tC v)) (r : ∀ f, Rep K f z v) : PE X e (lX K i a cls d (xC z)) :=
  h.up fun σ H Q ⟨f, fs, Kd, at0, h, hQ⟩ => hQ z v f H h (Gro.refl at0.2.1) (r f)
theorem x_nil : PA X [] (lXA K i a cls d xNil) := pa_nil.up fun σ H Q ⟨f, fs, Kd, at0, h, hQ⟩ => hQ [] [] f H h (Gro.refl at0.2.1) rfl
theorem x_cons (ha : PE X e (lX K i a cls d t)) (hr : PA X es (lXA K i a cls d tr)) (hs : starEach (e :: es) X.env = (false, eval e X.env) :: starEach es X.env := by rfl) : PA X (e :: es) (lXA K i a cls d (xCons t tr)) :=
  (pa_cons ha hr hs).up fun σ H Q ⟨f, fs, Kd, at0, h, hQ⟩ => ⟨f, fs, _, at0, h, fun z v f1 H1 hx g1 r1 => ⟨f1, fs, _, at0.gro g1, hx, fun zs vs f2 H2 hy g2 r2 =>
    hQ (z :: zs) (v :: vs) f2 H2 hy (g1.trans g2) ⟨v, vs, rfl, r1.ex g2.sub, r2⟩⟩⟩
theorem x_tup {x1} (ha : PA X es (lXA K i a cls d tr)) : PE X (.Tuple es x1 pos) (lX K i a cls d (xTup tr)) :=
  (pe_tup ha).up fun σ H Q ⟨f, fs, Kd, at0, h, hQ⟩ => ⟨f, fs, _, at0, h, fun zs vs f1 H1 hx g1 r1 => ⟨by rw [r1.len]; exact hx.1, fun p hp => by
    have gr := Gro.new (u := .tup vs) g1.inn hp
    exact hQ (.tup zs) _ _ _ hx.2 (g1.trans gr) ⟨p, vs, rfl, tp_of upd_same, r1.ex gr.sub, hx.1⟩⟩⟩
theorem x_lst (ha : PA X es (lXA K i a cls d tr)) : PE X (.List es pos) (lX K i a cls d (xLst tr)) :=
  (pe_lst ha).up fun σ H Q ⟨f, fs, Kd, at0, h, hQ⟩ => ⟨f, fs, _, at0, h, fun zs vs f1 H1 hx g1 r1 => ⟨by rw [r1.len]; exact hx.1, fun p hp => by
    have gr := Gro.new (u := .lst vs) g1.inn hp
    exact hQ (.lst zs) _ _ _ hx.2 (g1.trans gr) ⟨p, vs, rfl, upd_same, r1.ex gr.sub, hx.1⟩⟩⟩
theorem x_if (hc : PT X c (lXT K i a cls d c')) (ha : PE X e1 (lX K i a cls d t)) (hb : PE X e2 (lX K i a cls d u)) : PE X (.IfExp c e1 e2 pos) (lX K i a cls d (xIf c' t u)) :=
  (pe_ifExp hc ha hb).up fun σ H Q ⟨f, fs, Kd, at0, h, hQ⟩ => ⟨f, fs, _, at0, h, fun b f1 H1 hx g1 => by
    cases b with
    | true => exact iteT ⟨f1, fs, _, at0.gro g1, hx, fun z v f2 H2 hy g2 r => hQ z v f2 H2 hy (g1.trans g2) r⟩
    | false => exact iteF ⟨f1, fs, _, at0.gro g1, hx, fun z v f2 H2 hy g2 r => hQ z v f2 H2 hy (g1.trans g2) r⟩⟩
/-- error.f -/
theorem x_f {C : Addr} {n x : Str} {np : Pos} (T : XfC X.K C) (hno : PySem.W.findIn X.K (.ref C) n = some none) (hz : Zc cls d oe) (hf : ∃ vs, oe.data = .fields vs) (hN : X.N[i]? = some x) (hv : Vis X.env.scope x)
    (hb : attributeBase (.Name x np) n X.env (eval (.Name x np) X.env) = eval (.Name x np) X.env := by rfl) (hd : (x == ("__debug__" : Str)) = false := by decide) (hcd : (x == ("__classdict__" : Str)) = false := by decide) :
    PE (X.suite a ((a, oe) :: pn)) (.Attribute (.Name x np) n pos) (lX X.K i a cls d (xF C n)) :=
  (pe_xf T hno hz hf (pe_var (X := X.suite a ((a, oe) :: pn)) hN hv hd hcd) hb).up fun σ H Q ⟨f, fs, Kd, at0, h, hQ⟩ => by
    obtain ⟨rfl, h⟩ := h
    obtain ⟨h1, h2, xs, dd, h3, h4, h5⟩ := id at0
    split at h
    · rename_i z e
      obtain ⟨v, e1, r1⟩ := (h5.look n).1 z e
      exact ⟨.ref a, h1, rfl, rfl, dd, xs, v, h3, h4, e1, hQ z v f H h (Gro.refl at0.2.1) r1⟩
    · exact h.elim
/-- isinstance(error, C) -/
theorem x_is {C : Addr} {x y q : Str} {np fp cp : Pos} {ms : List (Addr × Bool)} (hms : ∀ m ∈ ms, ErrQ X.K m.1 ∧ kitOne X.K (.ref m.1) (.ref C) = some m.2) (hz : Zc cls d oe) (hf : ∃ vs, oe.data = .fields vs) (hN : X.N[i]? = some x) (hv : Vis X.env.scope x)
    (hq : Gl X q) (hm : X.mg q = none) (hbt : bootBuiltins q = some (.builtin "isinstance")) (hc : PE (X.suite a ((a, oe) :: pn)) (.Name y cp) (tC (.ref C)))
    (hd : (x == ("__debug__" : Str)) = false := by decide) (hcd : (x == ("__classdict__" : Str)) = false := by decide) (hn : q ≠ "__name__" := by decide) (hdb : (q == ("__debug__" : Str)) = false := by decide) :
    PT (X.suite a ((a, oe) :: pn)) (.Call (.Name q fp) [.Name x np, .Name y cp] [] pos) (lXT X.K i a cls d (xIs ms)) :=
  (pt_val (pe_callB (X := X.suite a ((a, oe) :: pn)) (call_isX hz hf) hq hm hbt (pa_cons (pe_var hN hv hd hcd) (pa_cons hc pa_nil)) hn hdb)).up fun σ H Q ⟨f, fs, Kd, at0, h, hQ⟩ => by
    obtain ⟨m, hmm, rfl, h⟩ := h
    obtain ⟨h1, h2, xs, dd, h3, h4, h5⟩ := id at0
    obtain ⟨q1, q2⟩ := hms m hmm
    refine ⟨.ref a, h1, ?_⟩
    refine ⟨m.1, dd, xs, .ref C, .ref C, m.2, rfl, h3, rfl, q1, h4, fun u h => h, q2, ?_⟩
    exact ⟨m.2, rfl, hQ m.2 f H h (Gro.refl at0.2.1)⟩
end
/-- a clause: its class, which classes it takes, what it returns -/
structure Hd where
  c : Addr
  ms : List (Addr × Bool)
  t : XE
def hdsR (en : En) : List Hd → XD
  | [], cls, fs, s => en.ex cls fs s
  | h :: r, cls, fs, s => ∃ m ∈ h.ms, cls = .ref m.1 ∧ (m.2 = true → h.t cls fs (fun z => en.rt z s)) ∧ (m.2 = false → hdsR en r cls fs s)
def dTryR (t : DS) (hs : List Hd) (s : S) (en : En) : Prop := t s { en with ex := hdsR en hs }
theorem hd_yes {en : En} {h : Hd} {r : List Hd} {C : Addr} {fs : List (Str × D)} {s : S} (m : (C, true) ∈ h.ms) (k : h.t (.ref C) fs (fun z => en.rt z s)) : hdsR en (h :: r) (.ref C) fs s :=
  ⟨(C, true), m, rfl, ⟨fun _ => k, fun z => (by cases z)⟩⟩
theorem hd_no {en : En} {h : Hd} {r : List Hd} {C : Addr} {fs : List (Str × D)} {s : S} (m : (C, false) ∈ h.ms) (k : hdsR en r (.ref C) fs s) : hdsR en (h :: r) (.ref C) fs s :=
  ⟨(C, false), m, rfl, ⟨fun z => (by cases z), fun _ => k⟩⟩
inductive HdsR (X : Cx) : List ExceptHandler → List (Value × Nat × (Addr → Value → Option Addr → TS)) → List Hd → Prop
  | nil : HdsR X [] [] []
  | cons {x n : Str} {i : Nat} {e : Expr} {np rp pos' : Pos} {h : Hd} {hds : List ExceptHandler} {l : List (Value × Nat × (Addr → Value → Option Addr → TS))} {hs : List Hd} (hc : Names X x (.ref h.c)) (hi : X.N[i]? = some n) (hln : X.env.kindOf n = some .local)
      (hm : ∀ m ∈ h.ms, exmOne X.K (.ref m.1) (.ref h.c) = some m.2)
      (hsu : ∀ (a : Addr) (oe : Obj) (cls : Value) (d : Option Addr) (pn : List (Addr × Obj)), Zc cls d oe → (∃ vs, oe.data = .fields vs) → PE (X.suite a ((a, oe) :: pn)) e (lX X.K i a cls d h.t)) (r : HdsR X hds l hs) :
      HdsR X (.ExceptHandler (some (.Name x np)) (some n) [.Return (some e) rp] pos' :: hds) ((.ref h.c, i, fun a cls d => tRet (lX X.K i a cls d h.t)) :: l) (h :: hs)
section
variable {X : Cx} {T : List (Addr × Str)} {W : WX} {body : List Stmt} {h₀ : ExceptHandler} {hds : List ExceptHandler} {l : List (Value × Nat × (Addr → Value → Option Addr → TS))} {hs : List Hd} {pos : Pos} {t : DS} {ee : XK}
theorem HdsR.a (h : HdsR X hds l hs) : HdsA X hds l := by
  induction h with
  | nil => exact .nil
  | cons hc hi hln hm hsu r ih => exact .cons hc hi hln (fun a oe cls d pn hz hf => pss_one (ps_ret (hsu a oe cls d pn hz hf))) ih
theorem HdsR.wish (h : HdsR X hds l hs) {g : Gd} {f H : Hp} {σ : L2.St} {s : S} {en : En} {Dn : Ends} {cls : Value} {fs : List (Str × D)} {xs : List (Str × V)} {dd : Addr} (ok : Okay X.K T g f H σ s) (xo : XOkS X.K T (wxE ee) g en.ex) (hd : f dd = some (.xd xs)) (hr : RepF X.K f fs xs)
    (q : ∀ d s' σ' v f' H', en.rt d s' → Ex f f' → Okay X.K T g f' H' σ' s' → Rep X.K f' d v → Dn.rt v H') : hdsR en hs cls fs s → ∀ σ' : L2.St, σ'.length = X.N.length → wMa X.K (wxE ee) Dn l cls (some dd) σ' H := by
  induction h with
  | nil =>
    intro hx σ' _
    exact xo σ cls fs s f H xs dd ok hd hr hx
  | @cons x n i e np rp pos' h hds l hs hc hi hln hm hsu r ih =>
    intro hx σ' hl
    obtain ⟨m, hmm, rfl, yes, no⟩ := hx
    refine ⟨m.2, hm m hmm, fun hb a na => ?_, fun hb => ih (no hb) σ' hl⟩
    have il : i < σ'.length := by
      rw [hl]
      exact (List.getElem?_eq_some_iff.mp hi).1
    refine ⟨f, fs, _, ⟨by rw [List.getElem?_set, if_pos rfl, if_pos il], ok.fr.inn, xs, dd, rfl, ok.fr.inn _ _ hd, hr⟩, yes hb, fun z v f' H' hk gr rr => q z s σ v f' H' hk gr.sub (ok.gro gr) rr⟩
section
variable {K : PySem.W.Frag} {g : Gd} {f f' H H' : Hp} {σ : L2.St} {s s' : S}
theorem Okay.unsub2 (k : Okay K T g f H σ s) {σ' : L2.St} (k' : Okay K T { g with f := f } f' H' σ' s') : Okay K T g f' H' σ' s' ∧ Ex f f' :=
  ⟨⟨⟨k.fr.sub.trans k'.fr.sub, k'.fr.inn, fun a o h n x t => k'.fr.old a o h (k.fr.out a o h t n) x t, fun a o h t n => k'.fr.out a o h t (k.fr.out a o h t n), k'.fr.there⟩, k'.px, k'.pq, k'.wo, k'.len, k'.val, k'.own, k'.rs, k'.one⟩, k'.fr.sub⟩
end
theorem ds_tryR (hW : W = wxE ee) (hs' : X.stack = X.env :: X.outer) (hf : X.env.frame = some X.env.locals) (hN : X.N.Nodup) (tk : Takes X W)
    (hb : ∀ (E' : XK) (pn : List (Addr × Obj)) (xe : Value → Shared → Prop), Takes (X.tr pn xe) (wxE E') → PSs (X.tr pn xe) body (lS X.K T (wxE E') t))
    (hh : HdsR X (h₀ :: hds) l hs) : PS X (.Try body (h₀ :: hds) [] [] pos) (lS X.K T W (dTryR t hs)) := by
  subst hW
  refine (ps_try_ma (tb := fun W' Dn σ H => ∃ E' : XK, (∀ cls d σ' H', E' cls d H' → W' cls d σ' H') ∧ lS X.K T (wxE E') t Dn σ H) hs' hf hN tk (fun W' pn xe tk' _ => ⟨fun pins s' σ H D I h' => ?_⟩) hh.a).up fun Dn σ H ⟨g, f, s, en, ok, xo, h, q1, q2, q3, q4⟩ => ?_
  · obtain ⟨E', hW', h'⟩ := h'
    exact (hb E' pn xe (tk'.imp hW')).run pins s' σ H D I h'
  · refine ⟨fun cls d H' => ∀ σ' : L2.St, σ'.length = X.N.length → wMa X.K (wxE ee) Dn l cls d σ' H', fun cls d σ' H' h' hl => h' σ' hl, { g with f := f }, f, s, { en with ex := hdsR en hs }, ok.sub, fun σ1 cls fs s1 f1 H1 xs dd ok1 hd hr hx => ?_, h,
      fun s' σ' f' H' k e o => q1 s' σ' f' H' k e (ok.unsub2 o).1, fun s' σ' f' H' k e o => q2 s' σ' f' H' k e (ok.unsub2 o).1, fun s' σ' f' H' k e o => q3 s' σ' f' H' k e (ok.unsub2 o).1, fun d s' σ' v f' H' k e o r => q4 d s' σ' v f' H' k e (ok.unsub2 o).1 r⟩
    obtain ⟨ok3, e3⟩ := ok.unsub2 ok1
    exact hh.wish ok3 xo hd hr (fun d s' σ' v f' H' k e o r => q4 d s' σ' v f' H' k (e3.trans e) o r) hx
end
section
variable {X : Cx} {T : List (Addr × Str)} {W : WX} {a b : Expr} {ta : DE} {o : D2} {i : Nat} {pos : Pos}
/-- a test beside an own thing -/
theorem d_tcmpR {op : CmpOp} (ho : OpR X (compareOp op) (rP X.K o)) (ha : PE X a (lE X.K T W ta)) (hb : PE X b (tVar i)) (hm : behindInMarks op b = false) : PT X (.Compare a [op] [b] pos) (lT X.K T W (dTst (dBinR o ta i))) :=
  (pt_cmpR ho ha hb hm).up fun σ H Q ⟨g, f, s, XQ, Kd, ok, xo, h, hQ⟩ => binR_up (Q := fun v H => ∃ b, v = .bl b ∧ Q b H) ⟨g, f, s, XQ, _, ok, xo, h, fun z s' v f' H' hz e ok' r => by
    cases z with
    | bl b => cases r; exact ⟨b, rfl, hQ b s' f' H' hz e ok'⟩
    | _ => exact (show False from hz).elim⟩
end
end DL

/-! SSn: len(set(xs)) of a list of texts, how often each may stand in it. -/
namespace SSn
open PySem PySem.Spec PyProof.Rows SS
/-- how many unlike ones the first i are -/
def cn (xs : List Str) : Nat → Nat
  | 0 => 0
  | i + 1 => if (xs.take i).any (· == xs.getD i Str.empty) then cn xs i else cn xs i + 1
theorem cn_le (xs : List Str) : ∀ i, cn xs i ≤ i
  | 0 => Nat.le_refl _
  | i + 1 => by
    have := cn_le xs i
    unfold cn
    split <;> omega
theorem any_next {xs : List Str} {i : Nat} (h : i < xs.length) (k' : Str) : (xs.take (i + 1)).any (· == k') = ((xs.take i).any (· == k') || decide (k' = xs.getD i Str.empty)) := by
  rw [List.take_add_one, List.any_append, List.getElem?_eq_getElem h, List.getD_eq_getElem?_getD, List.getElem?_eq_getElem h]
  simp only [Option.toList, List.any_cons, List.any_nil, Bool.or_false, Option.getD]
  congr 1
  by_cases e : k' = xs[i]
  · rw [decide_eq_true e, e]
    exact beq_self_eq_true _
  · rw [decide_eq_false e]
    exact beq_eq_false_iff_ne.mpr fun z => e z.symm
section
variable {prog : Program} {w : World} {A : Around} {R : Result → Shared → Prop} {I : Addr} {fp wr : List Addr} {G : Array GenState → Array GenState → Prop} {n : Nat} {P : Nat → Value → Prop} {St : Nat → Shared → Prop}
theorem loop (W : WalksS prog w A.in1 I fp wr G n P St) (S : Addr) (hSf : S ∉ fp) (xs : List Str) (hsz : xs.length = n) (hn : n < 100) (hval : ∀ i v, P i v → ∃ t, v = .str (xs.getD i Str.empty) t) :
    ∀ (k i : Nat) (s : Shared), n - i = k → i ≤ n → St i s → s.heap.SetOf (PySem.strKind prog w) S (fun k' => (xs.take i).any (· == k')) (cn xs i) →
      (∀ s', Moved (S :: wr) G s s' → s'.heap.SetOf (PySem.strKind prog w) S (fun k' => (xs.take n).any (· == k')) (cn xs n) → R (.ok (.ret .none)) s') →
      codeAny (model prog w) A (.builtin "set.update.loop" ⟨[.ref S, .ref I], []⟩) R s := by
  have hSw : S ∉ wr := fun h => hSf (W.sub _ h)
  have hsub : ∀ b ∈ wr, b ∈ S :: wr := fun b hb => List.mem_cons_of_mem _ hb
  intro k
  induction k with
  | zero =>
    intro i s hk hi hst hS hR
    obtain rfl : i = n := by omega
    refine codeAny_builtin PyProof.Rows.F.entry_set_update_loop ?_
    rw [Around.under_plainId PyProof.Rows.F.plain_set_update_loop _]
    refine wpAny_bind (m := pyNext (.ref I)) (W.done s _ _ hst fun s' hm => ?_)
    show wpAny _ A.in1 (ret Value.none) _ _ s'
    refine wpAny_pure (hR s' (hm.mono hsub) ?_)
    obtain ⟨o, es, ep, t, ho, rest⟩ := hS
    exact ⟨o, es, ep, t, hm.heap S _ hSw ho, rest⟩
  | succ k ih =>
    intro i s hk hi hst hS hR
    have hlt : i < n := by omega
    refine codeAny_builtin PyProof.Rows.F.entry_set_update_loop ?_
    rw [Around.under_plainId PyProof.Rows.F.plain_set_update_loop _]
    refine wpAny_bind (m := pyNext (.ref I)) (W.item i s _ _ hlt hst fun v s' hP hst' hm => ?_)
    obtain ⟨t, rfl⟩ := hval i v hP
    have hS' : s'.heap.SetOf (PySem.strKind prog w) S (fun k' => (xs.take i).any (· == k')) (cn xs i) := by
      obtain ⟨o, es, ep, tb, ho, rest⟩ := hS
      exact ⟨o, es, ep, tb, hm.heap S _ hSw ho, rest⟩
    have hc := cn_le xs i
    refine wpAny_bind (m := holding [Value.str (xs.getD i Str.empty) t] (setAdd S (.str (xs.getD i Str.empty) t))) (wpAny_holding ?_)
    unfold setAdd
    refine wpAny_holding (wpAny_bind ((PySem.strKind prog w).pyHash (k := xs.getD i Str.empty) (strKind_is _ _ _ _) ?_))
    refine wpAny_setAddHashed_of (knd := PySem.strKind prog w) (s := { s' with toks := s'.toks + 1 }) (strKind_is _ _ _ _) rfl hS' (by unfold scanBound; omega) fun h' hsb hS2 => ?_
    have hSi : h'.SetOf (PySem.strKind prog w) S (fun k' => (xs.take (i + 1)).any (· == k')) (cn xs (i + 1)) := SetOf_congr hS2 (fun k' => (any_next (by omega) k').symm) rfl
    refine wpAny_pure ⟨plainId_quiet PyProof.Rows.F.plain_set_update_loop _, ih (i + 1) _ (by omega) hlt (W.frame _ s' _ _ hst' (Nat.le_succ _) fun b hb o e => ?_) hSi fun s'' hm'' hS'' => ?_⟩
    · rw [hsb.2 b fun h => hSf (h ▸ hb)]
      exact e
    · refine hR s'' (Moved.trans W.gtrans ((hm.mono hsub).then_heap (Nat.le_succ _) fun b o hb e => ?_) hm'') hS''
      rw [hsb.2 b fun h => hb (h ▸ List.mem_cons_self)]
      exact e
end
section
variable {prog : Program} {w : World} {A : Around} {E : Value → Shared → Prop} {s : Shared}
set_option maxHeartbeats 3200000 in
theorem call_set {l : Addr} {items : Array Value} {xs : List Str} {Q : Value → Shared → Prop} (hh : A.handled = none) (hl : s.heap.IsList l items) (hi : PyProof.Rows.StrsAre items.toList xs) (hn : xs.length < 100)
    (h : ∀ (h' : Heap) (tk : Nat), h'.SetOf (PySem.strKind prog w) s.heap.objs.size (fun k' => (xs.take items.size).any (· == k')) (cn xs items.size) →
      (∀ b o, b < s.heap.objs.size → s.heap.get? b = some o → h'.get? b = some o) → Q (.ref s.heap.objs.size) { s with heap := h', toks := tk }) :
    wpAny (model prog w) A (call (.type "set") [.ref l]) Q E s := by
  obtain ⟨c, tl, hmro⟩ := PySem.F.called_set.mro
  have hmade := PySem.F.called_set.made
  have hsub := PySem.F.called_set.sub
  refine wpAny_call (codeAny_of_tree ?_)
  show wpAny _ _ (callAny (.type "set") _) _ _ _
  refine wpAny_pure ⟨Code.quiet_builtin _ (by decide +kernel), codeAny_builtin PySem.F.entry_type_call ?_⟩
  rw [Around.under_plain (weight_type_call_type "set" [.ref l] []) rfl]
  have h1 := PySem.F.called_set.notType
  have h2 := PySem.F.called_set.canCreate
  have hct := PySem.F.typeCall_set_1 (.ref l)
  repeat (any_goals (first | assumption | wp_step))
  refine codeAny_mono (code_set_new_1 (.ref l) (E := E) (Q₁ := fun obj s₁ => ∃ led : Bool, obj = .ref s.heap.objs.size ∧ s₁ = { s with heap := s.heap.push { cls := .type "set", dict := none, data := .set #[] 0 (.fresh 0 0 led) } }) fun led => ⟨led, rfl, rfl⟩) fun r s₁ hr => ?_
  cases r with
  | error e => exact hr
  | ok fl =>
    cases fl with
    | ret obj =>
      obtain ⟨led, rfl, rfl⟩ := hr
      have hS : (s.heap.push { cls := .type "set", dict := none, data := .set #[] 0 (.fresh 0 0 led) }).get? s.heap.objs.size = some { cls := .type "set", dict := none, data := .set #[] 0 (.fresh 0 0 led) } := Heap.get?_push_size _ rfl
      have hT : Shared.TypeIs { s with heap := s.heap.push { cls := .type "set", dict := none, data := .set #[] 0 (.fresh 0 0 led) } } (.ref s.heap.objs.size) "set" := ⟨_, hS, rfl⟩
      have hli := PySem.F.called_set.init.lookup
      have hbi := PySem.F.called_set.init.bind (.ref s.heap.objs.size)
      repeat (any_goals (first | assumption | wp_step))
      refine codeAny_mono (codeAny_call_builtin (R := wants (fun r s₂ => r = .none ∧ ∃ h' tk, s₂ = { s with heap := h', toks := tk } ∧
          h'.SetOf (PySem.strKind prog w) s.heap.objs.size (fun k' => (xs.take items.size).any (· == k')) (cn xs items.size) ∧
          (∀ b o, b < s.heap.objs.size → s.heap.get? b = some o → h'.get? b = some o)) E) PySem.F.called_set.init.plain PySem.F.entry_set_init (check_set_init_1 hT ?_)) fun r₂ s₂ hr₂ => ?_
      · have hl1 : (s.heap.push { cls := .type "set", dict := none, data := .set #[] 0 (.fresh 0 0 led) }).IsList l items := hl.push _
        obtain ⟨ol, hol, hcl, nl, hdl⟩ := id hl1
        obtain ⟨ocls, odict, odata, oslots⟩ := ol
        simp only at hcl hdl
        subst hcl
        subst hdl
        have hlS : l < s.heap.objs.size := by
          obtain ⟨o0, q, _⟩ := hl
          exact Heap.lt_size q
        have hsls := PySem.F.sub_list_set
        have hslf := PySem.F.sub_list_frozenset
        have hne : (Value.type "list" == Value.type "dict") = false := by decide
        unfold Builtin.«set.__init__» noKeywords Builtin.Frozenset.updateFrom
        generalize hPI : pyIter = PI
        wp_walk
        subst hPI
        refine wpAny_pyIter_list hl1 ?_
        refine wpAny_bind (wpAny_runValue ?_)
        have hh3 : A.in1.in1.in1.handled = none := by simp [hh]
        have sz : (s.heap.push { cls := .type "set", dict := none, data := .set #[] 0 (.fresh 0 0 led) }).objs.size = s.heap.objs.size + 1 := Heap.size_push _ _
        have hneI : l ≠ (s.heap.push { cls := .type "set", dict := none, data := .set #[] 0 (.fresh 0 0 led) }).objs.size := by
          rw [sz]
          exact Nat.ne_of_lt (Nat.lt_succ_of_lt hlS)
        have hSf : s.heap.objs.size ∉ [(s.heap.push { cls := .type "set", dict := none, data := .set #[] 0 (.fresh 0 0 led) }).objs.size, l] := by
          simp only [List.mem_cons, List.not_mem_nil, or_false, not_or]
          exact ⟨by rw [sz]; exact Nat.ne_of_lt (Nat.lt_succ_self _), Nat.ne_of_gt hlS⟩
        have hsz : xs.length = items.size := by rw [← StrsAre.len_eq hi, Array.length_toList]
        refine loop ((Walks.list hh3 _ l hneI items).toS) s.heap.objs.size hSf xs hsz (by omega) (fun i v hv => strs_at hi i v (by rw [Array.getElem?_toList]; exact hv)) (items.size - 0) 0 _ (by omega) (Nat.zero_le _)
          ⟨⟨_, Heap.get?_push_size _ rfl, rfl, rfl⟩, (hl1.push _)⟩ ?_ fun s' hm hS' => ?_
        · exact PyProof.Rows.SetOf_congr ((PyProof.Rows.setObjOf_fresh (knd := PySem.strKind prog w) led).setOf (Heap.get?_push_of_some _ hS) (by unfold scanBound; omega)) (fun _ => rfl) rfl
        · obtain ⟨h', g', d', tk', os'⟩ := s'
          obtain rfl : g' = s.gens := hm.gens
          obtain rfl : d' = s.drawn := hm.drawn
          obtain rfl : os' = s.os := hm.os
          refine wpAny_pure ?_
          show wpAny _ _ (ret Value.none) _ _ _
          refine wpAny_pure ⟨rfl, h', tk', rfl, hS', fun b o hb e => hm.heap b o ?_ (Heap.get?_push_of_some _ (Heap.get?_push_of_some _ e))⟩
          simp only [List.mem_cons, List.not_mem_nil, or_false, not_or]
          exact ⟨Nat.ne_of_lt hb, by rw [sz]; exact Nat.ne_of_lt (Nat.lt_succ_of_lt hb)⟩
      · cases r₂ with
        | error e => exact hr₂
        | ok fl₂ =>
          cases fl₂ with
          | ret r =>
            obtain ⟨rfl, h', tk, rfl, hS', hk'⟩ := hr₂
            repeat (any_goals (first | assumption | wp_step))
            exact h _ _ hS' hk'
          | _ => exact hr₂.elim
    | _ => exact hr.elim
end
end SSn
namespace DL
open PySem PySem.Spec PyProof.Rows L2 Z LamX
/-- len(set(xs)) -/
def dLenSet (ta : DE) (s : S) (k : D → S → Prop) (x : XD) : Prop := ta s (fun d s1 => match d with
  | .lst ds => (match strsOf ds with
    | some zs => zs.length < 100 ∧ k (.int (SSn.cn zs zs.length)) s1
    | none => False)
  | _ => False) x
section
variable {X : Cx} {T : List (Addr × Str)} {W : WX} {a : Expr} {ta : DE} {p p2 q pos : Pos}
theorem d_lenSet (hc : X.calm = true) (hg : Gl X "len") (hm : X.mg "len" = none) (hg2 : Gl X "set") (hm2 : X.mg "set" = none) (ha : PE X a (lE X.K T W ta))
    (na : starEach [a] X.env = (false, eval a X.env) :: starEach [] X.env := by rfl) : PE X (.Call (.Name "len" p) [.Call (.Name "set" p2) [a] [] q] [] pos) (lE X.K T W (dLenSet ta)) := by
  refine ⟨fun pins s σ H Q I h => ?_⟩
  obtain ⟨g, f, st, XQ, Kd, ok, xo, h, hQ⟩ := h
  refine Call_ (ld_blt I hg hm boot_len ?_)
  refine PyProof.Rows.callWith_builtin1 (PyProof.Rows.args_cons ?_ rfl) rfl rfl
  refine Call_ (ld_blt I hg2 hm2 boot_set ?_)
  refine PyProof.Rows.callWith_type1 (PyProof.Rows.args_cons (thn (ha.run pins s σ H (fun x H1 => ∃ d s1 f1, (match d with
    | .lst ds => (match strsOf ds with
      | some zs => zs.length < 100 ∧ Kd (.int (SSn.cn zs zs.length)) s1
      | none => False)
    | _ => False) ∧ Ex f f1 ∧ Okay X.K T g f1 H1 σ s1 ∧ Rep X.K f1 d x) I ⟨g, f, st, XQ, _, ok, xo, h, fun d s1 v f1 H1 hx e1 ok1 r1 => ⟨d, s1, f1, hx, e1, ok1, r1⟩⟩) fun v s1 ⟨x, H1, I1, r1, q1⟩ => PyProof.Rows.args_nil ?_) na) na rfl
  obtain ⟨d, s1', f1, hx, e1, ok1, rr⟩ := q1
  cases d with
  | lst ds =>
    dsimp only at hx
    cases es : strsOf ds with
    | none => rw [es] at hx; exact hx.elim
    | some zs =>
      rw [es] at hx
      obtain ⟨hn, hk⟩ := hx
      obtain ⟨l, xs, rfl, hl, hr, hz⟩ := rr
      obtain rfl := hr.strs es
      cases r1
      obtain ⟨its, r, pl, hz⟩ := I1.list (show SqL X.K H1 l (zs.map V.str) from .inl (.inl (ok1.fr.inn _ _ hl)))
      refine SSn.call_set (I1.ok.hd hc) pl.isList (by simpa using strsAre_of r) hn fun h' tk hS hk' => PyProof.Rows.args_nil ?_
      have hl : its.toArray.size = zs.length := by rw [List.size_toArray, ← r.length, List.length_map]
      rw [hl] at hS
      obtain ⟨o, es, ep, t, ho, hex, hd, _, _, _, hf, hn'⟩ := hS
      have I2 : Inv X pins σ H1 { s1 with heap := h', toks := tk } := I1.kept fun b o e => hk' b o (Heap.lt_size e) e
      have hle := SSn.cn_le zs zs.length
      exact call_len_set ho hex hd hf (by rw [hn']; omega) ⟨.int (SSn.cn zs zs.length), H1, I2.tok _, ⟨_, by rw [hn']⟩, hQ _ s1' _ f1 H1 hk e1 ok1 rfl⟩
  | _ => exact hx.elim
end
end DL

/-! DL: global tuples of texts and numbers; {k: v, ..}. -/
namespace DL
open PySem PySem.W PySem.Spec PyProof.Rows L2 Z LamX
def flatB : V → Value → Bool
  | .str z, .str y _ => decide (z = y) && decide (z.length ≤ sizeLine)
  | .int i, .int j _ => decide (i = j)
  | _, _ => false
def flatsB : List V → List Value → Bool
  | [], [] => true
  | v :: vs, u :: us => flatB v u && flatsB vs us
  | _, _ => false
/-- a written tuple of texts and numbers stands at a -/
def tupB (K : PySem.W.Frag) (a : Addr) (zs : List V) : Bool := match K.lookup a with
  | some o => decide (o.cls = .type "tuple") && (match o.data with
    | .seq its _ => decide (its.size ≤ sizeLine) && flatsB zs its.toList
    | _ => false)
  | none => false
def dOfV : V → D
  | .str z => .str z
  | .int i => .int i
  | _ => .non
theorem flatB_ok {K : PySem.W.Frag} {v : V} {u : Value} (h : flatB v u = true) : RelV v u ∧ ∀ f, Rep K f (dOfV v) v := by
  unfold flatB at h
  split at h
  · obtain ⟨h1, h2⟩ := Bool.and_eq_true_iff.mp h
    have e := of_decide_eq_true h1
    subst e
    exact ⟨⟨_, rfl⟩, fun f => ⟨rfl, of_decide_eq_true h2⟩⟩
  · have e := of_decide_eq_true h
    subst e
    exact ⟨⟨_, rfl⟩, fun f => rfl⟩
  · cases h
theorem flatsB_ok {K : PySem.W.Frag} : ∀ {vs : List V} {us : List Value}, flatsB vs us = true → Vals vs us ∧ ∀ f, Reps K f (vs.map dOfV) vs
  | [], [], _ => ⟨.nil, fun _ => rfl⟩
  | v :: vs, u :: us, h => by
    obtain ⟨h1, h2⟩ := Bool.and_eq_true_iff.mp h
    obtain ⟨a1, a2⟩ := flatB_ok (K := K) h1
    obtain ⟨b1, b2⟩ := flatsB_ok (K := K) h2
    exact ⟨.cons a1 b1, fun f => ⟨v, vs, rfl, a2 f, b2 f⟩⟩
  | [], _ :: _, h => by cases h
  | _ :: _, [], h => by cases h
theorem tup_rep {K : PySem.W.Frag} {a : Addr} {zs : List V} (h : tupB K a zs = true) (f : Hp) : Rep K f (.tup (zs.map dOfV)) (.ref a) := by
  unfold tupB at h
  split at h
  · rename_i o e
    obtain ⟨h1, h2⟩ := Bool.and_eq_true_iff.mp h
    split at h2
    · rename_i its n ed
      obtain ⟨h3, h4⟩ := Bool.and_eq_true_iff.mp h2
      obtain ⟨q1, q2⟩ := flatsB_ok (K := K) h4
      have l := q1.length
      exact ⟨a, zs, rfl, .inr ⟨o, its, n, e, of_decide_eq_true h1, ed, of_decide_eq_true h3, q1⟩, q2 f, by
        rw [List.length_map, l, Array.length_toList]
        exact of_decide_eq_true h3⟩
    · cases h2
  · cases h
/-! {k: v, ..} -/
def dPairs : List (DE × DE) → S → (List (D × D) → S → Prop) → XD → Prop
  | [], s, k, _ => k [] s
  | (a, b) :: r, s, k, x => a s (fun d s1 => b s1 (fun e s2 => dPairs r s2 (fun ps s3 => k ((d, e) :: ps) s3) x) x) x
def keyD : D → Option Key
  | .int i => some (.inl i)
  | .str z => some (.inr z)
  | _ => none
def keysD : List (D × D) → Option (List (Key × D))
  | [] => some []
  | (a, b) :: r => match keyD a, keysD r with
    | some k, some kr => some ((k, b) :: kr)
    | _, _ => none
def putKD (kvs : List (Key × D)) (k : Key) (v : D) : List (Key × D) := if (kvs.any fun kv => decide (kv.1 = k)) = true then kvs.map (fun kv => if kv.1 = k then (kv.1, v) else kv) else kvs ++ [(k, v)]
def mergeD (kvs more : List (Key × D)) : List (Key × D) := more.foldl (fun acc kv => putKD acc kv.1 kv.2) kvs
def dDict (trs : List (DE × DE)) (s : S) (k : D → S → Prop) (x : XD) : Prop := dPairs trs s (fun ps s1 => match keysD ps with
  | some kvs => k (.dic (mergeD [] kvs)) s1
  | none => False) x
section
variable {K : PySem.W.Frag} {f : Hp}
theorem RepK.any {q : Key → Bool} : ∀ {ds : List (Key × D)} {xs : List (Key × V)}, RepK K f ds xs → (ds.any fun kv => q kv.1) = (xs.any fun kv => q kv.1)
  | [], _, h => by cases h; rfl
  | (j, d) :: ds, _, ⟨x, r, h1, h2, h3⟩ => by
    subst h1
    simp only [List.any_cons, RepK.any h3]
theorem RepK.len : ∀ {ds : List (Key × D)} {xs : List (Key × V)}, RepK K f ds xs → xs.length = ds.length
  | [], _, h => by cases h; rfl
  | (_, _) :: _, _, ⟨_, _, h1, _, h3⟩ => by subst h1; exact congrArg Nat.succ (RepK.len h3)
theorem RepK.app : ∀ {ds es : List (Key × D)} {xs ys : List (Key × V)}, RepK K f ds xs → RepK K f es ys → RepK K f (ds ++ es) (xs ++ ys)
  | [], _, _, _, h, h' => by cases h; exact h'
  | (_, _) :: _, _, _, _, ⟨x, r, h1, h2, h3⟩, h' => by subst h1; exact ⟨x, _, rfl, h2, RepK.app h3 h'⟩
theorem RepK.map {k : Key} {d : D} {v : V} (hv : Rep K f d v) : ∀ {ds : List (Key × D)} {xs : List (Key × V)}, RepK K f ds xs → RepK K f (ds.map fun kv => if kv.1 = k then (kv.1, d) else kv) (xs.map fun kv => if kv.1 = k then (kv.1, v) else kv)
  | [], _, h => by cases h; exact rfl
  | (j, e) :: ds, _, ⟨x, r, h1, h2, h3⟩ => by
    subst h1
    simp only [List.map_cons]
    split
    · exact ⟨v, _, rfl, hv, RepK.map hv h3⟩
    · exact ⟨x, _, rfl, h2, RepK.map hv h3⟩
theorem RepK.put {k : Key} {d : D} {v : V} (hv : Rep K f d v) {ds : List (Key × D)} {xs : List (Key × V)} (h : RepK K f ds xs) : RepK K f (putKD ds k d) (L2.putK xs k v) := by
  unfold putKD L2.putK
  rw [h.any (q := fun j => decide (j = k))]
  split
  · exact h.map hv
  · exact h.app ⟨v, [], rfl, hv, rfl⟩
theorem RepK.merge : ∀ {es : List (Key × D)} {ys : List (Key × V)} {ds : List (Key × D)} {xs : List (Key × V)}, RepK K f es ys → RepK K f ds xs → RepK K f (mergeD ds es) (mergeK xs ys)
  | [], _, _, _, h, h' => by cases h; exact h'
  | (k, d) :: es, _, _, _, ⟨v, r, h1, h2, h3⟩, h' => by
    subst h1
    show RepK K f (mergeD (putKD _ k d) es) (mergeK (L2.putK _ k v) r)
    exact RepK.merge h3 (h'.put h2)
theorem mergeD_len : ∀ (es ds : List (Key × D)), (mergeD ds es).length ≤ ds.length + es.length
  | [], ds => Nat.le_refl _
  | (k, d) :: es, ds => by
    have h1 := mergeD_len es (putKD ds k d)
    have h2 : (putKD ds k d).length ≤ ds.length + 1 := by
      unfold putKD
      split <;> simp
    show (mergeD (putKD ds k d) es).length ≤ _
    simp only [List.length_cons]
    omega
/-- pairs, told by data -/
def RepPs (K : PySem.W.Frag) (f : Hp) : List (D × D) → List (V × V) → Prop
  | [], vs => vs = []
  | (a, b) :: r, vs => ∃ x y ws, vs = (x, y) :: ws ∧ Rep K f a x ∧ Rep K f b y ∧ RepPs K f r ws
theorem RepPs.len : ∀ {ps : List (D × D)} {vs : List (V × V)}, RepPs K f ps vs → vs.length = ps.length
  | [], _, h => by cases h; rfl
  | (_, _) :: _, _, ⟨_, _, _, h1, _, _, h3⟩ => by subst h1; exact congrArg Nat.succ (RepPs.len h3)
theorem RepPs.keys : ∀ {ps : List (D × D)} {vs : List (V × V)} {kvs : List (Key × D)}, RepPs K f ps vs → keysD ps = some kvs → ∃ xs : List (Key × V), vs = xs.map (fun kv => (kV kv.1, kv.2)) ∧ RepK K f kvs xs
  | [], _, _, h, e => by cases h; cases e; exact ⟨[], rfl, rfl⟩
  | (a, b) :: r, _, kvs, ⟨x, y, ws, h1, h2, h3, h4⟩, e => by
    subst h1
    unfold keysD at e
    split at e
    · rename_i k kr e1 e2
      cases e
      obtain ⟨xs, q1, q2⟩ := h4.keys e2
      have ek : x = kV k := by
        cases a with
        | int i => cases e1; exact h2
        | str z => cases e1; exact h2.1
        | _ => cases e1
      exact ⟨(k, y) :: xs, by rw [q1, ek]; rfl, y, xs, rfl, h3, q2⟩
    · cases e
end
section
variable {X : Cx} {T : List (Addr × Str)} {W : WX} {pos : Pos} {keys : List (Option Expr)} {values : List Expr} {trs : List (DE × DE)} {k v : Expr} {tk tv : DE}
abbrev lP (K : PySem.W.Frag) (T : List (Addr × Str)) (W : WX) (trs : List (DE × DE)) : List (TE × TE) := trs.map fun p => (lE K T W p.1, lE K T W p.2)
theorem dp_nil : PPs X pos [] [] (lP X.K T W []) := pps_nil
theorem dp_cons (hk : PE X k (lE X.K T W tk)) (hv : PE X v (lE X.K T W tv)) (hr : PPs X pos keys values (lP X.K T W trs)) : PPs X pos (some k :: keys) (v :: values) (lP X.K T W ((tk, tv) :: trs)) := pps_cons hk hv hr
theorem pairs_up {K : PySem.W.Frag} : ∀ {trs : List (DE × DE)} {σ : L2.St} {H : Hp} {R : List (V × V) → Hp → Prop} {g : Gd} {f : Hp} {s : S} {XQ : XD} {Kd : List (D × D) → S → Prop}, Okay K T g f H σ s → XOk K T W g σ XQ → dPairs trs s Kd XQ →
    (∀ ps s' vs f' H', ps.length = trs.length → Kd ps s' → Ex f f' → Okay K T g f' H' σ s' → RepPs K f' ps vs → R vs H') → tPairs (lP K T W trs) σ H R
  | [], σ, H, R, g, f, s, XQ, Kd, ok, xo, h, hQ => hQ [] s [] f H rfl h (Ex.refl _) ok rfl
  | (a, b) :: r, σ, H, R, g, f, s, XQ, Kd, ok, xo, h, hQ => by
    refine ⟨g, f, s, XQ, _, ok, xo, h, fun d s1 x f1 H1 hx e1 ok1 r1 => ⟨g, f1, s1, XQ, _, ok1, xo, hx, fun e s2 y f2 H2 hy e2 ok2 r2 => pairs_up ok2 xo hy fun ps s3 vs f3 H3 hl hz e3 ok3 r3 => ?_⟩⟩
    exact hQ ((d, e) :: ps) s3 ((x, y) :: vs) f3 H3 (congrArg Nat.succ hl) hz (e1.trans (e2.trans e3)) ok3 ⟨x, y, vs, rfl, r1.ex (e2.trans e3), r2.ex e3, r3⟩
theorem d_dict (hp : PPs X pos keys values (lP X.K T W trs)) (hall : keys.all (·.isSome) = true := by rfl) (hl : keys.length = values.length := by rfl) (h0 : keys ≠ [] := by exact List.cons_ne_nil _ _) (h15 : keys.length ≤ 15 := by decide) (hn : keys.length = trs.length := by rfl) :
    PE X (.Dict keys values pos) (lE X.K T W (dDict trs)) :=
  (pe_disp hp hall hl h0 h15).up fun σ H Q ⟨g, f, s, XQ, Kd, ok, xo, h, hQ⟩ p hp0 => by
    obtain ⟨_, n2, n3, n4, n5⟩ := new_own (u := .dK []) ok hp0
    have okA := ok.rsNew (u := .dK []) hp0 rfl n3
    refine pairs_up (g := { g with rs := (p, .dK []) :: g.rs }) okA (fun cls fs s f H xs dd ok h1 h2 h3 => xo cls fs s f H xs dd ok.rsDrop h1 h2 h3) h fun ps s' vs f' H' hlen hk e ok2 r2 => ?_
    obtain ⟨q1, q2, q3, q4, q5, q6⟩ := ok2.rs (p, .dK []) (by simp)
    cases ek : keysD ps with
    | none => rw [ek] at hk; exact hk.elim
    | some kvs =>
      rw [ek] at hk
      obtain ⟨xs, ev, rk⟩ := r2.keys ek
      have le : vs.length ≤ 15 := by rw [r2.len, hlen, ← hn]; exact h15
      have le2 : xs.length ≤ 15 := by rw [ev, List.length_map] at le; exact le
      refine ⟨q1, xs, ev, le2, ?_⟩
      have ok3 := ok2.rsSet (u' := .dK (mergeK [] xs)) n4 rfl
      have rm : RepK X.K f' (mergeD [] kvs) (mergeK [] xs) := rk.merge (ds := []) (xs := []) rfl
      have lm := mergeD_len kvs []
      have lk := rk.len
      have hz : sizeLine = 16777216 := by decide
      simp only [List.length_nil] at lm
      obtain ⟨f2, e2, ok4, r4⟩ := ok3.rsDrop.fzNew (a := p) (o := .dic (mergeD [] kvs)) ⟨q2, _, upd_same, rm, by omega⟩ q3 q5 n4 q6
      exact hQ _ s' _ f2 _ hk (e.trans e2) ok4 r4
end
end DL

/-! DL: a tuple of anything beside (). -/
namespace DL
open PySem PySem.Spec PyProof.Rows L2 Z LamX
def oEqN : D2
  | .tup ds, .tup [], k => k (.bl ds.isEmpty)
  | x, y, k => oEq x y k
section
variable {X : Cx}
theorem p_eqN (hu : X.A.units + 64 < cLine) : OpR X (compareOp .Eq) (rP X.K oEqN) := by
  intro pins s σ H x y v u Q I rx ry ⟨f, dx, dy, Kd, e, r1, r2, h, hQ⟩
  unfold oEqN at h
  split at h
  · rename_i kk ds
    obtain ⟨a, xs, rfl, h1, h2, h3⟩ := r1
    obtain ⟨b, ys, rfl, q1, q2, q3⟩ := r2
    obtain rfl : ys = [] := q2
    cases rx
    cases ry
    obtain ⟨its, r, pl, _⟩ := I.tuple (e.tp h1).sqt
    obtain ⟨jts, r', pl', _⟩ := I.tuple (e.tp q1).sqt
    cases r'
    refine SeqAt.eq_tupleAt (e := fun _ => true) pl pl' (by omega) (fun j _ h2 => absurd h2 (by simp)) ⟨.bl ds.isEmpty, H, I, ?_, hQ _ _ f H h (Gro.refl e) rfl⟩
    have hl : its.length = ds.length := by rw [← r.length, h2.len]
    show Value.bool _ = Value.bool _
    congr 1
    cases ds with
    | nil =>
      have : its = [] := List.eq_nil_of_length_eq_zero hl
      subst this
      rfl
    | cons d ds =>
      cases its with
      | nil => cases hl
      | cons i its => simp
  · exact p_eq hu pins s σ H x y v u Q I rx ry ⟨f, dx, dy, Kd, e, r1, r2, h, hQ⟩
end
end DL

/-! L2: enumerate of a tuple; DL: what is gone through, list or tuple. -/
namespace L2
open PySem PySem.Spec PyProof.Rows
open AutoSeq1 (wpAny_loadPart')
set_option maxHeartbeats 4000000 in
theorem meets_enumT (l : Addr) (items : Array Value) (n : Nat) (dct : Option Addr) (sl : Array (Option Value)) :
    Meets (Builtin.«enumerate.__new__» ⟨[.type "enumerate", .ref l], []⟩) (fun _ R s => s.heap.get? l = some { cls := .type "tuple", data := .seq items n, dict := dct, slots := sl } ∧
      R (.ok (.ret (.ref (s.heap.push { cls := .type "tuple_iterator", data := .fields #[.ref l, .int 0 0] }).objs.size)))
        { s with heap := (s.heap.push { cls := .type "tuple_iterator", data := .fields #[.ref l, .int 0 0] }).push { cls := .type "enumerate", data := .fields #[.none, .bool false, .ref s.heap.objs.size, rawInt 0, .none, .none] } }) :=
  .of_wp fun prog w A R s h => by
    obtain ⟨hp, g, d, tk, os⟩ := s
    obtain ⟨hl, h⟩ := h
    have hsub := sub_enumerate
    have hL : Heap.IsTuple (Shared.heap ⟨hp, g, d, tk, os⟩) l items := ⟨_, hl, rfl, n, rfl⟩
    wp_walk using wpAny_loadPart' hl
    refine wpAny_stack_any fun st => wpAny_pure ?_
    split
    · rename_i c _ _ _ _ _
      cases (c == Value.type "enumerate")
      · wp_walk using wpAny_loadPart' hl, wpAny_pyIter_tuple hL
        exact ⟨_, rfl, h⟩
      · wp_walk using wpAny_loadPart' hl, wpAny_pyIter_tuple hL
        exact ⟨_, rfl, h⟩
    · wp_walk using wpAny_loadPart' hl, wpAny_pyIter_tuple hL
      exact ⟨_, rfl, h⟩
section
variable {prog : Program} {w : World} {A : Around} {E : Value → Shared → Prop} {s : Shared}
theorem call_enumT {l : Addr} {items : Array Value} {Q : Value → Shared → Prop} (hL : s.heap.IsTuple l items)
    (h : ∀ h', IsEnum h' (s.heap.objs.size + 1) s.heap.objs.size 0 .none → h'.IsTupleIter s.heap.objs.size l 0 → h'.objs.size = s.heap.objs.size + 2 →
      (∀ b o, s.heap.get? b = some o → h'.get? b = some o) → Q (.ref (s.heap.objs.size + 1)) { s with heap := h' }) :
    wpAny (model prog w) A (call (.type "enumerate") [.ref l]) Q E s := by
  obtain ⟨⟨c, dct, dt, sl⟩, hl, hc, n, hd⟩ := hL
  replace hc : c = .type "tuple" := hc
  replace hd : dt = .seq items n := hd
  subst hc hd
  refine callType_new F.called_enumerate (by decide) (F.typeCall_enumerate_1 _) (F.newCall_enumerate_1 _) (fun obj => F.args_object_init_2 obj _) F.entry_enumerate_new (meets_enumT l items n dct sl) ⟨hl, ?_⟩
  have hz : (s.heap.push { cls := .type "tuple_iterator", data := .fields #[.ref l, .int 0 0] }).objs.size = s.heap.objs.size + 1 := Heap.size_push ..
  show _ ∧ _
  rw [hz]
  have he : IsEnum ((s.heap.push { cls := .type "tuple_iterator", data := .fields #[.ref l, .int 0 0] }).push
      { cls := .type "enumerate", data := .fields #[.none, .bool false, .ref s.heap.objs.size, rawInt 0, .none, .none] }) (s.heap.objs.size + 1) s.heap.objs.size 0 .none := by
    have := Heap.get?_push_size (s.heap.push { cls := .type "tuple_iterator", data := .fields #[.ref l, .int 0 0] })
      (o := { cls := .type "enumerate", data := .fields #[.none, .bool false, .ref s.heap.objs.size, rawInt 0, .none, .none] }) rfl
    rw [hz] at this
    exact this
  exact ⟨⟨_, he, rfl⟩, h _ he ⟨_, Heap.get?_push_of_some _ (Heap.get?_push_size _ rfl), rfl, rfl⟩ (by rw [Heap.size_push, hz]) fun b o x => Heap.get?_push_of_some _ (Heap.get?_push_of_some _ x)⟩
end
theorem drawsT {prog : Program} {w : World} {A : Around} (hh : A.handled = none) (it t : Addr) (hne : t ≠ it) (items : Array Value) :
    Draws prog w A it [it, t] items.size (fun i v => items[i]? = some v) (fun i h => h.IsTupleIter it t i ∧ h.IsTuple t items) where
  live := fun _ _ st => let ⟨o, ho, _⟩ := st.1; ⟨o, ho⟩
  frame := fun _ _ _ st hk => ⟨st.1.at fun o e => hk it (by simp) o e, st.2.at fun o e => hk t (by simp) o e⟩
  item := fun i s Q E hi st hQ => RZ.nextOf_tuple_item st.1 st.2 (x := items[i]) (by simp [hi]) fun h' hit' hs' => hQ _ h' s.toks (by simp [hi]) ⟨hit', st.2.extBut hs'.extBut hne⟩ hs'
  done := fun s Q E st hE => RZ.nextOf_tuple_end hh st.1 st.2 (by simp) hE
section
variable {prog : Program} {w : World} {A : Around} {E : Value → Shared → Prop} {s : Shared}
theorem next_enumT_end {e it l : Addr} {i : Nat} {items : Array Value} {old : Value} {Q : Option Value → Shared → Prop} (hh : A.handled = none) (he : IsEnum s.heap e it i old) (hit : s.heap.IsTupleIter it l i) (hl : s.heap.IsTuple l items) (hx : items[i]? = none)
    (hQ : ∀ h', Heap.ExtBut it s.heap h' → Q none { s with heap := h' }) : wpAny (model prog w) A (pyNext (.ref e)) Q E s := by
  have hT : s.TypeIs (.ref e) "enumerate" := ⟨_, he, rfl⟩
  unfold pyNext
  refine wpAny_bind (wpAny_attempt (wpAny_callSpecial?_slot (name := Str.ofString "__next__") hT F.slot_enumerate_next (wpAny_call_entry F.slot_enumerate_next hT F.entry_enumerate_next ?_ (F.args_enumerate_next_1 _))))
  show wpAny _ _ (field (.ref e) 2 >>= _) _ _ _
  refine wpAny_bind (wpAny_field he rfl (x := .ref it) rfl (wpAny_bind (RZ.nextOf_tuple_end (by simp [hh]) hit hl hx fun h' x he' hx' => ?_)))
  obtain ⟨o, ho, hc⟩ := hx'
  exact wpAny_bind (wpAny_isInstance (T := "StopIteration") (b := true) ⟨o, ho, hc⟩ isSubtype_stop (wpAny_pure (hQ _ he')))
end
/-- the tuple at a, each item in a new pair -/
def IteT (K : PySem.W.Frag) (a : Addr) : It :=
  ⟨fun i H => ∃ (xs : List V) (x : V), SqT K H a xs ∧ xs[i]? = some x, fun i H v H' => ∃ T x, v = .ref T ∧ H T = none ∧ H' = upd H T (.tup [.int (i : Nat), x]) ∧ ∀ xs, SqT K H a xs → xs[i]? = some x, fun i H => ∃ xs : List V, SqT K H a xs ∧ xs.length ≤ i⟩
theorem turn_enumT {P : Program} {w : World} {K : PySem.W.Frag} {elts : List Expr} {kk : Nat} {tpos : Pos} (a e it : Addr) (hat : a ≠ it) :
    Turn P w K (.Tuple elts kk tpos) (IteT K a) [e, it] e (fun i h => (∃ old, IsEnum h e it ((i : Nat) : Int) old) ∧ h.IsTupleIter it a i ∧ e ≠ it ∧ e ≠ a) where
  mem := by simp
  obj := fun i h st b hb => by
    obtain ⟨⟨old, he⟩, ⟨o, ho, hc, hd⟩, _⟩ := st
    have e' : b = e ∨ b = it := by simpa using hb
    rcases e' with z | z
    · rw [z]; exact ⟨_, he, fun v q => nomatch q⟩
    · rw [z]; exact ⟨o, ho, fun v q => by rw [hd] at q; cases q⟩
  keep := fun i h h' st k => let ⟨⟨old, he⟩, hi, hne⟩ := st; ⟨⟨old, k e (by simp) _ he⟩, hi.at fun o q => k it (by simp) o q, hne⟩
  item := by
    intro X hP hw hK hc i pins s σ H E I hf st hg
    subst hP hw hK
    obtain ⟨⟨old, he⟩, hit, hne, hea⟩ := st
    obtain ⟨xs, x, hq, hx⟩ := hg
    obtain ⟨its, rv, p, hz⟩ := I.tuple hq
    obtain ⟨u, hu, ru⟩ := rv.get hx
    have hel : e < s.heap.objs.size := Heap.lt_size he
    have hil : it < s.heap.objs.size := by obtain ⟨_, q, _⟩ := hit; exact Heap.lt_size q
    have hlt : i < its.toArray.size := by
      have := (List.getElem?_eq_some_iff.mp hu).1
      simpa using this
    refine wpAny_pyNext_enum_itemD (drawsT (by simp [I.ok.hd hc]) it a hat its.toArray) he ⟨hit, p⟩ hlt hne (by simp [hne, hea]) fun x' h' tk hPx ho hst hT hsz hk => ?_
    have ex : x' = u := by
      have q : its[i]? = some x' := by simpa using hPx
      rw [hu] at q
      cases q
      rfl
    subst ex
    refine ⟨_, rfl, wpAny_letOwnedTupleGo_enum (s := { s with heap := h', toks := tk + 1 }) ho fun h'' he' sb => ?_⟩
    have hT2 : h''.get? s.heap.objs.size = some { cls := .type "tuple", data := .seq #[.int i tk, x'] } := (sb.2 _ (Nat.ne_of_gt hel)).trans hT
    have new : ObjOk X.prog X.w (upd H s.heap.objs.size (.tup [.int (i : Nat), x])) h'' s.heap.objs.size (.tup [.int (i : Nat), x]) :=
      ⟨by show 2 ≤ sizeLine; decide, [.int i tk, x'], .cons ⟨_, rfl⟩ (.cons ru .nil), ⟨_, hT2, rfl, _, rfl⟩⟩
    have I1 : Inv X pins σ (upd H s.heap.objs.size (.tup [.int (i : Nat), x])) { s with heap := h'', toks := tk + 1 } :=
      I.turnedNew (ch := [e, it]) (fun b ob hb q => (sb.2 b (fun z => hb (by simp [z]))).trans (hk b ob (fun z => hb (by simp [z])) (fun z => hb (by simp [z])) q)) hf (Nat.le_refl _) new
    refine ⟨.ref s.heap.objs.size, _, I1, rfl, ⟨_, x, rfl, I.hok.fresh (Nat.le_refl _), rfl, fun ys hy => by rw [I.tuple_inj hy hq]; exact hx⟩, ⟨⟨x', ?_⟩, hst.1.at fun o q => (sb.2 it (Ne.symm hne)).trans q, hne, hea⟩, fun b hb => ?_⟩
    · have e1 : ((i + 1 : Nat) : Int) = (i : Int) + 1 := by omega
      rw [e1]
      exact he'
    · have hb' : b < s.heap.objs.size := by
        have e' : b = e ∨ b = it := by simpa using hb
        rcases e' with z | z
        · rw [z]; exact hel
        · rw [z]; exact hil
      rw [upd_ne (Nat.ne_of_lt hb')]
      exact (hf b hb).1
  done := by
    intro X hP hw hK hc i pins s σ H E I hf st hg
    subst hP hw hK
    obtain ⟨⟨old, he⟩, hit, hne, hea⟩ := st
    obtain ⟨xs, hq, hx⟩ := hg
    obtain ⟨its, rv, p, hz⟩ := I.tuple hq
    obtain ⟨f0, f1, f2, f3, f4, f5⟩ := hf it (by simp)
    have hl := rv.length
    exact next_enumT_end (I.ok.hd hc) he hit p (by simp; omega) fun h' eb => ⟨rfl, I.turned (t' := s.toks) (fun b o hb q => eb b o hb q) f0 f1 f3 f4 f5⟩
  self := fun A i s Q E st h => let ⟨⟨_, he⟩, _⟩ := st; wpAny_pyIter_enum he h
def iEnumA (K : PySem.W.Frag) (ta : TA) : TI := fun σ H R => ta σ H fun vs H1 => ∃ a xs, vs = [.ref a] ∧ ((SqL K H1 a xs ∧ R (Ite K a) H1) ∨ (SqT K H1 a xs ∧ R (IteT K a) H1))
theorem pi_enumA {X : Cx} {e : Expr} {ta : TA} {p pos tpos : Pos} {elts : List Expr} {kk : Nat} (hg : Gl X "enumerate") (hm : X.mg "enumerate" = none) (ha : PA X [e] ta) (hs : starEach [e] X.env = [(false, eval e X.env)] := by rfl) :
    PI X (.Tuple elts kk tpos) (.Call (.Name "enumerate" p) [e] [] pos) (iEnumA X.K ta) := by
  refine ⟨fun pins s σ H R I h => ?_⟩
  refine Call_ (ld_blt I hg hm boot_enumerate (PyProof.Rows.callWith_type1 (thn (ha.run pos pins s σ H _ I h) fun us s1 ⟨vs, H1, I1, r1, q1⟩ => ?_) hs rfl))
  obtain ⟨a, xs, ex, q⟩ := q1
  subst ex
  cases r1 with
  | cons r rr =>
    cases rr
    cases r
    have fp : ∀ b ∈ [s1.heap.objs.size + 1, s1.heap.objs.size], s1.heap.objs.size ≤ b := fun b hb => by
      have e' : b = s1.heap.objs.size + 1 ∨ b = s1.heap.objs.size := by simpa using hb
      rcases e' with z | z
      · rw [z]; exact Nat.le_add_right _ _
      · rw [z]; exact Nat.le_refl _
    rcases q with ⟨hq, q⟩ | ⟨hq, q⟩
    · obtain ⟨its, rv, p', hz⟩ := I1.list hq
      refine call_enumerate_list p'.isList fun h' he hit hsz hk => wpAny_pyIter_enum he ?_
      have I2 : Inv X pins σ H1 { s1 with heap := h' } := I1.kept (t' := s1.toks) hk
      exact ⟨s1.heap.objs.size + 1, [s1.heap.objs.size + 1, s1.heap.objs.size], _, _, H1, rfl, I2, turn_enum a (s1.heap.objs.size + 1) s1.heap.objs.size, ⟨⟨.none, he⟩, hit, Nat.succ_ne_self _⟩, fun b hb => I1.fpOk (fp b hb) (I1.hok.fresh (fp b hb)), q⟩
    · obtain ⟨its, rv, p', hz⟩ := I1.tuple hq
      have hal : a < s1.heap.objs.size := by
        obtain ⟨o, q, _⟩ := p'
        exact Heap.lt_size q
      refine call_enumT p' fun h' he hit hsz hk => wpAny_pyIter_enum he ?_
      have I2 : Inv X pins σ H1 { s1 with heap := h' } := I1.kept (t' := s1.toks) hk
      exact ⟨s1.heap.objs.size + 1, [s1.heap.objs.size + 1, s1.heap.objs.size], _, _, H1, rfl, I2, turn_enumT a (s1.heap.objs.size + 1) s1.heap.objs.size (Nat.ne_of_lt hal), ⟨⟨.none, he⟩, hit, Nat.succ_ne_self _, Ne.symm (Nat.ne_of_lt (Nat.lt_succ_of_lt hal))⟩, fun b hb => I1.fpOk (fp b hb) (I1.hok.fresh (fp b hb)), q⟩
theorem walk_enumT {K : PySem.W.Frag} {a : Addr} {xs : List V} : Walk (IteT K a) xs.length (fun H => SqT K H a xs) (YPair (fun i => some (.int (i : Nat))) (fun i => xs[i]?)) := by
  refine ⟨fun i _ hi q => ⟨xs, xs[i], q, by simp [hi]⟩, fun _ q => ⟨xs, q, Nat.le_refl _⟩, fun i H v H' _ q y => ?_⟩
  obtain ⟨T, x, h1, h2, h3, h4⟩ := y
  exact ⟨T, .int (i : Nat), x, h1, h2, h3, rfl, h4 xs q⟩
/-- a list or a tuple -/
def iAny (K : PySem.W.Frag) (tl : TE) : TI := fun σ H R => tl σ H fun x H1 => ∃ a, x = .ref a ∧ (((∃ xs, SqL K H1 a xs) ∧ R (Itl K a) H1) ∨ ((∃ xs, SqT K H1 a xs) ∧ R (Itt K a) H1))
theorem pi_any {X : Cx} {tg l : Expr} {tl : TE} (hl : PE X l tl) : PI X tg l (iAny X.K tl) := by
  refine ⟨fun pins s σ H R I h => ?_⟩
  refine thn (hl.run pins s σ H _ I h) fun v s1 ⟨x, H1, I1, r1, q1⟩ => ?_
  obtain ⟨a, e, q⟩ := q1
  subst e
  cases r1
  have fp : ∀ b ∈ [s1.heap.objs.size], H1 b = none ∧ b = s1.heap.objs.size := fun b hb => by
    have e : b = s1.heap.objs.size := by simpa using hb
    subst e
    exact ⟨I1.hok.fresh (Nat.le_refl _), rfl⟩
  rcases q with ⟨⟨xs, hq⟩, q⟩ | ⟨⟨xs, hq⟩, q⟩
  · obtain ⟨its, rv, p, hz⟩ := I1.list hq
    refine wpAny_pyIter_list p.isList ?_
    exact ⟨s1.heap.objs.size, [s1.heap.objs.size], _, _, H1, rfl, I1.kept (t' := s1.toks) fun b o e => Heap.get?_push_of_some _ e, turn_list a _, ⟨_, Heap.get?_push_size _ rfl, rfl, rfl⟩, fun b hb => by
      obtain ⟨h1, rfl⟩ := fp b hb
      exact I1.fpOk (Nat.le_refl _) h1, q⟩
  · obtain ⟨its, rv, p, hz⟩ := I1.tuple hq
    refine wpAny_pyIter_tuple (show s1.heap.IsTuple a its.toArray from p) ?_
    exact ⟨s1.heap.objs.size, [s1.heap.objs.size], _, _, H1, rfl, I1.kept (t' := s1.toks) fun b o e => Heap.get?_push_of_some _ e, turn_tuple a _, ⟨_, Heap.get?_push_size _ rfl, rfl, rfl⟩, fun b hb => by
      obtain ⟨h1, rfl⟩ := fp b hb
      exact I1.fpOk (Nat.le_refl _) h1, q⟩
end L2
namespace DL
open PySem PySem.Spec PyProof.Rows L2 Z LamX
def iEnA (tr : DR) (s : S) (k : List D → S → Prop) (x : XD) : Prop := tr s (fun as s1 => match as with
  | [.lst ds] => k (ds.mapIdx fun i d => D.tup [.int (i : Nat), d]) s1
  | [.tup ds] => k (ds.mapIdx fun i d => D.tup [.int (i : Nat), d]) s1
  | _ => False) x
def iAn (te : DE) (s : S) (k : List D → S → Prop) (x : XD) : Prop := te s (fun d s1 => match d with
  | .lst ds => k ds s1
  | .tup ds => k ds s1
  | _ => False) x
section
variable {X : Cx} {T : List (Addr × Str)} {W : WX} {e tg : Expr} {te : DE} {tr : DR} {pos : Pos}
theorem di_enumA {p tpos : Pos} {elts : List Expr} {kk : Nat} (hg : Gl X "enumerate") (hm : X.mg "enumerate" = none) (ha : PA X [e] (lA X.K T W tr)) (hs : starEach [e] X.env = [(false, eval e X.env)] := by rfl) :
    PI X (.Tuple elts kk tpos) (.Call (.Name "enumerate" p) [e] [] pos) (lI X.K T W (iEnA tr)) :=
  (pi_enumA hg hm ha hs).up fun σ H R ⟨g, f, s, XQ, Kd, ok, xo, h, hQ⟩ => ⟨g, f, s, XQ, _, ok, xo, h, fun ds s1 vs f1 H1 hx e1 ok1 r1 => by
    split at hx
    · obtain ⟨x, r, rfl, ⟨a, xs, rfl, h1, h2, hl⟩, rr⟩ := r1
      cases rr
      rename_i ds
      refine ⟨a, xs, rfl, .inl ⟨sql_of (ok1.fr.inn _ _ h1), hQ _ s1 f1 H1 _ hx e1 ok1 (wk_pair (n := xs.length) (by rw [List.length_mapIdx]; exact h2.len) (by rw [List.length_mapIdx]; exact hl) walk_enum (fun H2 e2 => sql_of (e2 _ _ h1)) fun i x y q1 q2 hi => ?_)⟩⟩
      cases q1
      obtain ⟨d, p1, p2⟩ := h2.get' i q2
      exact ⟨.int (i : Nat), d, by rw [List.getElem?_mapIdx, p1]; rfl, rfl, p2⟩
    · obtain ⟨x, r, rfl, ⟨a, xs, rfl, h1, h2, hl⟩, rr⟩ := r1
      cases rr
      rename_i ds
      refine ⟨a, xs, rfl, .inr ⟨ok1.fr.inn.tq h1, hQ _ s1 f1 H1 _ hx e1 ok1 (wk_pair (n := xs.length) (by rw [List.length_mapIdx]; exact h2.len) (by rw [List.length_mapIdx]; exact hl) walk_enumT (fun H2 e2 => e2.tq h1) fun i x y q1 q2 hi => ?_)⟩⟩
      cases q1
      obtain ⟨d, p1, p2⟩ := h2.get' i q2
      exact ⟨.int (i : Nat), d, by rw [List.getElem?_mapIdx, p1]; rfl, rfl, p2⟩
    · exact hx.elim⟩
theorem di_any (he : PE X e (lE X.K T W te)) : PI X tg e (lI X.K T W (iAn te)) :=
  (pi_any he).up fun σ H R ⟨g, f, s, XQ, Kd, ok, xo, h, hQ⟩ => ⟨g, f, s, XQ, _, ok, xo, h, fun d s1 v f1 H1 hx e1 ok1 r1 => by
    cases d with
    | lst ds =>
      obtain ⟨a, xs, rfl, h1, h2, hl⟩ := r1
      refine ⟨a, rfl, .inl ⟨⟨xs, sql_of (ok1.fr.inn _ _ h1)⟩, hQ ds s1 f1 H1 _ hx e1 ok1 (wk_fix h2.len hl walk_list (fun H2 e2 => sql_of (e2 _ _ h1)) fun i H2 x H3 ⟨e, hx⟩ => ⟨e, fun _ => ?_⟩)⟩⟩
      obtain ⟨d, p1, p2⟩ := h2.get' i hx
      exact ⟨d, p1, p2⟩
    | tup ds =>
      obtain ⟨a, xs, rfl, h1, h2, hl⟩ := r1
      refine ⟨a, rfl, .inr ⟨⟨xs, ok1.fr.inn.tq h1⟩, hQ ds s1 f1 H1 _ hx e1 ok1 (wk_fix h2.len hl walk_tup (fun H2 e2 => e2.tq h1) fun i H2 x H3 ⟨e, hx⟩ => ⟨e, fun _ => ?_⟩)⟩⟩
      obtain ⟨d, p1, p2⟩ := h2.get' i hx
      exact ⟨d, p1, p2⟩
    | _ => exact (show False from hx).elim⟩
end
end DL
/-! ### short tactics -/
local macro_rules | `(tactic| walk_at "z_sd") => `(tactic| first | assumption | omega | decide | rfl | (dsimp only; omega) | exact ⟨by omega, by omega⟩ | exact ⟨by omega, by omega, by omega⟩ | exact Or.inl ⟨by omega, by omega⟩ | exact Or.inr ⟨by omega, by omega⟩ | exact ⟨by omega, by decide⟩ | exact ⟨by omega, by assumption⟩)
local macro_rules | `(tactic| walk_at "z_pn") => `(tactic| first | rfl | exact Z.pen_ints _ | exact Z.pen_refs _ | assumption)
local macro_rules | `(tactic| walk_at "z_hp") => `(tactic| first
  | assumption
  | (refine Z.Ex.get (by assumption) ?_; walk_at "z_hp")
  | (refine Z.Gr.get (by assumption) ?za ?zb; (case za => walk_at "z_hp"); (case zb => walk_at "z_pn"))
  | (refine Z.But.get (by assumption) ?za ?zb; (case za => walk_at "z_hp"); (case zb => walk_at "z_ne"))
  | (refine Z.Ex.sql (by assumption) ?_; walk_at "z_hp")
  | (refine Z.Ex.sqt (by assumption) ?_; walk_at "z_hp")
  | (refine Z.Gr.sql (by assumption) ?za ?zb; (case za => walk_at "z_hp"); (case zb => walk_at "z_pn"))
  | (refine Z.Gr.sqt (by assumption) ?_; walk_at "z_hp")
  | (refine Z.But.sql (by assumption) ?za ?zb; (case za => walk_at "z_hp"); (case zb => walk_at "z_ne"))
  | (refine Z.sql_of ?_; walk_at "z_hp")
  | (refine Z.sqt_of ?_; walk_at "z_hp"))
local macro_rules | `(tactic| walk_at "z_ne") => `(tactic| first | assumption | (apply Ne.symm; assumption))
local macro_rules | `(tactic| walk_at "z_1") => `(tactic| first
  | with_reducible refine Z.s_seq ?_
  | ((with_reducible refine Z.s_var (v := ?zv) ?zh ?_); (case zh => rfl))
  | with_reducible refine Z.s_c ?_
  | with_reducible refine Z.s_op ?_
  | with_reducible refine Z.s_un ?_
  | with_reducible refine Z.s_test ?_
  | with_reducible refine Z.s_tb ?_
  | with_reducible refine Z.s_not ?_
  | with_reducible refine Z.s_and ?_
  | with_reducible refine Z.s_or ?_
  | with_reducible refine Z.s_andV ?_
  | with_reducible refine Z.s_orV ?_
  | with_reducible refine Z.s_notV ?_
  | with_reducible refine Z.s_ifE ?_
  | with_reducible refine Z.s_chain ?_
  | with_reducible refine Z.s_next ?_
  | with_reducible refine Z.s_drop ?_
  | with_reducible refine Z.s_ret ?_
  | with_reducible refine Z.s_retN ?_
  | with_reducible refine Z.s_if ?_
  | with_reducible refine Z.s_asg ?_
  | ((with_reducible refine Z.s_name ?_); dsimp only [List.set])
  | with_reducible refine Z.s_sub ?_
  | with_reducible refine Z.s_par ?_
  | with_reducible refine Z.s_par3 ?_
  | with_reducible refine Z.s_methN ?_
  | with_reducible refine Z.s_forS ?_
  | with_reducible refine Z.s_forLe ?_
  | with_reducible refine Z.s_nil ?_
  | with_reducible refine Z.s_cons ?_
  | with_reducible refine Z.s_cb ?_
  | with_reducible refine Z.s_call ?_
  | with_reducible refine Z.s_make ?_
  | with_reducible refine Z.s_meth ?_
  | with_reducible refine Z.s_sm ?_
  | with_reducible refine Z.s_prop ?_
  | with_reducible refine Z.s_lst0 ?_
  | ((with_reducible refine Z.v_fldw (w := ?zw) (v := ?zv) (by assumption) (by assumption) ?zh ?_); (case zh => walk_at "z_w"))
  | ((with_reducible refine Z.v_fldv (w := ?zw) (v := ?zv) (by assumption) (by assumption) ?zh ?_); (case zh => walk_at "z_w"))
  | with_reducible refine And.intro rfl ?_
  | ((with_reducible refine Z.use_btw ?zh ?_); (case zh => exact ⟨by omega, by omega⟩))
  | ((with_reducible refine Z.use_top ?zh ?_); (case zh => exact ⟨by omega, by omega⟩))
  | with_reducible refine Z.s_cval ?_
  | (with_reducible refine Exists.intro _ (Exists.intro _ (Exists.intro _ (Exists.intro _ (And.intro rfl (And.intro (by assumption) (And.intro (by assumption) ?_)))))))
  | with_reducible refine Z.s_sfld ?_
  | ((with_reducible refine Z.r_sum (ns := ?zx) ?zh ?_); (case zh => walk_at "z_hp"))
  | ((with_reducible refine Z.use_wo (w := ?zw) (v := ?zv) (n := ?zn) ?zh ?zo (fun x_ H_ he_ hw_ => ?_)); (case zh => walk_at "z_w"); (case zo => walk_at "z_o"))
  | ((with_reducible refine Z.use_wt (w := ?zw) (v := ?zv) ?zh ?z1 ?z2 (fun x_ H_ he_ hw_ => ?_)); (case zh => walk_at "z_w"); (case z1 => omega); (case z2 => omega))
  | ((with_reducible refine Z.use_ww (w := ?zw) (v := ?zv) ?zh (fun x_ H_ he_ hw_ => ?_)); (case zh => walk_at "z_w"))
  | ((with_reducible refine Z.use_w1 ?z1 ?z2 (fun x_ H_ he_ hw_ => ?_)); (case z1 => omega); (case z2 => omega))
  | ((with_reducible refine Z.use_wp (w := ?zw) (v := ?zv) ?zh ?_); (case zh => walk_at "z_w"))
  | ((with_reducible refine Z.use_eqw (w := ?zw) (v := ?zv) (w' := ?zw') (v' := ?zv') ?zh ?zi ?_); (case zh => walk_at "z_w"); (case zi => walk_at "z_w"))
  | ((with_reducible refine Z.use_like (w := ?zw) (v := ?zv) (n := ?zn) ?zh ?zo ?_); (case zh => walk_at "z_w"); (case zo => walk_at "z_o"))
  | ((with_reducible refine Z.v_ins (w := ?zw) (v := ?zv) ?zh ?_); (case zh => walk_at "z_w"))
  | ((with_reducible refine Z.v_insP (w := ?zw) (v := ?zv) ?zh ?_); (case zh => walk_at "z_w"))
  | with_reducible refine Z.s_bm ?_
  | with_reducible refine Z.s_bm0 ?_
  | ((with_reducible refine Z.v_tyL (xs := ?zx) ?zh ?_); (case zh => walk_at "z_hp"))
  | ((with_reducible refine Z.r_neNil (xs := ?zx) ?zh ?zi ?_); (case zh => walk_at "z_hp"); (case zi => walk_at "z_hp"))
  | ((with_reducible refine Z.r_ooW (w := ?zw) (v := ?zv) (w' := ?zw') (v' := ?zv') ?zh ?zi ?_); (case zh => walk_at "z_w"); (case zi => walk_at "z_w"))
  | ((with_reducible refine Z.r_oiW (w := ?zw) (v := ?zv) ?zh ?_); (case zh => walk_at "z_w"))
  | ((with_reducible refine Z.r_ioW (w := ?zw) (v := ?zv) ?zh ?_); (case zh => walk_at "z_w"))
  | ((with_reducible refine Z.r_o1W (w := ?zw) (v := ?zv) ?zh ?_); (case zh => walk_at "z_w"))
  | with_reducible refine Z.s_tup0 ?_
  | with_reducible refine Z.s_fld ?_
  | with_reducible refine Z.s_slc ?_
  | with_reducible refine Z.s_noPart ?_
  | with_reducible refine Z.s_part ?_
  | with_reducible refine Z.r_i0 ?_
  | ((with_reducible refine Z.r_i ?zh ?_); (case zh => walk_at "z_sd"))
  | with_reducible refine Z.r_u ?_
  | with_reducible refine Z.r_eqI ?_
  | with_reducible refine Z.r_neI ?_
  | with_reducible refine Z.r_eqB ?_
  | with_reducible refine Z.r_neB ?_
  | ((with_reducible refine Z.r_neL0 (as := ?za) ?zh ?zi ?_); (case zh => walk_at "z_hp"); (case zi => walk_at "z_hp"))
  | ((with_reducible refine Z.r_eqL0 (as := ?za) ?zh ?zi ?_); (case zh => walk_at "z_hp"); (case zi => walk_at "z_hp"))
  | ((with_reducible refine Z.r_neL (as := ?za) (bs := ?zb) ?zh ?zi ?_); (case zh => walk_at "z_hp"); (case zi => walk_at "z_hp"))
  | ((with_reducible refine Z.r_eqL (as := ?za) (bs := ?zb) ?zh ?zi ?_); (case zh => walk_at "z_hp"); (case zi => walk_at "z_hp"))
  | with_reducible refine Z.r_intI ?_
  | with_reducible refine Z.r_intB ?_
  | with_reducible refine Z.r_boolI ?_
  | with_reducible refine Z.r_boolB ?_
  | with_reducible refine Z.r_abs ?_
  | ((with_reducible refine Z.r_lenL (ys := ?zx) ?zh ?_); (case zh => walk_at "z_hp"))
  | ((with_reducible refine Z.r_lenT (ys := ?zx) ?zh ?_); (case zh => walk_at "z_hp"))
  | ((with_reducible refine Z.r_ixL (xs := ?zx) (v := ?zv) ?zh ?zi ?_); (case zh => walk_at "z_hp"); (case zi => first | rfl | walk_at "z_ix"))
  | ((with_reducible refine Z.r_ixT (xs := ?zx) (v := ?zv) ?zh ?zi ?_); (case zh => walk_at "z_hp"); (case zi => first | rfl | walk_at "z_ix"))
  | with_reducible refine Exists.intro _ (And.intro rfl ?_)
  | ((with_reducible refine Exists.intro _ (Exists.intro _ (And.intro rfl ?_))); dsimp only [List.set])
  | ((with_reducible refine Exists.intro _ (Exists.intro _ (Exists.intro _ (And.intro rfl ?_)))); dsimp only [List.set])
  | ((with_reducible refine Z.r_absO (w := ?zw) (v := ?zv) ?zh ?_); (case zh => walk_at "z_w"))
  | ((with_reducible refine Z.use_is (w := ?zw) (v := ?zv) ?zh ?_); (case zh => walk_at "z_w"))
  | ((with_reducible refine Z.f_T ?zh ?_); (case zh => (first | assumption | omega | decide | exact ⟨rfl, by assumption⟩ | exact ⟨rfl, rfl⟩)))
  | ((with_reducible refine Z.f_F ?zh ?_); (case zh => (first | assumption | omega | decide | exact ⟨rfl, by assumption⟩ | exact ⟨rfl, rfl⟩)))
  | with_reducible refine Z.f_not ?_
  | with_reducible refine L2.iteT ?_
  | with_reducible refine L2.iteF ?_
  | ((with_reducible refine Z.r_listL (ys := ?zx) ?zh (fun l_ H_ hf_ he_ ho_ => ?_)); (case zh => walk_at "z_hp"))
  | ((with_reducible refine Z.r_slL (ys := ?zx) ?zh (fun l_ H_ hf_ he_ ho_ => ?_)); (case zh => walk_at "z_hp"))
  | ((with_reducible refine Z.s_newN ?zh (fun l_ H_ hf_ he_ ho_ => ?_)); (case zh => (first | decide | simp)))
  | ((with_reducible refine Z.r_setL (xs := ?zx) (j := ?zj) ?zh ?zi (fun H_ he_ ho_ => ?_)); (case zh => walk_at "z_hp"); (case zi => first | rfl | walk_at "z_ix")))
local macro_rules | `(tactic| walk_at "z_go") => `(tactic| repeat (first | walk_at "z_1" | fail))
local macro_rules | `(tactic| walk_at "z_gs") => `(tactic| repeat ((fail_if_success (with_reducible refine Z.s_seq ?_)); walk_at "z_1"))
local macro_rules | `(tactic| walk_at "z_in") => `(tactic| dsimp only [L2.start, L2.cxOf, List.map, List.length, List.replicate, List.cons_append, List.nil_append, Nat.sub_self, Nat.reduceSub, Nat.reduceAdd])
local macro_rules | `(tactic| walk_at "z_ex") => `(tactic| first
  | assumption
  | exact Z.Ex.refl _
  | (refine Z.Ex.trans ?_ (by assumption); walk_at "z_ex"))
local macro_rules | `(tactic| walk_at "z_gr") => `(tactic| first
  | assumption
  | exact Z.Gr.refl _
  | (refine Z.Gr.trans ?_ (by first | assumption | exact Z.Ex.gr (by assumption)); walk_at "z_gr"))
local macro_rules | `(tactic| walk_at "z_pe") => `(tactic| first
  | assumption
  | (refine Z.PenAt.ex (by assumption) ?_; walk_at "z_pe"))
local macro_rules | `(tactic| walk_at "z_w") => `(tactic| first
  | assumption
  | (refine Z.IsW.ex (by assumption) ?_; walk_at "z_w")
  | (refine Z.IsW.gr (by assumption) ?_; walk_at "z_w"))
local macro_rules | `(tactic| walk_at "z_o") => `(tactic| first
  | (refine Or.inl (Exists.intro _ (And.intro rfl ?_)); walk_at "z_w")
  | (refine Z.opd_int ?_; assumption))
local macro_rules | `(tactic| walk_at "z_1") => `(tactic| first
  | with_reducible refine Z.s_callN ?_
  | with_reducible refine Z.s_callS ?_
  | with_reducible refine Z.s_err ?_
  | with_reducible refine Z.s_xv ?_
  | ((with_reducible refine Z.g_tup (xs := ?zx) ?zh ?zn ?_); (case zh => walk_at "z_hp"); (case zn => rfl))
  | with_reducible refine Z.g_cons ?_
  | with_reducible refine Z.g_nil ?_
  | ((with_reducible refine Z.s_aug (x := ?zx) ?zh ?_); (case zh => rfl))
  | ((with_reducible refine Z.r_ip ?_); dsimp only [List.set])
  | with_reducible refine Z.s_join ?_
  | with_reducible refine Z.js_nil ?_
  | with_reducible refine Z.js_cons ?_
  | with_reducible refine Z.s_fmt ?_
  | with_reducible refine Z.r_eqSS ?_
  | with_reducible refine Z.r_neSS ?_)
local macro_rules | `(tactic| walk_at "z_1") => `(tactic| with_reducible refine Z.s_xf ?_)
local macro_rules | `(tactic| walk_at "z_hp") => `(tactic| first
  | (refine Z.Tx.get (by assumption) ?za rfl; (case za => walk_at "z_hp"))
  | (refine Z.Tx.sql (by assumption) ?_; walk_at "z_hp")
  | (refine Z.Tx.sqt (by assumption) ?_; walk_at "z_hp"))
local macro_rules | `(tactic| walk_at "z_w") => `(tactic| (refine Z.IsW.tx (by assumption) ?_; walk_at "z_w"))
local macro_rules | `(tactic| walk_at "z_pe") => `(tactic| (refine Z.PenAt.tx (by assumption) ?_; walk_at "z_pe"))
local macro_rules | `(tactic| walk_at "z_tb") => `(tactic| first
  | assumption
  | (refine Z.tabs_ex ?_ (by assumption); walk_at "z_tb")
  | (refine Z.tabs_gr ?_ (by assumption); walk_at "z_tb"))
namespace L
open PySem PySem.Spec PyProof.Rows L2 Z
def top (i : Nat) : Stmt := PySem.Challenge.pw_twozeros_k80_what_rings_refuse.main.body.getD i (.Pass ⟨0, 0, 0, 0⟩)
abbrev s_is_integer : Stmt := top 5
abbrev s_is_between : Stmt := top 6
abbrev s_is_name : Stmt := top 7
abbrev s_need_distinct_names : Stmt := top 14
abbrev s_is_cover : Stmt := top 15
abbrev s_need_checks : Stmt := top 16
abbrev s_need_parts : Stmt := top 17
abbrev s_Ring_DinitD : Stmt := inClass (top 18) 0
abbrev s__law_pen : Stmt := top 20
abbrev s__law_draw : Stmt := top 21
abbrev s__law_one : Stmt := top 22
abbrev s__law_refused : Stmt := top 23
abbrev s__law_thing : Stmt := top 24
abbrev s__law_bent_contents : Stmt := top 25
abbrev s__law_bent_covers : Stmt := top 26
abbrev s__law_bent_total : Stmt := top 27
abbrev s__law_bent_folded : Stmt := top 28
abbrev s_law : Stmt := top 29
theorem sc_is_integer : FnScope ["value"] ["value"] (defScope s_is_integer) := ⟨rfl, rfl, rfl, by decide +kernel, rfl, by decide +kernel, by decide +kernel⟩
theorem sc_is_between : FnScope ["value", "low", "high"] ["value", "low", "high"] (defScope s_is_between) := ⟨rfl, rfl, rfl, by decide +kernel, rfl, by decide +kernel, by decide +kernel⟩
theorem sc_is_name : FnScope ["value", "letter"] ["value"] (defScope s_is_name) := ⟨rfl, rfl, rfl, by decide +kernel, rfl, by decide +kernel, by decide +kernel⟩
theorem sc_need_distinct_names : FnScope ["part", "values", "at", "value"] ["part", "values"] (defScope s_need_distinct_names) := ⟨rfl, rfl, rfl, by decide +kernel, rfl, by decide +kernel, by decide +kernel⟩
theorem sc_is_cover : FnScope ["value", "names", "found", "row", "name"] ["value", "names"] (defScope s_is_cover) := ⟨rfl, rfl, rfl, by decide +kernel, rfl, by decide +kernel, by decide +kernel⟩
theorem sc_need_checks : FnScope ["contents", "covers", "found", "at", "row"] ["contents", "covers"] (defScope s_need_checks) := ⟨rfl, rfl, rfl, by decide +kernel, rfl, by decide +kernel, by decide +kernel⟩
theorem sc_need_parts : FnScope ["contents", "covers", "summed", "checks", "names", "at", "row", "check"] ["contents", "covers", "summed"] (defScope s_need_parts) := ⟨rfl, rfl, rfl, by decide +kernel, rfl, by decide +kernel, by decide +kernel⟩
theorem sc_Ring_DinitD : FnScope ["self", "contents", "covers", "summed", "row"] ["self", "contents", "covers", "summed"] (defScope s_Ring_DinitD) := ⟨rfl, rfl, rfl, by decide +kernel, rfl, by decide +kernel, by decide +kernel⟩
theorem sc__law_pen : FnScope ["_law_script"] ["_law_script"] (defScope s__law_pen) := ⟨rfl, rfl, rfl, by decide +kernel, rfl, by decide +kernel, by decide +kernel⟩
theorem sc__law_draw : FnScope ["_law_pen_here", "_law_bound", "_law_digit", "_law_at", "_law_cell", "_law_great", "_law_mixed"] ["_law_pen_here", "_law_bound"] (defScope s__law_draw) := ⟨rfl, rfl, rfl, by decide +kernel, rfl, by decide +kernel, by decide +kernel⟩
theorem sc__law_one : FnScope ["_law_pen_here", "_law_some"] ["_law_pen_here", "_law_some"] (defScope s__law_one) := ⟨rfl, rfl, rfl, by decide +kernel, rfl, by decide +kernel, by decide +kernel⟩
theorem sc__law_refused : FnScope ["_law_contents", "_law_covers", "_law_folded", "error"] ["_law_contents", "_law_covers", "_law_folded"] (defScope s__law_refused) := ⟨rfl, rfl, rfl, by decide +kernel, rfl, by decide +kernel, by decide +kernel⟩
theorem sc__law_thing : FnScope ["_law_pen_here"] ["_law_pen_here"] (defScope s__law_thing) := ⟨rfl, rfl, rfl, by decide +kernel, rfl, by decide +kernel, by decide +kernel⟩
theorem sc__law_bent_contents : FnScope ["_law_pen_here", "_law_good", "_law_pick", "_law_at", "_law_odd"] ["_law_pen_here", "_law_good"] (defScope s__law_bent_contents) := ⟨rfl, rfl, rfl, by decide +kernel, rfl, by decide +kernel, by decide +kernel⟩
theorem sc__law_bent_covers : FnScope ["_law_pen_here", "_law_good", "_law_pick", "_law_at", "_law_cover", "_law_odd"] ["_law_pen_here", "_law_good"] (defScope s__law_bent_covers) := ⟨rfl, rfl, rfl, by decide +kernel, rfl, by decide +kernel, by decide +kernel⟩
theorem sc__law_bent_total : FnScope ["_law_pen_here", "_law_good", "_law_at", "_law_row", "_law_odds", "_law_odd"] ["_law_pen_here", "_law_good"] (defScope s__law_bent_total) := ⟨rfl, rfl, rfl, by decide +kernel, rfl, by decide +kernel, by decide +kernel⟩
theorem sc__law_bent_folded : FnScope ["_law_pen_here", "_law_pick"] ["_law_pen_here"] (defScope s__law_bent_folded) := ⟨rfl, rfl, rfl, by decide +kernel, rfl, by decide +kernel, by decide +kernel⟩
theorem sc_law : FnScope ["_law_script", "_law_pen_here", "_law_turn", "_law_contents", "_law_covers", "_law_folded", "_law_bent", "_law_many", "_law_row"] ["_law_script"] (defScope s_law) := ⟨rfl, rfl, rfl, by decide +kernel, rfl, by decide +kernel, by decide +kernel⟩
abbrev s_BadRing_DinitD : Stmt := inClass (top 10) 0
structure Txt (K : PySem.W.Frag) (mg : Str → Option Value) : Prop where
  F_BadRing_DinitD : fnAtE K (He.ma K (He.ga K "BadRing") "__init__") = some (("__init__" : Str), ("BadRing.__init__" : Str), defArgs s_BadRing_DinitD, FuncBody.stmts (defBody s_BadRing_DinitD), defScope s_BadRing_DinitD, mainGlobals, ([] : List (Str × Addr)), builtinsNs)
  F_is_integer : ∃ d, FunD K "is_integer" "is_integer" (defArgs s_is_integer) (defBody s_is_integer) (defScope s_is_integer) [] [] (He.ga K "is_integer") d
  F_is_between : ∃ d, FunD K "is_between" "is_between" (defArgs s_is_between) (defBody s_is_between) (defScope s_is_between) [] [] (He.ga K "is_between") d
  F_is_name : ∃ d, FunD K "is_name" "is_name" (defArgs s_is_name) (defBody s_is_name) (defScope s_is_name) [] [] (He.ga K "is_name") d
  F_need_distinct_names : ∃ d, FunD K "need_distinct_names" "need_distinct_names" (defArgs s_need_distinct_names) (defBody s_need_distinct_names) (defScope s_need_distinct_names) [] [] (He.ga K "need_distinct_names") d
  F_is_cover : ∃ d, FunD K "is_cover" "is_cover" (defArgs s_is_cover) (defBody s_is_cover) (defScope s_is_cover) [] [] (He.ga K "is_cover") d
  F_need_checks : ∃ d, FunD K "need_checks" "need_checks" (defArgs s_need_checks) (defBody s_need_checks) (defScope s_need_checks) [] [] (He.ga K "need_checks") d
  F_need_parts : ∃ d, FunD K "need_parts" "need_parts" (defArgs s_need_parts) (defBody s_need_parts) (defScope s_need_parts) [] [] (He.ga K "need_parts") d
  F_Ring_DinitD : ∃ d, FunD K "__init__" "Ring.__init__" (defArgs s_Ring_DinitD) (defBody s_Ring_DinitD) (defScope s_Ring_DinitD) [] [] (He.ma K (He.ga K "Ring") "__init__") d
  F__law_pen : ∃ d, FunD K "_law_pen" "_law_pen" (defArgs s__law_pen) (defBody s__law_pen) (defScope s__law_pen) [] [] (He.ga K "_law_pen") d
  F__law_draw : ∃ d, FunD K "_law_draw" "_law_draw" (defArgs s__law_draw) (defBody s__law_draw) (defScope s__law_draw) [] [] (He.ga K "_law_draw") d
  F__law_one : ∃ d, FunD K "_law_one" "_law_one" (defArgs s__law_one) (defBody s__law_one) (defScope s__law_one) [] [] (He.ga K "_law_one") d
  F__law_refused : ∃ d, FunD K "_law_refused" "_law_refused" (defArgs s__law_refused) (defBody s__law_refused) (defScope s__law_refused) [] [] (He.ga K "_law_refused") d
  F__law_thing : ∃ d, FunD K "_law_thing" "_law_thing" (defArgs s__law_thing) (defBody s__law_thing) (defScope s__law_thing) [] [] (He.ga K "_law_thing") d
  F__law_bent_contents : ∃ d, FunD K "_law_bent_contents" "_law_bent_contents" (defArgs s__law_bent_contents) (defBody s__law_bent_contents) (defScope s__law_bent_contents) [] [] (He.ga K "_law_bent_contents") d
  F__law_bent_covers : ∃ d, FunD K "_law_bent_covers" "_law_bent_covers" (defArgs s__law_bent_covers) (defBody s__law_bent_covers) (defScope s__law_bent_covers) [] [] (He.ga K "_law_bent_covers") d
  F__law_bent_total : ∃ d, FunD K "_law_bent_total" "_law_bent_total" (defArgs s__law_bent_total) (defBody s__law_bent_total) (defScope s__law_bent_total) [] [] (He.ga K "_law_bent_total") d
  F__law_bent_folded : ∃ d, FunD K "_law_bent_folded" "_law_bent_folded" (defArgs s__law_bent_folded) (defBody s__law_bent_folded) (defScope s__law_bent_folded) [] [] (He.ga K "_law_bent_folded") d
  F_law : ∃ d, FunD K "law" "law" (defArgs s_law) (defBody s_law) (defScope s_law) [] [] (He.ga K "law") d
  g_is_integer : mg "is_integer" = some (.ref (He.ga K "is_integer"))
  g_is_between : mg "is_between" = some (.ref (He.ga K "is_between"))
  g_is_name : mg "is_name" = some (.ref (He.ga K "is_name"))
  g_need_distinct_names : mg "need_distinct_names" = some (.ref (He.ga K "need_distinct_names"))
  g_is_cover : mg "is_cover" = some (.ref (He.ga K "is_cover"))
  g_need_checks : mg "need_checks" = some (.ref (He.ga K "need_checks"))
  g_need_parts : mg "need_parts" = some (.ref (He.ga K "need_parts"))
  g__law_pen : mg "_law_pen" = some (.ref (He.ga K "_law_pen"))
  g__law_draw : mg "_law_draw" = some (.ref (He.ga K "_law_draw"))
  g__law_one : mg "_law_one" = some (.ref (He.ga K "_law_one"))
  g__law_refused : mg "_law_refused" = some (.ref (He.ga K "_law_refused"))
  g__law_thing : mg "_law_thing" = some (.ref (He.ga K "_law_thing"))
  g__law_bent_contents : mg "_law_bent_contents" = some (.ref (He.ga K "_law_bent_contents"))
  g__law_bent_covers : mg "_law_bent_covers" = some (.ref (He.ga K "_law_bent_covers"))
  g__law_bent_total : mg "_law_bent_total" = some (.ref (He.ga K "_law_bent_total"))
  g__law_bent_folded : mg "_law_bent_folded" = some (.ref (He.ga K "_law_bent_folded"))
  g_law : mg "law" = some (.ref (He.ga K "law"))
  n_len : mg "len" = none
  n_int : mg "int" = none
  n_abs : mg "abs" = none
  n_list : mg "list" = none
  n_tuple : mg "tuple" = none
  n_range : mg "range" = none
  n_isinstance : mg "isinstance" = none
  n_bool : mg "bool" = none
  n_str : mg "str" = none
  n_all : mg "all" = none
  n_set : mg "set" = none
  n_enumerate : mg "enumerate" = none
  g_BadRing : mg "BadRing" = some (.ref (He.ga K "BadRing"))
  g_ZerosError : mg "ZerosError" = some (.ref (He.ga K "ZerosError"))
  n_super : PySem.W.nsIn K mainGlobals "super" = some none
  n_third : PySem.W.nsIn K cStatics "thirdparty.any" = some none
  o_cget : PySem.W.specialIn K (.builtin "object.__class__") "__get__" = some (some (.builtin "getset_descriptor.__get__"))
  o_ctake : PySem.W.takesIn K (.builtin "object.__class__") = some true
  eo_BadRing : oexB K (He.ga K "BadRing") = true
  es_BadRing : PySem.W.findIn K (.ref (He.ga K "BadRing")) "__setattr__" = some (some (.builtin "object.__setattr__"))
  ee_BadRing : PySem.W.subIn K (.ref (He.ga K "BadRing")) (.type "BaseException") = some true
  et_BadRing : PySem.W.typeIn K (.ref (He.ga K "BadRing")) = some (.type "type")
  ek_BadRing : PySem.W.keepIn K (.ref (He.ga K "BadRing")) = true
  ei_BadRing : PySem.W.findIn K (.ref (He.ga K "BadRing")) "__init__" = some (some (.ref (He.ma K (He.ga K "BadRing") "__init__")))
  ej_BadRing : PySem.W.typeIn K (.ref (He.ma K (He.ga K "BadRing") "__init__")) = some (.type "function")
  eb_BadRing : initB PySem.Challenge.pw_twozeros_k80_what_rings_refuse K (He.ga K "BadRing") (He.ma K (He.ga K "BadRing") "__init__") "BadRing.__init__" = true
  eu_BadRing : PySem.W.ks_superIn K (He.ga K "BadRing") (He.ga K "BadRing") "__init__" = some (some (.builtin "ValueError.__init__"))
  ev_BadRing : PySem.W.subIn K (.ref (He.ga K "BadRing")) (.type "ValueError") = some true
  em_BadRing : PySem.W.mroIn K (He.ga K "BadRing") (.ref (He.ga K "BadRing")) = some true
  ex_BadRing : xfB K (He.ga K "BadRing") = true
  ec_BadRing : (PySem.W.clsIn K (He.ga K "BadRing")).isSome = true
  ea_BadRing : PySem.W.findIn K (.ref (He.ga K "BadRing")) "__class__" = some (some (.builtin "object.__class__"))
  eq_BadRing : PySem.W.mroIn K (He.ga K "BadRing") (.type "object") = some true
  en_BadRing_part : PySem.W.findIn K (.ref (He.ga K "BadRing")) "part" = some none
  en_BadRing_at : PySem.W.findIn K (.ref (He.ga K "BadRing")) "at" = some none
  xm_BadRing_BadRing : PySem.W.exmOne K (.ref (He.ga K "BadRing")) (.ref (He.ga K "BadRing")) = some true
  xk_BadRing_BadRing : PySem.W.kitOne K (.ref (He.ga K "BadRing")) (.ref (He.ga K "BadRing")) = some true
  xm_BadRing_ZerosError : PySem.W.exmOne K (.ref (He.ga K "BadRing")) (.ref (He.ga K "ZerosError")) = some true
  xk_BadRing_ZerosError : PySem.W.kitOne K (.ref (He.ga K "BadRing")) (.ref (He.ga K "ZerosError")) = some true
  g_Ring : mg "Ring" = some (.ref (He.ga K "Ring"))
  pg_Ring : PySem.W.plainGet K (He.ga K "Ring") Str.empty = true
  hd_Ring : PySem.W.hasDictIn K (He.ga K "Ring") = true
  po_Ring : PySem.W.plainOver K (He.ga K "Ring") = true
  sa_Ring : PySem.W.findIn K (.ref (He.ga K "Ring")) "__setattr__" = some (some (.builtin "object.__setattr__"))
  ic_Ring : PySem.W.isClsIn K (He.ga K "Ring") = true
  kc_Ring : PySem.W.keepIn K (.ref (He.ga K "Ring")) = true
  mk_Ring : PySem.W.makesIn K (He.ga K "Ring") = true
  sf_Ring : PySem.W.selfFirst K (He.ga K "Ring") = true
  na_Ring_contents : NoAttr K (He.ga K "Ring") "contents"
  na_Ring_checks : NoAttr K (He.ga K "Ring") "checks"
  na_Ring_covers : NoAttr K (He.ga K "Ring") "covers"
  na_Ring_summed : NoAttr K (He.ga K "Ring") "summed"
  a_Ring_DinitD : PySem.W.findIn K (.ref (He.ga K "Ring")) "__init__" = some (some (.ref (He.ma K (He.ga K "Ring") "__init__")))
  i_Ring_DinitD : PySem.W.isFn K (.ref (He.ma K (He.ga K "Ring") "__init__")) = true
  k_Ring_DinitD : PySem.W.keepIn K (.ref (He.ma K (He.ga K "Ring") "__init__")) = true
  hn : PySem.W.specialIn K (.builtin "object.__class__") "__get__" = some (some (.builtin "getset_descriptor.__get__"))
  ht : PySem.W.takesIn K (.builtin "object.__class__") = some true
  csB : DL.csB K [(He.ga K "Ring")] = true
  cc_Ring : PySem.W.findIn K (.ref (He.ga K "Ring")) "__class__" = some (some (.builtin "object.__class__"))
  mo_Ring : PySem.W.mroIn K (He.ga K "Ring") (.type "object") = some true
  rd_Ring : PySem.W.readsIn K (He.ga K "Ring") (.type "type") = true
  ga_Ring : PySem.W.specialIn K (.ref (He.ga K "Ring")) "__getattribute__" = some (some (.builtin "type.__getattribute__"))
  c_LETTERS : ∃ t, mg "LETTERS" = some (.str "abcdefghijklmnopqrstuvwxyz" t)
  c_LONGEST_NAME : ∃ t, mg "LONGEST_NAME" = some (.int 6 t)
  c_MOST_CHECKS : ∃ t, mg "MOST_CHECKS" = some (.int 3 t)
  c_MOST_NAMES : ∃ t, mg "MOST_NAMES" = some (.int 5 t)
  g_RESERVED : mg "RESERVED" = some (.ref (He.ga K "RESERVED"))
  tc_RESERVED : DL.tupB K (He.ga K "RESERVED") [.str "full", .str "same", .str "like", .str "isempty", .str "isfull", .str "yes", .str "no"] = true
def fns : List Fn := [⟨fun K => (He.ma K (He.ga K "BadRing") "__init__"), "__init__", "BadRing.__init__", s_BadRing_DinitD, [], [], true⟩,
  ⟨fun K => (He.ga K "is_integer"), "is_integer", "is_integer", s_is_integer, [], [], false⟩,
  ⟨fun K => (He.ga K "is_between"), "is_between", "is_between", s_is_between, [], [], false⟩,
  ⟨fun K => (He.ga K "is_name"), "is_name", "is_name", s_is_name, [], [], false⟩,
  ⟨fun K => (He.ga K "need_distinct_names"), "need_distinct_names", "need_distinct_names", s_need_distinct_names, [], [], false⟩,
  ⟨fun K => (He.ga K "is_cover"), "is_cover", "is_cover", s_is_cover, [], [], false⟩,
  ⟨fun K => (He.ga K "need_checks"), "need_checks", "need_checks", s_need_checks, [], [], false⟩,
  ⟨fun K => (He.ga K "need_parts"), "need_parts", "need_parts", s_need_parts, [], [], false⟩,
  ⟨fun K => (He.ma K (He.ga K "Ring") "__init__"), "__init__", "Ring.__init__", s_Ring_DinitD, [], [], false⟩,
  ⟨fun K => (He.ga K "_law_pen"), "_law_pen", "_law_pen", s__law_pen, [], [], false⟩,
  ⟨fun K => (He.ga K "_law_draw"), "_law_draw", "_law_draw", s__law_draw, [], [], false⟩,
  ⟨fun K => (He.ga K "_law_one"), "_law_one", "_law_one", s__law_one, [], [], false⟩,
  ⟨fun K => (He.ga K "_law_refused"), "_law_refused", "_law_refused", s__law_refused, [], [], false⟩,
  ⟨fun K => (He.ga K "_law_thing"), "_law_thing", "_law_thing", s__law_thing, [], [], false⟩,
  ⟨fun K => (He.ga K "_law_bent_contents"), "_law_bent_contents", "_law_bent_contents", s__law_bent_contents, [], [], false⟩,
  ⟨fun K => (He.ga K "_law_bent_covers"), "_law_bent_covers", "_law_bent_covers", s__law_bent_covers, [], [], false⟩,
  ⟨fun K => (He.ga K "_law_bent_total"), "_law_bent_total", "_law_bent_total", s__law_bent_total, [], [], false⟩,
  ⟨fun K => (He.ga K "_law_bent_folded"), "_law_bent_folded", "_law_bent_folded", s__law_bent_folded, [], [], false⟩,
  ⟨fun K => (He.ga K "law"), "law", "law", s_law, [], [], false⟩]
def exs (K : PySem.W.Frag) : List Bool := [decide (PySem.W.nsIn K mainGlobals "is_integer" = some (some (.ref (He.ga K "is_integer")))),
  decide (PySem.W.nsIn K mainGlobals "is_between" = some (some (.ref (He.ga K "is_between")))),
  decide (PySem.W.nsIn K mainGlobals "is_name" = some (some (.ref (He.ga K "is_name")))),
  decide (PySem.W.nsIn K mainGlobals "need_distinct_names" = some (some (.ref (He.ga K "need_distinct_names")))),
  decide (PySem.W.nsIn K mainGlobals "is_cover" = some (some (.ref (He.ga K "is_cover")))),
  decide (PySem.W.nsIn K mainGlobals "need_checks" = some (some (.ref (He.ga K "need_checks")))),
  decide (PySem.W.nsIn K mainGlobals "need_parts" = some (some (.ref (He.ga K "need_parts")))),
  decide (PySem.W.nsIn K mainGlobals "_law_pen" = some (some (.ref (He.ga K "_law_pen")))),
  decide (PySem.W.nsIn K mainGlobals "_law_draw" = some (some (.ref (He.ga K "_law_draw")))),
  decide (PySem.W.nsIn K mainGlobals "_law_one" = some (some (.ref (He.ga K "_law_one")))),
  decide (PySem.W.nsIn K mainGlobals "_law_refused" = some (some (.ref (He.ga K "_law_refused")))),
  decide (PySem.W.nsIn K mainGlobals "_law_thing" = some (some (.ref (He.ga K "_law_thing")))),
  decide (PySem.W.nsIn K mainGlobals "_law_bent_contents" = some (some (.ref (He.ga K "_law_bent_contents")))),
  decide (PySem.W.nsIn K mainGlobals "_law_bent_covers" = some (some (.ref (He.ga K "_law_bent_covers")))),
  decide (PySem.W.nsIn K mainGlobals "_law_bent_total" = some (some (.ref (He.ga K "_law_bent_total")))),
  decide (PySem.W.nsIn K mainGlobals "_law_bent_folded" = some (some (.ref (He.ga K "_law_bent_folded")))),
  decide (PySem.W.nsIn K mainGlobals "law" = some (some (.ref (He.ga K "law")))),
  decide (PySem.W.nsIn K mainGlobals "len" = some none),
  decide (PySem.W.nsIn K mainGlobals "int" = some none),
  decide (PySem.W.nsIn K mainGlobals "abs" = some none),
  decide (PySem.W.nsIn K mainGlobals "list" = some none),
  decide (PySem.W.nsIn K mainGlobals "tuple" = some none),
  decide (PySem.W.nsIn K mainGlobals "range" = some none),
  decide (PySem.W.nsIn K mainGlobals "isinstance" = some none),
  decide (PySem.W.nsIn K mainGlobals "bool" = some none),
  decide (PySem.W.nsIn K mainGlobals "str" = some none),
  decide (PySem.W.nsIn K mainGlobals "all" = some none),
  decide (PySem.W.nsIn K mainGlobals "set" = some none),
  decide (PySem.W.nsIn K mainGlobals "enumerate" = some none),
  decide (PySem.W.nsIn K mainGlobals "BadRing" = some (some (.ref (He.ga K "BadRing")))),
  decide (PySem.W.nsIn K mainGlobals "ZerosError" = some (some (.ref (He.ga K "ZerosError")))),
  decide (PySem.W.nsIn K mainGlobals "super" = some none),
  decide (PySem.W.nsIn K cStatics "thirdparty.any" = some none),
  decide (PySem.W.specialIn K (.builtin "object.__class__") "__get__" = some (some (.builtin "getset_descriptor.__get__"))),
  decide (PySem.W.takesIn K (.builtin "object.__class__") = some true),
  decide (oexB K (He.ga K "BadRing") = true),
  decide (PySem.W.findIn K (.ref (He.ga K "BadRing")) "__setattr__" = some (some (.builtin "object.__setattr__"))),
  decide (PySem.W.subIn K (.ref (He.ga K "BadRing")) (.type "BaseException") = some true),
  decide (PySem.W.typeIn K (.ref (He.ga K "BadRing")) = some (.type "type")),
  decide (PySem.W.keepIn K (.ref (He.ga K "BadRing")) = true),
  decide (PySem.W.findIn K (.ref (He.ga K "BadRing")) "__init__" = some (some (.ref (He.ma K (He.ga K "BadRing") "__init__")))),
  decide (PySem.W.typeIn K (.ref (He.ma K (He.ga K "BadRing") "__init__")) = some (.type "function")),
  decide (initB PySem.Challenge.pw_twozeros_k80_what_rings_refuse K (He.ga K "BadRing") (He.ma K (He.ga K "BadRing") "__init__") "BadRing.__init__" = true),
  decide (PySem.W.ks_superIn K (He.ga K "BadRing") (He.ga K "BadRing") "__init__" = some (some (.builtin "ValueError.__init__"))),
  decide (PySem.W.subIn K (.ref (He.ga K "BadRing")) (.type "ValueError") = some true),
  decide (PySem.W.mroIn K (He.ga K "BadRing") (.ref (He.ga K "BadRing")) = some true),
  decide (xfB K (He.ga K "BadRing") = true),
  decide ((PySem.W.clsIn K (He.ga K "BadRing")).isSome = true),
  decide (PySem.W.findIn K (.ref (He.ga K "BadRing")) "__class__" = some (some (.builtin "object.__class__"))),
  decide (PySem.W.mroIn K (He.ga K "BadRing") (.type "object") = some true),
  decide (PySem.W.findIn K (.ref (He.ga K "BadRing")) "part" = some none),
  decide (PySem.W.findIn K (.ref (He.ga K "BadRing")) "at" = some none),
  decide (PySem.W.exmOne K (.ref (He.ga K "BadRing")) (.ref (He.ga K "BadRing")) = some true),
  decide (PySem.W.kitOne K (.ref (He.ga K "BadRing")) (.ref (He.ga K "BadRing")) = some true),
  decide (PySem.W.exmOne K (.ref (He.ga K "BadRing")) (.ref (He.ga K "ZerosError")) = some true),
  decide (PySem.W.kitOne K (.ref (He.ga K "BadRing")) (.ref (He.ga K "ZerosError")) = some true),
  decide (PySem.W.nsIn K mainGlobals "Ring" = some (some (.ref (He.ga K "Ring")))),
  decide (PySem.W.plainGet K (He.ga K "Ring") Str.empty = true),
  decide (PySem.W.hasDictIn K (He.ga K "Ring") = true),
  decide (PySem.W.plainOver K (He.ga K "Ring") = true),
  decide (PySem.W.findIn K (.ref (He.ga K "Ring")) "__setattr__" = some (some (.builtin "object.__setattr__"))),
  decide (PySem.W.isClsIn K (He.ga K "Ring") = true),
  decide (PySem.W.keepIn K (.ref (He.ga K "Ring")) = true),
  decide (PySem.W.makesIn K (He.ga K "Ring") = true),
  decide (PySem.W.selfFirst K (He.ga K "Ring") = true),
  decide (PySem.W.findIn K (.ref (He.ga K "Ring")) "contents" = some none),
  decide (PySem.W.findIn K (.ref (He.ga K "Ring")) "checks" = some none),
  decide (PySem.W.findIn K (.ref (He.ga K "Ring")) "covers" = some none),
  decide (PySem.W.findIn K (.ref (He.ga K "Ring")) "summed" = some none),
  decide (PySem.W.findIn K (.ref (He.ga K "Ring")) "__init__" = some (some (.ref (He.ma K (He.ga K "Ring") "__init__")))),
  decide (PySem.W.isFn K (.ref (He.ma K (He.ga K "Ring") "__init__")) = true),
  decide (PySem.W.keepIn K (.ref (He.ma K (He.ga K "Ring") "__init__")) = true),
  decide (PySem.W.specialIn K (.builtin "object.__class__") "__get__" = some (some (.builtin "getset_descriptor.__get__"))),
  decide (PySem.W.takesIn K (.builtin "object.__class__") = some true),
  decide (DL.csB K [(He.ga K "Ring")] = true),
  decide (PySem.W.findIn K (.ref (He.ga K "Ring")) "__class__" = some (some (.builtin "object.__class__"))),
  decide (PySem.W.mroIn K (He.ga K "Ring") (.type "object") = some true),
  decide (PySem.W.readsIn K (He.ga K "Ring") (.type "type") = true),
  decide (PySem.W.specialIn K (.ref (He.ga K "Ring")) "__getattribute__" = some (some (.builtin "type.__getattribute__"))),
  (He.Fa.str "LETTERS" "abcdefghijklmnopqrstuvwxyz").ok K,
  (He.Fa.int "LONGEST_NAME" 6).ok K,
  (He.Fa.int "MOST_CHECKS" 3).ok K,
  (He.Fa.int "MOST_NAMES" 5).ok K,
  (He.Fa.glo "RESERVED").ok K,
  decide (DL.tupB K (He.ga K "RESERVED") [.str "full", .str "same", .str "like", .str "isempty", .str "isfull", .str "yes", .str "no"] = true)]
theorem txt_mk {K : PySem.W.Frag} {h : Heap} {mg : Str → Option Value} (X : K.In h) (G : h.Ns mainGlobals mg) (c : Says fns exs K) : Txt K mg :=
  ⟨(c.err_ 0), (c.def_ 1), (c.def_ 2), (c.def_ 3), (c.def_ 4), (c.def_ 5), (c.def_ 6), (c.def_ 7), (c.def_ 8), (c.def_ 9), (c.def_ 10), (c.def_ 11), (c.def_ 12), (c.def_ 13), (c.def_ 14), (c.def_ 15), (c.def_ 16), (c.def_ 17), (c.def_ 18), (PySem.W.mg_of X G (c.dec 0)), (PySem.W.mg_of X G (c.dec 1)), (PySem.W.mg_of X G (c.dec 2)), (PySem.W.mg_of X G (c.dec 3)), (PySem.W.mg_of X G (c.dec 4)), (PySem.W.mg_of X G (c.dec 5)), (PySem.W.mg_of X G (c.dec 6)), (PySem.W.mg_of X G (c.dec 7)), (PySem.W.mg_of X G (c.dec 8)), (PySem.W.mg_of X G (c.dec 9)), (PySem.W.mg_of X G (c.dec 10)), (PySem.W.mg_of X G (c.dec 11)), (PySem.W.mg_of X G (c.dec 12)), (PySem.W.mg_of X G (c.dec 13)), (PySem.W.mg_of X G (c.dec 14)), (PySem.W.mg_of X G (c.dec 15)), (PySem.W.mg_of X G (c.dec 16)), (PySem.W.mg_none_of X G (c.dec 17)), (PySem.W.mg_none_of X G (c.dec 18)), (PySem.W.mg_none_of X G (c.dec 19)), (PySem.W.mg_none_of X G (c.dec 20)), (PySem.W.mg_none_of X G (c.dec 21)), (PySem.W.mg_none_of X G (c.dec 22)), (PySem.W.mg_none_of X G (c.dec 23)), (PySem.W.mg_none_of X G (c.dec 24)), (PySem.W.mg_none_of X G (c.dec 25)), (PySem.W.mg_none_of X G (c.dec 26)), (PySem.W.mg_none_of X G (c.dec 27)), (PySem.W.mg_none_of X G (c.dec 28)), (PySem.W.mg_of X G (c.dec 29)), (PySem.W.mg_of X G (c.dec 30)), (c.dec 31), (c.dec 32), (c.dec 33), (c.dec 34), (c.dec 35), (c.dec 36), (c.dec 37), (c.dec 38), (c.dec 39), (c.dec 40), (c.dec 41), (c.dec 42), (c.dec 43), (c.dec 44), (c.dec 45), (c.dec 46), (c.dec 47), (c.dec 48), (c.dec 49), (c.dec 50), (c.dec 51), (c.dec 52), (c.dec 53), (c.dec 54), (c.dec 55), (PySem.W.mg_of X G (c.dec 56)), (c.dec 57), (c.dec 58), (c.dec 59), (c.dec 60), (c.dec 61), (c.dec 62), (c.dec 63), (c.dec 64), (c.dec 65), (c.dec 66), (c.dec 67), (c.dec 68), (c.dec 69), (c.dec 70), (c.dec 71), (c.dec 72), (c.dec 73), (c.dec 74), (c.dec 75), (c.dec 76), (c.dec 77), (c.dec 78), (He.str_ok X G (c.at_ 79)), (He.int_ok X G (c.at_ 80)), (He.int_ok X G (c.at_ 81)), (He.int_ok X G (c.at_ 82)), (He.glo_ok X G (c.at_ 83)), (c.dec 84)⟩
abbrev P : Program := PySem.Challenge.pw_twozeros_k80_what_rings_refuse
abbrev fl_BadRing : List (Str × Str × Pos × Pos × Pos × Pos) := [("part", "part", ⟨23, 8, 23, 12⟩, ⟨23, 8, 23, 17⟩, ⟨23, 20, 23, 24⟩, ⟨23, 8, 23, 24⟩), ("at", "at", ⟨24, 8, 24, 12⟩, ⟨24, 8, 24, 15⟩, ⟨24, 18, 24, 20⟩, ⟨24, 8, 24, 20⟩)]
theorem errI_BadRing {K : PySem.W.Frag} {mg : Str → Option Value} (T : Txt K mg) : ErrI PySem.Challenge.pw_twozeros_k80_what_rings_refuse K (He.ga K "BadRing") (He.ma K (He.ga K "BadRing") "__init__") "__init__" "BadRing.__init__" (defArgs s_BadRing_DinitD) (.Expr (.Call (.Attribute (.Call (.Name "super" ⟨22, 8, 22, 13⟩) [] [] ⟨22, 8, 22, 15⟩) "__init__" ⟨22, 8, 22, 24⟩) [.Constant (.str "not a ring") 0 ⟨22, 25, 22, 37⟩] [] ⟨22, 8, 22, 38⟩) ⟨22, 8, 22, 38⟩ :: fl_BadRing.map (asg "self")) (defScope s_BadRing_DinitD) :=
  ⟨init_lk (T.F_BadRing_DinitD.trans rfl) T.eb_BadRing, T.n_super, by decide +kernel, T.eu_BadRing, T.ev_BadRing, T.em_BadRing, T.n_third, T.ei_BadRing, T.ej_BadRing, oexB_ok T.eo_BadRing T.es_BadRing T.ee_BadRing T.et_BadRing T.ek_BadRing⟩
theorem errS_BadRing : ErrS (defArgs s_BadRing_DinitD) (defScope s_BadRing_DinitD) "BadRing.__init__" "self" fl_BadRing ⟨22, 8, 22, 13⟩ ⟨22, 8, 22, 15⟩ ⟨22, 8, 22, 24⟩ ⟨22, 25, 22, 37⟩ ⟨22, 8, 22, 38⟩ ⟨22, 8, 22, 38⟩ "not a ring" 0 := by
  refine ⟨⟨_, rfl, rfl⟩, by decide +kernel, by decide +kernel, by decide +kernel, by decide +kernel, rfl, by decide +kernel, rfl, rfl, by decide +kernel, by decide +kernel, fun _ _ _ _ => rfl, fun _ _ _ _ => rfl, ⟨_, fun _ _ _ _ => rfl⟩, ?_, fun _ _ _ _ _ _ _ _ u us h => match us, h with | [_, _], _ => rfl⟩
  intro z hz L f cd cc
  simp only [fl_BadRing, List.mem_cons, List.not_mem_nil, or_false] at hz
  rcases hz with rfl | rfl <;> rfl
theorem errN_BadRing {K : PySem.W.Frag} {mg : Str → Option Value} (T : Txt K mg) : ∀ z ∈ fl_BadRing, PySem.W.findIn K (.ref (He.ga K "BadRing")) z.1 = some none := by
  intro z hz
  simp only [fl_BadRing, List.mem_cons, List.not_mem_nil, or_false] at hz
  rcases hz with rfl | rfl
  · exact T.en_BadRing_part
  · exact T.en_BadRing_at
theorem errQ_BadRing {K : PySem.W.Frag} {mg : Str → Option Value} (T : Txt K mg) : ErrQ K (He.ga K "BadRing") := ⟨xfB_ok T.ex_BadRing, T.ec_BadRing, T.ea_BadRing, T.o_cget, T.o_ctake, T.eq_BadRing⟩
section
variable {K : PySem.W.Frag} {mg : Str → Option Value}
abbrev csL (K : PySem.W.Frag) : List Addr := [(He.ga K "Ring")]
theorem Txt.clRing (T : Txt K mg) : Cls K (He.ga K "Ring") := ⟨T.pg_Ring, T.hd_Ring, T.po_Ring, T.sa_Ring⟩
theorem Txt.cr_Ring (T : Txt K mg) : ClX.CRead K (He.ga K "Ring") (.type "type") := ⟨T.rd_Ring, T.ga_Ring⟩
theorem Txt.mkRing (T : Txt K mg) : Mk K (He.ga K "Ring") (He.ma K (He.ga K "Ring") "__init__") := ⟨T.mk_Ring, T.a_Ring_DinitD, T.i_Ring_DinitD, T.kc_Ring⟩
theorem Txt.cs (T : Txt K mg) : DL.CsOk K (csL K) := DL.csOk_of T.csB T.hn T.ht (List.forall_mem_cons.mpr ⟨⟨T.clRing, T.cc_Ring, T.mo_Ring⟩, List.forall_mem_nil _⟩)
theorem Txt.me_Ring_DinitD (T : Txt K mg) : Meth K (He.ga K "Ring") "__init__" (He.ma K (He.ga K "Ring") "__init__") := ⟨T.a_Ring_DinitD, T.i_Ring_DinitD, T.k_Ring_DinitD⟩
end
theorem b_is_integer {K : PySem.W.Frag} {mg : Str → Option Value} (T : Txt K mg) : Binds K T.F_is_integer.choose ["value"] [] := T.F_is_integer.choose_spec.bindsN fun _ _ _ _ _ _ us hl => match us, hl with | [_], _ => rfl
theorem b_is_between {K : PySem.W.Frag} {mg : Str → Option Value} (T : Txt K mg) : Binds K T.F_is_between.choose ["value", "low", "high"] [] := T.F_is_between.choose_spec.bindsN fun _ _ _ _ _ _ us hl => match us, hl with | [_, _, _], _ => rfl
theorem b_is_name {K : PySem.W.Frag} {mg : Str → Option Value} (T : Txt K mg) : Binds K T.F_is_name.choose ["value"] [] := T.F_is_name.choose_spec.bindsN fun _ _ _ _ _ _ us hl => match us, hl with | [_], _ => rfl
theorem b_need_distinct_names {K : PySem.W.Frag} {mg : Str → Option Value} (T : Txt K mg) : Binds K T.F_need_distinct_names.choose ["part", "values"] [] := T.F_need_distinct_names.choose_spec.bindsN fun _ _ _ _ _ _ us hl => match us, hl with | [_, _], _ => rfl
theorem b_is_cover {K : PySem.W.Frag} {mg : Str → Option Value} (T : Txt K mg) : Binds K T.F_is_cover.choose ["value", "names"] [] := T.F_is_cover.choose_spec.bindsN fun _ _ _ _ _ _ us hl => match us, hl with | [_, _], _ => rfl
theorem b_need_checks {K : PySem.W.Frag} {mg : Str → Option Value} (T : Txt K mg) : Binds K T.F_need_checks.choose ["contents", "covers"] [] := T.F_need_checks.choose_spec.bindsN fun _ _ _ _ _ _ us hl => match us, hl with | [_, _], _ => rfl
theorem b_need_parts {K : PySem.W.Frag} {mg : Str → Option Value} (T : Txt K mg) : Binds K T.F_need_parts.choose ["contents", "covers", "summed"] [] := T.F_need_parts.choose_spec.bindsN fun _ _ _ _ _ _ us hl => match us, hl with | [_, _, _], _ => rfl
theorem b__law_pen {K : PySem.W.Frag} {mg : Str → Option Value} (T : Txt K mg) : Binds K T.F__law_pen.choose ["_law_script"] [] := T.F__law_pen.choose_spec.bindsN fun _ _ _ _ _ _ us hl => match us, hl with | [_], _ => rfl
theorem b__law_draw {K : PySem.W.Frag} {mg : Str → Option Value} (T : Txt K mg) : Binds K T.F__law_draw.choose ["_law_pen_here", "_law_bound"] [] := T.F__law_draw.choose_spec.bindsN fun _ _ _ _ _ _ us hl => match us, hl with | [_, _], _ => rfl
theorem b__law_one {K : PySem.W.Frag} {mg : Str → Option Value} (T : Txt K mg) : Binds K T.F__law_one.choose ["_law_pen_here", "_law_some"] [] := T.F__law_one.choose_spec.bindsN fun _ _ _ _ _ _ us hl => match us, hl with | [_, _], _ => rfl
theorem b__law_refused {K : PySem.W.Frag} {mg : Str → Option Value} (T : Txt K mg) : Binds K T.F__law_refused.choose ["_law_contents", "_law_covers", "_law_folded"] [] := T.F__law_refused.choose_spec.bindsN fun _ _ _ _ _ _ us hl => match us, hl with | [_, _, _], _ => rfl
theorem b__law_thing {K : PySem.W.Frag} {mg : Str → Option Value} (T : Txt K mg) : Binds K T.F__law_thing.choose ["_law_pen_here"] [] := T.F__law_thing.choose_spec.bindsN fun _ _ _ _ _ _ us hl => match us, hl with | [_], _ => rfl
theorem b__law_bent_contents {K : PySem.W.Frag} {mg : Str → Option Value} (T : Txt K mg) : Binds K T.F__law_bent_contents.choose ["_law_pen_here", "_law_good"] [] := T.F__law_bent_contents.choose_spec.bindsN fun _ _ _ _ _ _ us hl => match us, hl with | [_, _], _ => rfl
theorem b__law_bent_covers {K : PySem.W.Frag} {mg : Str → Option Value} (T : Txt K mg) : Binds K T.F__law_bent_covers.choose ["_law_pen_here", "_law_good"] [] := T.F__law_bent_covers.choose_spec.bindsN fun _ _ _ _ _ _ us hl => match us, hl with | [_, _], _ => rfl
theorem b__law_bent_total {K : PySem.W.Frag} {mg : Str → Option Value} (T : Txt K mg) : Binds K T.F__law_bent_total.choose ["_law_pen_here", "_law_good"] [] := T.F__law_bent_total.choose_spec.bindsN fun _ _ _ _ _ _ us hl => match us, hl with | [_, _], _ => rfl
theorem b__law_bent_folded {K : PySem.W.Frag} {mg : Str → Option Value} (T : Txt K mg) : Binds K T.F__law_bent_folded.choose ["_law_pen_here"] [] := T.F__law_bent_folded.choose_spec.bindsN fun _ _ _ _ _ _ us hl => match us, hl with | [_], _ => rfl
theorem b_law {K : PySem.W.Frag} {mg : Str → Option Value} (T : Txt K mg) : Binds K T.F_law.choose ["_law_script"] [] := T.F_law.choose_spec.bindsN fun _ _ _ _ _ _ us hl => match us, hl with | [_], _ => rfl
theorem sfe_at_at : (("at" : Str) == ("at" : Str)) = true := rfl
theorem sfe_at_checks : (("at" : Str) == ("checks" : Str)) = false := rfl
theorem sfe_at_contents : (("at" : Str) == ("contents" : Str)) = false := rfl
theorem sfe_at_covers : (("at" : Str) == ("covers" : Str)) = false := rfl
theorem sfe_at_part : (("at" : Str) == ("part" : Str)) = false := rfl
theorem sfe_at_summed : (("at" : Str) == ("summed" : Str)) = false := rfl
theorem sfe_checks_at : (("checks" : Str) == ("at" : Str)) = false := rfl
theorem sfe_checks_checks : (("checks" : Str) == ("checks" : Str)) = true := rfl
theorem sfe_checks_contents : (("checks" : Str) == ("contents" : Str)) = false := rfl
theorem sfe_checks_covers : (("checks" : Str) == ("covers" : Str)) = false := rfl
theorem sfe_checks_part : (("checks" : Str) == ("part" : Str)) = false := rfl
theorem sfe_checks_summed : (("checks" : Str) == ("summed" : Str)) = false := rfl
theorem sfe_contents_at : (("contents" : Str) == ("at" : Str)) = false := rfl
theorem sfe_contents_checks : (("contents" : Str) == ("checks" : Str)) = false := rfl
theorem sfe_contents_contents : (("contents" : Str) == ("contents" : Str)) = true := rfl
theorem sfe_contents_covers : (("contents" : Str) == ("covers" : Str)) = false := rfl
theorem sfe_contents_part : (("contents" : Str) == ("part" : Str)) = false := rfl
theorem sfe_contents_summed : (("contents" : Str) == ("summed" : Str)) = false := rfl
theorem sfe_covers_at : (("covers" : Str) == ("at" : Str)) = false := rfl
theorem sfe_covers_checks : (("covers" : Str) == ("checks" : Str)) = false := rfl
theorem sfe_covers_contents : (("covers" : Str) == ("contents" : Str)) = false := rfl
theorem sfe_covers_covers : (("covers" : Str) == ("covers" : Str)) = true := rfl
theorem sfe_covers_part : (("covers" : Str) == ("part" : Str)) = false := rfl
theorem sfe_covers_summed : (("covers" : Str) == ("summed" : Str)) = false := rfl
theorem sfe_part_at : (("part" : Str) == ("at" : Str)) = false := rfl
theorem sfe_part_checks : (("part" : Str) == ("checks" : Str)) = false := rfl
theorem sfe_part_contents : (("part" : Str) == ("contents" : Str)) = false := rfl
theorem sfe_part_covers : (("part" : Str) == ("covers" : Str)) = false := rfl
theorem sfe_part_part : (("part" : Str) == ("part" : Str)) = true := rfl
theorem sfe_part_summed : (("part" : Str) == ("summed" : Str)) = false := rfl
theorem sfe_summed_at : (("summed" : Str) == ("at" : Str)) = false := rfl
theorem sfe_summed_checks : (("summed" : Str) == ("checks" : Str)) = false := rfl
theorem sfe_summed_contents : (("summed" : Str) == ("contents" : Str)) = false := rfl
theorem sfe_summed_covers : (("summed" : Str) == ("covers" : Str)) = false := rfl
theorem sfe_summed_part : (("summed" : Str) == ("part" : Str)) = false := rfl
theorem sfe_summed_summed : (("summed" : Str) == ("summed" : Str)) = true := rfl
section
open DL
local macro_rules | `(tactic| walk_at "d_go") => `(tactic| dsimp only [oUp, oMulS, bBoolO, bStrO, dMakeV, dCM, dCMK, dSMK, dMethK, dOwnL, mApp, dParM, dParM3, mNil, mDat, mOwn, S.putM, dListN, lstOwn, dFor, iLst, iTu, iSt, iR1, iR2, iR3, iEn, iZp, iRv, dLcN, dYes, dRet, dRetN, dAnd, dOr, dNot, dNotT, dAndT, dOrT, dTru, dTst, dIf, dIfS, dCB, dCons, dNil, dVar, dC, dBin, dUn, dChain, dTup, dLst, dSeq, dNext, dDrop, dBrk, dCnt, dSet, dAsg, gNm, gNo, gCo, gTuN, dPar, dPar3, dFrz, dAug, dCall, dFldC, dMeth, dProp, dRaise, dMake, dFldS, dFldG, S.put, S.putO, S.frz, DL.S.wipe, DL.S.no, DL.S.back, DL.S.back1, OD.d, DL.E0, DL.EI, endI, bIsi, tru, dBinX, dUnX, dAugX, dHeard, dCallK, dCallN, dMakeN, dHearG, dSlc, oSo, oNo, dLstN, pick, List.filterMap_cons, List.filterMap_nil, phiS, dM0, dM1, gSubO, dAddN, dSetN, dFz, dJoin, dJs, dFmt, DL.S0, DL.SI, oAdd, oSub, oMul, oDiv, oMod, oPow, oShl, oShr, oAnd, oOr, oXor, oLt, oLe, oGt, oGe, oIs, oIsN, oIn, oEq, oNe, uNeg, uInv, oIx, oIAdd, bLen, bInt, bAbs, bBool, bStr, bSum, bAll, bAny, bTup, bList, vOf, vOfs, D.isN, noField, List.getElem?_cons_zero, List.getElem?_cons_succ, List.set_cons_zero, List.set_cons_succ, List.lookup_cons, putD, List.zip_cons_cons, List.zip_nil_left, List.reverse_cons, List.reverse_nil, List.nil_append, List.cons_append])
local macro_rules | `(tactic| walk_at "dq") => `(tactic| first | rfl | trivial | assumption | exact decide_eq_true rfl | omega | exact Nat.le_of_ble_eq_true rfl | exact DL.sz3 (by decide) | exact DL.sz3 (by omega) | exact DL.sz4 (by omega) | (simp only [List.length_map, List.length_append, List.length_cons, List.length_nil]; first | exact DL.sz3 (by omega) | exact DL.sz4 (by omega)) | decide)
local macro_rules | `(tactic| walk_at "d1") => `(tactic| first
  | with_reducible refine DL.nxI ?_
  | walk_at "d_go"
  | walk_at "d_fl"
  | with_reducible refine iteT ?_
  | with_reducible refine iteF ?_
  | with_reducible refine iteC ?_
  | with_reducible refine iteC2 ?_
  | with_reducible refine iteC3 ?_
  | with_reducible refine iteT2 ?_
  | with_reducible refine iteF2 ?_
  | ((with_reducible refine iteDT ?a ?_); case a => first | assumption | with_reducible rfl | omega)
  | ((with_reducible refine iteDF ?a ?_); case a => first | assumption | omega)
  | ((with_reducible refine iteNT ?a ?_); case a => first | assumption | omega)
  | ((with_reducible refine iteNF ?a ?_); case a => first | assumption | with_reducible rfl | omega)
  | ((with_reducible refine And.intro ?a ?_); case a => walk_at "dq")
  | walk_at "du")
local macro_rules | `(tactic| walk_at "dr") => `(tactic| (repeat walk_at "d1"))
local macro_rules | `(tactic| walk_at "d_fl") => `(tactic| dsimp only [List.lookup_cons, List.length_cons, List.length_nil, isO, at_10, at_20, at_21, at_30, at_31, at_32, at_40, at_41, at_42, at_43, at_50, at_51, at_52, at_53, at_54, sfe_at_at, sfe_at_checks, sfe_at_contents, sfe_at_covers, sfe_at_part, sfe_at_summed, sfe_checks_at, sfe_checks_checks, sfe_checks_contents, sfe_checks_covers, sfe_checks_part, sfe_checks_summed, sfe_contents_at, sfe_contents_checks, sfe_contents_contents, sfe_contents_covers, sfe_contents_part, sfe_contents_summed, sfe_covers_at, sfe_covers_checks, sfe_covers_contents, sfe_covers_covers, sfe_covers_part, sfe_covers_summed, sfe_part_at, sfe_part_checks, sfe_part_contents, sfe_part_covers, sfe_part_part, sfe_part_summed, sfe_summed_at, sfe_summed_checks, sfe_summed_contents, sfe_summed_covers, sfe_summed_part, sfe_summed_summed])
variable {w : World} {K : PySem.W.Frag} {mg : Str → Option Value} {base : Heap}
theorem ok__law_pen (T : Txt K mg) : FnOk P w K mg base (L2.CX P w) 1 (He.ga K "_law_pen") T.F__law_pen.choose ["_law_script"] (spPen K) := by
  refine T.F__law_pen.choose_spec.ok sc__law_pen (fun vs H Q E h => ?_) (fun cdv A outer s H vs Q E hr h => ?_)
  · obtain ⟨a, ns, rfl, hS, k⟩ := h
    rfl
  · obtain ⟨a, ns, rfl, hS, k⟩ := h
    refine ⟨_, (pss_one (ps_ret (pe_lst (pa_cons (pe_callTy zc_list (by rfl) T.n_list (by decide +kernel) (pa_cons (pe_slice sl_list (pv 0) po_none (po_some pe_int)) pa_nil)) (pa_cons pe_int (pa_cons pe_int pa_nil)))))), ?_⟩
    walk_at "z_in"
    walk_at "z_go"
    rename_i l1 H1 _ _ _ l2 H2 _ _ h2 l3 H3 _ _ h3
    have e : cutV (ns.map V.int) none (some 64) = (ns.take 64).map V.int := cut_upto (m := 64)
    rw [e] at h2
    exact k _ _ (by walk_at "z_ex") ⟨_, _, _, _, h3, by walk_at "z_hp", by omega, by omega, by simp; omega⟩

theorem ok__law_draw (T : Txt K mg) : FnOk P w K mg base (L2.CX P w) 1 (He.ga K "_law_draw") T.F__law_draw.choose ["_law_pen_here", "_law_bound"] (spDraw K) := by
  refine T.F__law_draw.choose_spec.ok sc__law_draw (fun vs H Q E h => ?_) (fun cdv A outer s H vs Q E hr h => ?_)
  · obtain ⟨p, m, n, rfl, ⟨l, cs, i, j, hp, hl, hi, hn, hc⟩, hm, hm2, k⟩ := h
    rfl
  · obtain ⟨p, m, n, rfl, ⟨l, cs, i, j, hp, hl, hi, hn, hc⟩, hm, hm2, k⟩ := h
    refine ⟨_, (pss_cons (ps_if (pt_cmpR op_gt (pe_ix ix_list (pv 0) pe_int (fun _ _ => rfl)) pe_int (nomark _)) (pss_cons (ps_set (i := 2) sc__law_draw.nd rfl (Or.inl rfl) (pe_op op_mod (pe_callTy zc_int (by rfl) T.n_int (by decide +kernel) (pa_cons (pe_ix ix_list (pv 0) pe_int (fun _ _ => rfl)) pa_nil)) (pv 1)))
    (pss_cons (ps_asg (pe_op op_fdivW (pe_ix ix_list (pv 0) pe_int (fun _ _ => rfl)) (pv 1)) (pg_sub (pv 0) pe_int set_list))
    (pss_one (ps_ret (pv 2))))) pss_nil)
    (pss_cons (ps_set (i := 3) sc__law_draw.nd rfl (Or.inl rfl) (pe_ix ix_list (pv 0) pe_int (fun _ _ => rfl)))
    (pss_cons (ps_asg (pe_op op_add (pv 3) pe_int) (pg_sub (pv 0) pe_int set_list))
    (pss_cons (ps_set (i := 4) sc__law_draw.nd rfl (Or.inl rfl) (pe_op op_add (pe_op op_mul pe_int (pv 3)) pe_int))
    (pss_cons (ps_if (pt_cmpR (op_neD hr.units) (pe_ix ix_list (pv 0) pe_int (fun _ _ => rfl)) (pe_lst pa_nil) (nomark _)) (pss_one (ps_set (i := 4) sc__law_draw.nd rfl (Or.inl rfl) (pe_ix ix_list (pe_ix ix_list (pv 0) pe_int (fun _ _ => rfl)) (pe_op op_mod (pe_callTy zc_int (by rfl) T.n_int (by decide +kernel) (pa_cons (pv 3) pa_nil)) (pe_callB zc_len (by rfl) T.n_len PySem.boot_len (pa_cons (pe_ix ix_list (pv 0) pe_int (fun _ _ => rfl)) pa_nil))) (fun _ _ => rfl)))) pss_nil)
    (pss_cons (ps_if (PW.pt (pw_and (pt_cmpR op_lt (pv 3) (pe_callB zc_len (by rfl) T.n_len PySem.boot_len (pa_cons (pe_ix ix_list (pv 0) pe_int (fun _ _ => rfl)) pa_nil)) (nomark _)) (pw_and1 (pt_cmpR op_ge (pe_callB zc_abs (by rfl) T.n_abs (by decide +kernel) (pa_cons (pv 4) pa_nil)) (pe_op op_pow pe_int pe_int) (nomark _))))) (pss_cons (ps_set (i := 5) sc__law_draw.nd rfl (Or.inl rfl) (pe_op op_add (pe_op op_mul pe_int (pe_callB zc_abs (by rfl) T.n_abs (by decide +kernel) (pa_cons (pv 4) pa_nil))) (pe_callTy zc_int (by rfl) T.n_int (by decide +kernel) (pa_cons (pe_cmpR op_lt (pv 4) pe_int (nomark _)) pa_nil))))
    (pss_cons (ps_asg (pe_op op_fdivW (pv 5) (pv 1)) (pg_sub (pv 0) pe_int set_list))
    (pss_one (ps_ret (pe_op op_mod (pe_callTy zc_int (by rfl) T.n_int (by decide +kernel) (pa_cons (pv 5) pa_nil)) (pv 1)))))) pss_nil)
    (pss_cons (ps_set (i := 6) sc__law_draw.nd rfl (Or.inl rfl) (pe_op op_mod (pe_callTy zc_int (by rfl) T.n_int (by decide +kernel) (pa_cons (pe_op op_pow (pe_op op_add (pe_op op_add (pe_op op_mod (pe_callTy zc_int (by rfl) T.n_int (by decide +kernel) (pa_cons (pv 4) pa_nil)) pe_int) (pe_op op_mul pe_int (pv 3))) pe_int) pe_int) pa_nil)) pe_int))
    (pss_cons (ps_set (i := 6) sc__law_draw.nd rfl (Or.inl rfl) (pe_op op_mod (pe_callTy zc_int (by rfl) T.n_int (by decide +kernel) (pa_cons (pe_op op_pow (pe_op op_add (pe_op op_add (pe_op op_mul (pv 6) (pe_op op_add (pe_op op_mul pe_int (pv 3)) pe_int)) (pe_op op_mul (pe_op op_mul pe_int (pv 3)) (pv 3))) pe_int) pe_int) pa_nil)) pe_int))
    (pss_one (ps_ret (pe_op op_mod (pe_callTy zc_int (by rfl) T.n_int (by decide +kernel) (pa_cons (pe_op op_fdivW (pv 6) pe_int) pa_nil)) (pv 1)))))))))))), ?_⟩
    walk_at "z_in"
    walk_at "z_go"
    refine f_2 (fun h => ?_) (fun h => ?_)
    · walk_at "z_go"
      rename_i H1 e1 h1
      obtain ⟨g, q⟩ := PenAt.set (n' := n) hp hl hc e1 h1 hi (by omega)
      exact k _ _ g q (Int.emod_nonneg _ (by omega)) (Int.emod_lt_of_pos _ hm) e1
    · refine s_seq ?_
      walk_at "z_go"
      rename_i H1 e1 h1 l2 H2 f2 e2 h2
      obtain ⟨g, q⟩ := PenAt.set (n' := n) hp hl hc e1 h1 (by omega) (by omega)
      walk_at "z_go"
      have hii1 : 0 ≤ i * i := Int.mul_nonneg hi hi
      have hii2 : i * i ≤ 1000000 * 1000000 := Int.mul_le_mul (by omega) (by omega) hi (by omega)
      refine f_2 (fun hcs => ?_) (fun hcs => ?_)
      · walk_at "z_go"
        generalize 6173 * i + 409 = c
        refine f_2 (fun hlt => ?_) (fun hlt => ?_)
        · walk_at "z_go"
          refine f_2 (fun hg => ?_) (fun hg => ?_)
          · walk_at "z_go"
            rename_i H3 e3 h3
            obtain ⟨g3, q3⟩ := PenAt.set (n' := n) (e2.get h1) (e2.get (g.get hl (pen_ints _))) hc e3 h3 (by omega) (by omega)
            exact k _ _ (Gr.trans (Gr.trans g e2.gr) g3) q3 (Int.emod_nonneg _ (by omega)) (Int.emod_lt_of_pos _ hm) (fun a o n h => e3 a o n (e2 a o (e1 a o n h)))
          · walk_at "z_go"
            generalize (c % 2147483477 + 48271 * i + 131) ^ Int.toNat 5 = x1
            have hx1 : 0 ≤ x1 % 2147483477 := Int.emod_nonneg _ (by decide)
            have hx2 : x1 % 2147483477 < 2147483477 := Int.emod_lt_of_pos _ (by decide)
            generalize x1 % 2147483477 = mx at hx1 hx2
            have h1 : 0 ≤ mx * (2 * i + 83) := Int.mul_nonneg hx1 (by omega)
            have h2 : mx * (2 * i + 83) ≤ 2147483477 * 2001000 := Int.mul_le_mul (by omega) (by omega) (by omega) (by omega)
            have h3 : 69621 * i * i = 69621 * (i * i) := Int.mul_assoc _ _ _
            walk_at "z_go"
            exact k _ _ (Gr.trans g e2.gr) (q.ex e2) (Int.emod_nonneg _ (by omega)) (Int.emod_lt_of_pos _ hm) (fun a o n h => e2 a o (e1 a o n h))
        · walk_at "z_go"
          generalize (c % 2147483477 + 48271 * i + 131) ^ Int.toNat 5 = x1
          have hx1 : 0 ≤ x1 % 2147483477 := Int.emod_nonneg _ (by decide)
          have hx2 : x1 % 2147483477 < 2147483477 := Int.emod_lt_of_pos _ (by decide)
          generalize x1 % 2147483477 = mx at hx1 hx2
          have h1 : 0 ≤ mx * (2 * i + 83) := Int.mul_nonneg hx1 (by omega)
          have h2 : mx * (2 * i + 83) ≤ 2147483477 * 2001000 := Int.mul_le_mul (by omega) (by omega) (by omega) (by omega)
          have h3 : 69621 * i * i = 69621 * (i * i) := Int.mul_assoc _ _ _
          walk_at "z_go"
          exact k _ _ (Gr.trans g e2.gr) (q.ex e2) (Int.emod_nonneg _ (by omega)) (Int.emod_lt_of_pos _ hm) (fun a o n h => e2 a o (e1 a o n h))
      · have hlen : 0 < (cs.map V.int).length := by
          cases cs with
          | nil => exact absurd rfl hcs
          | cons _ _ => simp
        walk_at "z_go"
        refine r_ixL (by walk_at "z_hp") (atI_ints (Int.emod_nonneg _ (by omega)) (Int.lt_of_lt_of_le (Int.emod_lt_of_pos _ (by omega)) (by simp))) ?_
        generalize cs[(i % ((cs.map V.int).length : Int)).toNat]'_ = c
        walk_at "z_go"
        refine f_2 (fun hlt => ?_) (fun hlt => ?_)
        · walk_at "z_go"
          refine f_2 (fun hg => ?_) (fun hg => ?_)
          · walk_at "z_go"
            rename_i H3 e3 h3
            obtain ⟨g3, q3⟩ := PenAt.set (n' := n) (e2.get h1) (e2.get (g.get hl (pen_ints _))) hc e3 h3 (by omega) (by omega)
            exact k _ _ (Gr.trans (Gr.trans g e2.gr) g3) q3 (Int.emod_nonneg _ (by omega)) (Int.emod_lt_of_pos _ hm) (fun a o n h => e3 a o n (e2 a o (e1 a o n h)))
          · walk_at "z_go"
            generalize (c % 2147483477 + 48271 * i + 131) ^ Int.toNat 5 = x1
            have hx1 : 0 ≤ x1 % 2147483477 := Int.emod_nonneg _ (by decide)
            have hx2 : x1 % 2147483477 < 2147483477 := Int.emod_lt_of_pos _ (by decide)
            generalize x1 % 2147483477 = mx at hx1 hx2
            have h1 : 0 ≤ mx * (2 * i + 83) := Int.mul_nonneg hx1 (by omega)
            have h2 : mx * (2 * i + 83) ≤ 2147483477 * 2001000 := Int.mul_le_mul (by omega) (by omega) (by omega) (by omega)
            have h3 : 69621 * i * i = 69621 * (i * i) := Int.mul_assoc _ _ _
            walk_at "z_go"
            exact k _ _ (Gr.trans g e2.gr) (q.ex e2) (Int.emod_nonneg _ (by omega)) (Int.emod_lt_of_pos _ hm) (fun a o n h => e2 a o (e1 a o n h))
        · walk_at "z_go"
          generalize (c % 2147483477 + 48271 * i + 131) ^ Int.toNat 5 = x1
          have hx1 : 0 ≤ x1 % 2147483477 := Int.emod_nonneg _ (by decide)
          have hx2 : x1 % 2147483477 < 2147483477 := Int.emod_lt_of_pos _ (by decide)
          generalize x1 % 2147483477 = mx at hx1 hx2
          have h1 : 0 ≤ mx * (2 * i + 83) := Int.mul_nonneg hx1 (by omega)
          have h2 : mx * (2 * i + 83) ≤ 2147483477 * 2001000 := Int.mul_le_mul (by omega) (by omega) (by omega) (by omega)
          have h3 : 69621 * i * i = 69621 * (i * i) := Int.mul_assoc _ _ _
          walk_at "z_go"
          exact k _ _ (Gr.trans g e2.gr) (q.ex e2) (Int.emod_nonneg _ (by omega)) (Int.emod_lt_of_pos _ hm) (fun a o n h => e2 a o (e1 a o n h))

def den_is_integer (K : PySem.W.Frag) : DS := (dRet (dAnd (dCB (bIsi (csL K)) (dCons (dVar 0) (dCons (dC (.ty "int")) dNil))) (dNot (dCB (bIsi (csL K)) (dCons (dVar 0) (dCons (dC (.ty "bool")) dNil))))))
def phi_is_integer (K : PySem.W.Frag) : FD := fun ds p n k x => ds.length = 1 ∧ den_is_integer K (S0 ["value"] ds p n) (DL.E0 k x)
theorem ev_is_integer {K : PySem.W.Frag} {p : Addr} {n : Nat} {k : D → Nat → Prop} {x : Value → List (Str × D) → Nat → Prop} {x0 : D} (h : den_is_integer K (DL.S.mk [some (.val x0)] p n) (DL.E0 k x)) : phi_is_integer K [x0] p n k x := ⟨rfl, h⟩
theorem ok_is_integer (T : Txt K mg) {TL : List (Addr × Str)} : FnOk P w K mg base (L2.CX P w) 3 (He.ga K "is_integer") T.F_is_integer.choose ["value"] (DL.spD K TL (phi_is_integer K)) := by
  exact DL.okD T.F_is_integer.choose_spec sc_is_integer (fun ds p n kd xd h => h.1) ⟨den_is_integer K, fun cdv A outer s H E hr => (ds_one (ds_ret (d_and (d_callB (c_isi (T.cs)) (by rfl) T.n_isinstance (by decide +kernel) (d_cons (d_v (pv 0)) (d_cons (d_c (d := .ty "int") (pe_bltn (v := .ty "int") (by rfl) T.n_int (by decide +kernel) rfl) (fun _ => rfl)) d_nil))) (d_one (d_not (d_callB (c_isi (T.cs)) (by rfl) T.n_isinstance (by decide +kernel) (d_cons (d_v (pv 0)) (d_cons (d_c (d := .ty "bool") (pe_bltn (v := .ty "bool") (by rfl) T.n_bool (by decide +kernel) rfl) (fun _ => rfl)) d_nil)))))))), fun ds p n kd xd h => h.2⟩

def den_is_between (K : PySem.W.Frag) : DS := (dRet (dAnd (dCall (phi_is_integer K) (dCons (dVar 0) dNil)) (dChain oLe oLe (dVar 1) (dVar 0) (dVar 2))))
def phi_is_between (K : PySem.W.Frag) : FD := fun ds p n k x => ds.length = 3 ∧ den_is_between K (S0 ["value", "low", "high"] ds p n) (DL.E0 k x)
theorem ev_is_between {K : PySem.W.Frag} {p : Addr} {n : Nat} {k : D → Nat → Prop} {x : Value → List (Str × D) → Nat → Prop} {x0 x1 x2 : D} (h : den_is_between K (DL.S.mk [some (.val x0), some (.val x1), some (.val x2)] p n) (DL.E0 k x)) : phi_is_between K [x0, x1, x2] p n k x := ⟨rfl, h⟩
theorem ok_is_between (T : Txt K mg) {TL : List (Addr × Str)} : FnOk P w K mg base (L2.CX P w) 5 (He.ga K "is_between") T.F_is_between.choose ["value", "low", "high"] (DL.spD K TL (phi_is_between K)) := by
  exact DL.okD T.F_is_between.choose_spec sc_is_between (fun ds p n kd xd h => h.1) ⟨den_is_between K, fun cdv A outer s H E hr => (ds_one (ds_ret (d_and (d_call (ok_is_integer T) (hr.mono (by decide)) pT (by rfl) T.g_is_integer T.F_is_integer.choose_spec.kp (b_is_integer T) (d_cons (d_v (pv 0)) d_nil)) (d_one (d_chain p_le p_le (d_v (pv 1)) (d_v (pv 0)) (d_v (pv 2))))))), fun ds p n kd xd h => h.2⟩

def den_is_name (K : PySem.W.Frag) : DS := (dSeq (dIfS (dOrT (dNotT (dTru (dCB (bIsi (csL K)) (dCons (dVar 0) (dCons (dC (.ty "str")) dNil))))) (dOrT (dNotT (dTst (dChain oLe oLe (dC (.int 1)) (dCB bLen (dCons (dVar 0) dNil)) (dC (.int 6))))) (dTst (dBin (oIn false) (dVar 0) (dC (.tup [.str "full", .str "same", .str "like", .str "isempty", .str "isfull", .str "yes", .str "no"])))))) (dRet (dC (.bl false))) dNext)
    (dRet (dCB bAll (dCons (dFz (dLcN (iSt (dVar 0)) (gNm 1) dYes (dBin (oIn false) (dVar 1) (dC (.str "abcdefghijklmnopqrstuvwxyz"))) [1])) dNil))))
def phi_is_name (K : PySem.W.Frag) : FD := fun ds p n k x => ds.length = 1 ∧ den_is_name K (S0 ["value", "letter"] ds p n) (DL.E0 k x)
theorem ev_is_name {K : PySem.W.Frag} {p : Addr} {n : Nat} {k : D → Nat → Prop} {x : Value → List (Str × D) → Nat → Prop} {x0 : D} (h : den_is_name K (DL.S.mk [some (.val x0), none] p n) (DL.E0 k x)) : phi_is_name K [x0] p n k x := ⟨rfl, h⟩
theorem ok_is_name (T : Txt K mg) {TL : List (Addr × Str)} : FnOk P w K mg base (L2.CX P w) 3 (He.ga K "is_name") T.F_is_name.choose ["value"] (DL.spD K TL (phi_is_name K)) := by
  exact DL.okD T.F_is_name.choose_spec sc_is_name (fun ds p n kd xd h => h.1) ⟨den_is_name K, fun cdv A outer s H E hr => (ds_cons (ds_if (PW.pt (d_orT (d_notT (d_tru (d_callB (c_isi (T.cs)) (by rfl) T.n_isinstance (by decide +kernel) (d_cons (d_v (pv 0)) (d_cons (d_c (d := .ty "str") (pe_bltn (v := .ty "str") (by rfl) T.n_str (by decide +kernel) rfl) (fun _ => rfl)) d_nil))))) (d_orT (d_notT (d_tchain p_le p_le d_int (d_callB c_len (by rfl) T.n_len PySem.boot_len (d_cons (d_v (pv 0)) d_nil)) (d_c (d := .int 6) (pe_glob (v := .int 6) rfl T.c_LONGEST_NAME.choose_spec ⟨_, rfl⟩) (fun _ => rfl)))) (d_orT1 (d_tcmp p_in (d_v (pv 0)) (d_c (d := .tup [.str "full", .str "same", .str "like", .str "isempty", .str "isfull", .str "yes", .str "no"]) (pe_glob (v := .ref (He.ga K "RESERVED")) rfl T.g_RESERVED rfl) (fun f => DL.tup_rep T.tc_RESERVED f)) (by rfl)))))) (ds_one (ds_ret d_bl)) ds_nil)
    (ds_one (ds_ret (d_callB (c_all rfl) (by rfl) T.n_all (by decide +kernel) (d_cons (d_fz (d_lcN (own := [("letter", 1)]) rfl sc_is_name.nd (di_str (d_v (pv 0))) (blkOk_by (own := [("letter", 1)]) (N := ["value", "letter"]) (sc := defScope s_is_name) (by decide +kernel)) (fun _ _ _ _ _ => (dg_name (i := 1) sc_is_name.nd rfl (Or.inl rfl))) (fun _ _ _ _ _ => dts_nil) (fun _ _ _ _ _ => (d_cmp p_in (d_v (pv 1)) (d_c (d := .str "abcdefghijklmnopqrstuvwxyz") (pe_glob (v := .str "abcdefghijklmnopqrstuvwxyz") rfl T.c_LETTERS.choose_spec ⟨_, rfl⟩) (fun _ => ⟨rfl, by decide⟩)) (by rfl))))) d_nil))))), fun ds p n kd xd h => h.2⟩

def den_need_distinct_names (K : PySem.W.Frag) : DS := (dFor (iEnA (dCons (dVar 1) dNil)) (gTuN 2 (gCo (gNm 2) (gCo (gNm 3) gNo))) (dIfS (dOrT (dNotT (dTru (dCall (phi_is_name K) (dCons (dVar 3) dNil)))) (dTst (dBin (oIn false) (dVar 3) (dSlc (dVar 1) oNo (oSo (dVar 2)))))) (dRaise (He.ga K "BadRing") ["part", "at"] (dCons (dVar 0) (dCons (dVar 2) dNil))) dNext))
def phi_need_distinct_names (K : PySem.W.Frag) : FD := fun ds p n k x => ds.length = 2 ∧ den_need_distinct_names K (S0 ["part", "values", "at", "value"] ds p n) (DL.E0 k x)
theorem ev_need_distinct_names {K : PySem.W.Frag} {p : Addr} {n : Nat} {k : D → Nat → Prop} {x : Value → List (Str × D) → Nat → Prop} {x0 x1 : D} (h : den_need_distinct_names K (DL.S.mk [some (.val x0), some (.val x1), none, none] p n) (DL.E0 k x)) : phi_need_distinct_names K [x0, x1] p n k x := ⟨rfl, h⟩
theorem ok_need_distinct_names (T : Txt K mg) {TL : List (Addr × Str)} : FnOk P w K mg base (L2.CX P w) 5 (He.ga K "need_distinct_names") T.F_need_distinct_names.choose ["part", "values"] (DL.spD K TL (phi_need_distinct_names K)) := by
  exact DL.okD T.F_need_distinct_names.choose_spec sc_need_distinct_names (fun ds p n kd xd h => h.1) ⟨den_need_distinct_names K, fun cdv A outer s H E hr => (ds_one (ds_for pO rfl (di_enumA (by rfl) T.n_enumerate (d_cons (d_v (pv 1)) d_nil)) (dg_tup (by rfl) (dgs_cons (dg_name (i := 2) sc_need_distinct_names.nd rfl (Or.inl rfl)) (dgs_cons (dg_name (i := 3) sc_need_distinct_names.nd rfl (Or.inl rfl)) dgs_nil)))
    (ds_one (ds_if (PW.pt (d_orT (d_notT (d_tru (d_call (ok_is_name T) (hr.mono (by decide)) pT (by rfl) T.g_is_name T.F_is_name.choose_spec.kp (b_is_name T) (d_cons (d_v (pv 3)) d_nil)))) (d_orT1 (d_tcmp p_in (d_v (pv 3)) (d_slc (d_v (pv 1)) do_none (do_some (d_v (pv 2)))) (by rfl))))) (ds_one (ds_raise rfl pT (pmk_err (errI_BadRing T) errS_BadRing (errN_BadRing T) (by decide) (by decide) (hr.mono (by decide)) rfl T.g_BadRing (d_cons (d_v (pv 0)) (d_cons (d_v (pv 2)) d_nil))))) ds_nil)))), fun ds p n kd xd h => h.2⟩

def den_is_cover (K : PySem.W.Frag) : DS := (dSeq (dIfS (dOrT (dNotT (dTru (dCB (bIsi (csL K)) (dCons (dVar 0) (dCons (dC (.ty "tuple")) dNil))))) (dTst (dBin oEqN (dVar 0) (dTup dNil)))) (dRet (dC (.bl false))) dNext)
    (dSeq (dIfS (dNotT (dTru (dCB bAll (dCons (dFz (dLcN (iAn (dVar 0)) (gNm 3) dYes (dAnd (dCB (bIsi (csL K)) (dCons (dVar 3) (dCons (dC (.ty "tuple")) dNil))) (dAnd (dBin oEq (dCB bLen (dCons (dVar 3) dNil)) (dC (.int 2))) (dCall (phi_is_between K) (dCons (dBin oIx (dVar 3) (dC (.int 1))) (dCons (dC (.int 1)) (dCons (dC (.int 9)) dNil)))))) [3])) dNil)))) (dRet (dC (.bl false))) dNext)
    (dSeq (dSet 2 (dFz (dLcN (iAn (dVar 0)) (gNm 3) dYes (dBin oIx (dVar 3) (dC (.int 0))) [3])))
    (dSeq (dIfS (dNotT (dTru (dCB bAll (dCons (dFz (dLcN (iAn (dVar 2)) (gNm 4) dYes (dAnd (dCB (bIsi (csL K)) (dCons (dVar 4) (dCons (dC (.ty "str")) dNil))) (dBin (oIn false) (dVar 4) (dVar 1))) [4])) dNil)))) (dRet (dC (.bl false))) dNext)
    (dRet (dBin oEq (dLenSet (dVar 2)) (dCB bLen (dCons (dVar 2) dNil))))))))
def phi_is_cover (K : PySem.W.Frag) : FD := fun ds p n k x => ds.length = 2 ∧ den_is_cover K (S0 ["value", "names", "found", "row", "name"] ds p n) (DL.E0 k x)
theorem ev_is_cover {K : PySem.W.Frag} {p : Addr} {n : Nat} {k : D → Nat → Prop} {x : Value → List (Str × D) → Nat → Prop} {x0 x1 : D} (h : den_is_cover K (DL.S.mk [some (.val x0), some (.val x1), none, none, none] p n) (DL.E0 k x)) : phi_is_cover K [x0, x1] p n k x := ⟨rfl, h⟩
theorem ok_is_cover (T : Txt K mg) {TL : List (Addr × Str)} : FnOk P w K mg base (L2.CX P w) 7 (He.ga K "is_cover") T.F_is_cover.choose ["value", "names"] (DL.spD K TL (phi_is_cover K)) := by
  exact DL.okD T.F_is_cover.choose_spec sc_is_cover (fun ds p n kd xd h => h.1) ⟨den_is_cover K, fun cdv A outer s H E hr => (ds_cons (ds_if (PW.pt (d_orT (d_notT (d_tru (d_callB (c_isi (T.cs)) (by rfl) T.n_isinstance (by decide +kernel) (d_cons (d_v (pv 0)) (d_cons (d_c (d := .ty "tuple") (pe_bltn (v := .ty "tuple") (by rfl) T.n_tuple (by decide +kernel) rfl) (fun _ => rfl)) d_nil))))) (d_orT1 (d_tcmp (p_eqN hr.units) (d_v (pv 0)) (d_tup d_nil) (nomark _))))) (ds_one (ds_ret d_bl)) ds_nil)
    (ds_cons (ds_if (d_notT (d_tru (d_callB (c_all rfl) (by rfl) T.n_all (by decide +kernel) (d_cons (d_fz (d_lcN (own := [("row", 3)]) rfl sc_is_cover.nd (di_any (d_v (pv 0))) (blkOk_by (own := [("row", 3)]) (N := ["value", "names", "found", "row", "name"]) (sc := defScope s_is_cover) (by decide +kernel)) (fun _ _ _ _ _ => (dg_name (i := 3) sc_is_cover.nd rfl (Or.inl rfl))) (fun _ _ _ _ _ => dts_nil) (fun _ _ _ _ _ => (d_and (d_callB (c_isi (T.cs)) (by rfl) T.n_isinstance (by decide +kernel) (d_cons (d_v (pv 3)) (d_cons (d_c (d := .ty "tuple") (pe_bltn (v := .ty "tuple") (by rfl) T.n_tuple (by decide +kernel) rfl) (fun _ => rfl)) d_nil))) (d_and (d_cmp (p_eq hr.units) (d_callB c_len (by rfl) T.n_len PySem.boot_len (d_cons (d_v (pv 3)) d_nil)) d_int (nomark _)) (d_one (d_call (ok_is_between T) (hr.mono (by decide)) DL.takes0 (by rfl) T.g_is_between T.F_is_between.choose_spec.kp (b_is_between T) (d_cons (d_ixB rfl (d_v (pv 3)) d_int (fun _ _ => rfl)) (d_cons d_int (d_cons d_int d_nil)))))))))) d_nil)))) (ds_one (ds_ret d_bl)) ds_nil)
    (ds_cons (ds_setLc (i := 2) sc_is_cover.nd rfl rfl (sw_true rfl rfl rfl (by decide +kernel)) rfl (own := [("row", 3)]) (di_any (d_v (pv 0))) (blkOk_by (own := [("row", 3)]) (N := ["value", "names", "found", "row", "name"]) (sc := defScope s_is_cover) (by decide +kernel)) (fun _ _ _ _ _ => (dg_name (i := 3) sc_is_cover.nd rfl (Or.inl rfl))) (fun _ _ _ _ _ => dts_nil) (fun _ _ _ _ _ => (d_ixB rfl (d_v (pv 3)) d_int (fun _ _ => rfl))))
    (ds_cons (ds_if (d_notT (d_tru (d_callB (c_all rfl) (by rfl) T.n_all (by decide +kernel) (d_cons (d_fz (d_lcN (own := [("name", 4)]) rfl sc_is_cover.nd (di_any (d_v (pv 2))) (blkOk_by (own := [("name", 4)]) (N := ["value", "names", "found", "row", "name"]) (sc := defScope s_is_cover) (by decide +kernel)) (fun _ _ _ _ _ => (dg_name (i := 4) sc_is_cover.nd rfl (Or.inl rfl))) (fun _ _ _ _ _ => dts_nil) (fun _ _ _ _ _ => (d_and (d_callB (c_isi (T.cs)) (by rfl) T.n_isinstance (by decide +kernel) (d_cons (d_v (pv 4)) (d_cons (d_c (d := .ty "str") (pe_bltn (v := .ty "str") (by rfl) T.n_str (by decide +kernel) rfl) (fun _ => rfl)) d_nil))) (d_one (d_cmp p_in (d_v (pv 4)) (d_v (pv 1)) (by rfl))))))) d_nil)))) (ds_one (ds_ret d_bl)) ds_nil)
    (ds_one (ds_ret (d_cmp (p_eq hr.units) (d_lenSet rfl (by rfl) T.n_len (by rfl) T.n_set (d_v (pv 2))) (d_callB c_len (by rfl) T.n_len PySem.boot_len (d_cons (d_v (pv 2)) d_nil)) (nomark _)))))))), fun ds p n kd xd h => h.2⟩

def den_need_checks (K : PySem.W.Frag) : DS := (dSeq (dIfS (dOrT (dNotT (dTru (dCB (bIsi (csL K)) (dCons (dVar 1) (dCons (dTup (dCons (dC (.ty "list")) (dCons (dC (.ty "tuple")) dNil))) dNil))))) (dNotT (dTst (dChain oLe oLe (dC (.int 1)) (dCB bLen (dCons (dVar 1) dNil)) (dC (.int 3)))))) (dRaise (He.ga K "BadRing") ["part", "at"] (dCons (dC (.str "covers")) (dCons (dC (.int 0)) dNil))) dNext)
    (dSeq (dSetN 2 (dLstN dNil))
    (dSeq (dFor (iEnA (dCons (dVar 1) dNil)) (gTuN 2 (gCo (gNm 3) (gCo (gNm 4) gNo))) (dSeq (dIfS (dOrT (dNotT (dTru (dCB (bIsi (csL K)) (dCons (dVar 4) (dCons (dC (.ty "tuple")) dNil))))) (dOrT (dTst (dBin oNe (dCB bLen (dCons (dVar 4) dNil)) (dC (.int 2)))) (dNotT (dTru (dCall (phi_is_name K) (dCons (dBin oIx (dVar 4) (dC (.int 0))) dNil)))))) (dRaise (He.ga K "BadRing") ["part", "at"] (dCons (dC (.str "covers")) (dCons (dVar 3) dNil))) dNext)
    (dSeq (dIfS (dOrT (dTst (dBin (oIn false) (dBin oIx (dVar 4) (dC (.int 0))) (dVar 0))) (dTst (dBinR (oIn false) (dBin oIx (dVar 4) (dC (.int 0))) 2))) (dRaise (He.ga K "BadRing") ["part", "at"] (dCons (dC (.str "covers")) (dCons (dVar 3) dNil))) dNext)
    (dDrop (dOwnL 2 mApp (dCons (dBin oIx (dVar 4) (dC (.int 0))) dNil))))))
    (dFrz 2 (dRet (dVar 2))))))
def phi_need_checks (K : PySem.W.Frag) : FD := fun ds p n k x => ds.length = 2 ∧ den_need_checks K (S0 ["contents", "covers", "found", "at", "row"] ds p n) (DL.E0 k x)
theorem ev_need_checks {K : PySem.W.Frag} {p : Addr} {n : Nat} {k : D → Nat → Prop} {x : Value → List (Str × D) → Nat → Prop} {x0 x1 : D} (h : den_need_checks K (DL.S.mk [some (.val x0), some (.val x1), none, none, none] p n) (DL.E0 k x)) : phi_need_checks K [x0, x1] p n k x := ⟨rfl, h⟩
theorem ok_need_checks (T : Txt K mg) {TL : List (Addr × Str)} : FnOk P w K mg base (L2.CX P w) 5 (He.ga K "need_checks") T.F_need_checks.choose ["contents", "covers"] (DL.spD K TL (phi_need_checks K)) := by
  exact DL.okD T.F_need_checks.choose_spec sc_need_checks (fun ds p n kd xd h => h.1) ⟨den_need_checks K, fun cdv A outer s H E hr => (ds_cons (ds_if (PW.pt (d_orT (d_notT (d_tru (d_callB (c_isi (T.cs)) (by rfl) T.n_isinstance (by decide +kernel) (d_cons (d_v (pv 1)) (d_cons (d_tup (d_cons (d_c (d := .ty "list") (pe_bltn (v := .ty "list") (by rfl) T.n_list (by decide +kernel) rfl) (fun _ => rfl)) (d_cons (d_c (d := .ty "tuple") (pe_bltn (v := .ty "tuple") (by rfl) T.n_tuple (by decide +kernel) rfl) (fun _ => rfl)) d_nil))) d_nil))))) (d_orT1 (d_notT (d_tchain p_le p_le d_int (d_callB c_len (by rfl) T.n_len PySem.boot_len (d_cons (d_v (pv 1)) d_nil)) (d_c (d := .int 3) (pe_glob (v := .int 3) rfl T.c_MOST_CHECKS.choose_spec ⟨_, rfl⟩) (fun _ => rfl))))))) (ds_one (ds_raise rfl pT (pmk_err (errI_BadRing T) errS_BadRing (errN_BadRing T) (by decide) (by decide) (hr.mono (by decide)) rfl T.g_BadRing (d_cons d_str (d_cons d_int d_nil))))) ds_nil)
    (ds_cons (ds_setN (i := 2) sc_need_checks.nd rfl (Or.inl rfl) (d_lstN d_nil))
    (ds_cons (ds_for pO rfl (di_enumA (by rfl) T.n_enumerate (d_cons (d_v (pv 1)) d_nil)) (dg_tup (by rfl) (dgs_cons (dg_name (i := 3) sc_need_checks.nd rfl (Or.inl rfl)) (dgs_cons (dg_name (i := 4) sc_need_checks.nd rfl (Or.inl rfl)) dgs_nil)))
    (ds_cons (ds_if (PW.pt (d_orT (d_notT (d_tru (d_callB (c_isi (T.cs)) (by rfl) T.n_isinstance (by decide +kernel) (d_cons (d_v (pv 4)) (d_cons (d_c (d := .ty "tuple") (pe_bltn (v := .ty "tuple") (by rfl) T.n_tuple (by decide +kernel) rfl) (fun _ => rfl)) d_nil))))) (d_orT (d_tcmp (p_ne hr.units) (d_callB c_len (by rfl) T.n_len PySem.boot_len (d_cons (d_v (pv 4)) d_nil)) d_int (nomark _)) (d_orT1 (d_notT (d_tru (d_call (ok_is_name T) (hr.mono (by decide)) pT (by rfl) T.g_is_name T.F_is_name.choose_spec.kp (b_is_name T) (d_cons (d_ix (d_v (pv 4)) d_int (fun _ _ => rfl)) d_nil)))))))) (ds_one (ds_raise rfl pT (pmk_err (errI_BadRing T) errS_BadRing (errN_BadRing T) (by decide) (by decide) (hr.mono (by decide)) rfl T.g_BadRing (d_cons d_str (d_cons (d_v (pv 3)) d_nil))))) ds_nil)
    (ds_cons (ds_if (PW.pt (d_orT (d_tcmp p_in (d_ix (d_v (pv 4)) d_int (fun _ _ => rfl)) (d_v (pv 0)) (by rfl)) (d_orT1 (d_tcmpR p_in (d_ix (d_v (pv 4)) d_int (fun _ _ => rfl)) (pv 2) (by rfl))))) (ds_one (ds_raise rfl pT (pmk_err (errI_BadRing T) errS_BadRing (errN_BadRing T) (by decide) (by decide) (hr.mono (by decide)) rfl T.g_BadRing (d_cons d_str (d_cons (d_v (pv 3)) d_nil))))) ds_nil)
    (ds_one (ds_expr (d_ownL ml_app PySem.F.slot_list_append PySem.F.type_list_append mt_append (pv 2) (d_cons (d_ix (d_v (pv 4)) d_int (fun _ _ => rfl)) d_nil)))))))
    (ds_one (ds_frz (ds_ret (d_v (pv 2))) 2))))), fun ds p n kd xd h => h.2⟩

def den_need_parts (K : PySem.W.Frag) : DS := (dSeq (dIfS (dOrT (dNotT (dTru (dCB (bIsi (csL K)) (dCons (dVar 0) (dCons (dC (.ty "tuple")) dNil))))) (dTst (dBin oEqN (dVar 0) (dTup dNil)))) (dRaise (He.ga K "BadRing") ["part", "at"] (dCons (dC (.str "contents")) (dCons (dC (.int 0)) dNil))) dNext)
    (dSeq (dDrop (dCall (phi_need_distinct_names K) (dCons (dC (.str "contents")) (dCons (dVar 0) dNil))))
    (dSeq (dSet 3 (dCall (phi_need_checks K) (dCons (dVar 0) (dCons (dVar 1) dNil))))
    (dSeq (dSet 4 (dBin oAdd (dCB bList (dCons (dVar 0) dNil)) (dVar 3)))
    (dSeq (dIfS (dTst (dBin oGt (dCB bLen (dCons (dVar 4) dNil)) (dC (.int 5)))) (dRaise (He.ga K "BadRing") ["part", "at"] (dCons (dC (.str "names")) (dCons (dCB bLen (dCons (dVar 4) dNil)) dNil))) dNext)
    (dSeq (dFor (iEnA (dCons (dVar 1) dNil)) (gTuN 2 (gCo (gNm 5) (gCo (gNm 6) gNo))) (dIfS (dNotT (dTru (dCall (phi_is_cover K) (dCons (dBin oIx (dVar 6) (dC (.int 1))) (dCons (dVar 4) dNil))))) (dRaise (He.ga K "BadRing") ["part", "at"] (dCons (dC (.str "total")) (dCons (dVar 5) dNil))) dNext))
    (dSeq (dIfS (dNotT (dTru (dCB (bIsi (csL K)) (dCons (dVar 2) (dCons (dC (.ty "tuple")) dNil))))) (dRaise (He.ga K "BadRing") ["part", "at"] (dCons (dC (.str "summed")) (dCons (dC (.int 0)) dNil))) dNext)
    (dFor (iEnA (dCons (dVar 2) dNil)) (gTuN 2 (gCo (gNm 5) (gCo (gNm 7) gNo))) (dIfS (dOrT (dNotT (dTru (dCB (bIsi (csL K)) (dCons (dVar 7) (dCons (dC (.ty "str")) dNil))))) (dOrT (dTst (dBin (oIn true) (dVar 7) (dVar 3))) (dTst (dBin (oIn false) (dVar 7) (dSlc (dVar 2) oNo (oSo (dVar 5))))))) (dRaise (He.ga K "BadRing") ["part", "at"] (dCons (dC (.str "summed")) (dCons (dVar 5) dNil))) dNext)))))))))
def phi_need_parts (K : PySem.W.Frag) : FD := fun ds p n k x => ds.length = 3 ∧ den_need_parts K (S0 ["contents", "covers", "summed", "checks", "names", "at", "row", "check"] ds p n) (DL.E0 k x)
theorem ev_need_parts {K : PySem.W.Frag} {p : Addr} {n : Nat} {k : D → Nat → Prop} {x : Value → List (Str × D) → Nat → Prop} {x0 x1 x2 : D} (h : den_need_parts K (DL.S.mk [some (.val x0), some (.val x1), some (.val x2), none, none, none, none, none] p n) (DL.E0 k x)) : phi_need_parts K [x0, x1, x2] p n k x := ⟨rfl, h⟩
theorem ok_need_parts (T : Txt K mg) {TL : List (Addr × Str)} : FnOk P w K mg base (L2.CX P w) 9 (He.ga K "need_parts") T.F_need_parts.choose ["contents", "covers", "summed"] (DL.spD K TL (phi_need_parts K)) := by
  exact DL.okD T.F_need_parts.choose_spec sc_need_parts (fun ds p n kd xd h => h.1) ⟨den_need_parts K, fun cdv A outer s H E hr => (ds_cons (ds_if (PW.pt (d_orT (d_notT (d_tru (d_callB (c_isi (T.cs)) (by rfl) T.n_isinstance (by decide +kernel) (d_cons (d_v (pv 0)) (d_cons (d_c (d := .ty "tuple") (pe_bltn (v := .ty "tuple") (by rfl) T.n_tuple (by decide +kernel) rfl) (fun _ => rfl)) d_nil))))) (d_orT1 (d_tcmp (p_eqN hr.units) (d_v (pv 0)) (d_tup d_nil) (nomark _))))) (ds_one (ds_raise rfl pT (pmk_err (errI_BadRing T) errS_BadRing (errN_BadRing T) (by decide) (by decide) (hr.mono (by decide)) rfl T.g_BadRing (d_cons d_str (d_cons d_int d_nil))))) ds_nil)
    (ds_cons (ds_expr (d_call (ok_need_distinct_names T) (hr.mono (by decide)) pT (by rfl) T.g_need_distinct_names T.F_need_distinct_names.choose_spec.kp (b_need_distinct_names T) (d_cons d_str (d_cons (d_v (pv 0)) d_nil))))
    (ds_cons (ds_set (i := 3) sc_need_parts.nd rfl (Or.inl rfl) (d_call (ok_need_checks T) (hr.mono (by decide)) pT (by rfl) T.g_need_checks T.F_need_checks.choose_spec.kp (b_need_checks T) (d_cons (d_v (pv 0)) (d_cons (d_v (pv 1)) d_nil))))
    (ds_cons (ds_set (i := 4) sc_need_parts.nd rfl (Or.inl rfl) (d_bin p_add (d_callTy c_list (by rfl) T.n_list (by decide +kernel) (d_cons (d_v (pv 0)) d_nil)) (d_v (pv 3))))
    (ds_cons (ds_if (d_tcmp p_gt (d_callB c_len (by rfl) T.n_len PySem.boot_len (d_cons (d_v (pv 4)) d_nil)) (d_c (d := .int 5) (pe_glob (v := .int 5) rfl T.c_MOST_NAMES.choose_spec ⟨_, rfl⟩) (fun _ => rfl)) (nomark _)) (ds_one (ds_raise rfl pT (pmk_err (errI_BadRing T) errS_BadRing (errN_BadRing T) (by decide) (by decide) (hr.mono (by decide)) rfl T.g_BadRing (d_cons d_str (d_cons (d_callB c_len (by rfl) T.n_len PySem.boot_len (d_cons (d_v (pv 4)) d_nil)) d_nil))))) ds_nil)
    (ds_cons (ds_for pO rfl (di_enumA (by rfl) T.n_enumerate (d_cons (d_v (pv 1)) d_nil)) (dg_tup (by rfl) (dgs_cons (dg_name (i := 5) sc_need_parts.nd rfl (Or.inl rfl)) (dgs_cons (dg_name (i := 6) sc_need_parts.nd rfl (Or.inl rfl)) dgs_nil)))
    (ds_one (ds_if (d_notT (d_tru (d_call (ok_is_cover T) (hr.mono (by decide)) pT (by rfl) T.g_is_cover T.F_is_cover.choose_spec.kp (b_is_cover T) (d_cons (d_ix (d_v (pv 6)) d_int (fun _ _ => rfl)) (d_cons (d_v (pv 4)) d_nil))))) (ds_one (ds_raise rfl pT (pmk_err (errI_BadRing T) errS_BadRing (errN_BadRing T) (by decide) (by decide) (hr.mono (by decide)) rfl T.g_BadRing (d_cons d_str (d_cons (d_v (pv 5)) d_nil))))) ds_nil)))
    (ds_cons (ds_if (d_notT (d_tru (d_callB (c_isi (T.cs)) (by rfl) T.n_isinstance (by decide +kernel) (d_cons (d_v (pv 2)) (d_cons (d_c (d := .ty "tuple") (pe_bltn (v := .ty "tuple") (by rfl) T.n_tuple (by decide +kernel) rfl) (fun _ => rfl)) d_nil))))) (ds_one (ds_raise rfl pT (pmk_err (errI_BadRing T) errS_BadRing (errN_BadRing T) (by decide) (by decide) (hr.mono (by decide)) rfl T.g_BadRing (d_cons d_str (d_cons d_int d_nil))))) ds_nil)
    (ds_one (ds_for pO rfl (di_enumA (by rfl) T.n_enumerate (d_cons (d_v (pv 2)) d_nil)) (dg_tup (by rfl) (dgs_cons (dg_name (i := 5) sc_need_parts.nd rfl (Or.inl rfl)) (dgs_cons (dg_name (i := 7) sc_need_parts.nd rfl (Or.inl rfl)) dgs_nil)))
    (ds_one (ds_if (PW.pt (d_orT (d_notT (d_tru (d_callB (c_isi (T.cs)) (by rfl) T.n_isinstance (by decide +kernel) (d_cons (d_v (pv 7)) (d_cons (d_c (d := .ty "str") (pe_bltn (v := .ty "str") (by rfl) T.n_str (by decide +kernel) rfl) (fun _ => rfl)) d_nil))))) (d_orT (d_tcmp p_notIn (d_v (pv 7)) (d_v (pv 3)) (by rfl)) (d_orT1 (d_tcmp p_in (d_v (pv 7)) (d_slc (d_v (pv 2)) do_none (do_some (d_v (pv 5)))) (by rfl)))))) (ds_one (ds_raise rfl pT (pmk_err (errI_BadRing T) errS_BadRing (errN_BadRing T) (by decide) (by decide) (hr.mono (by decide)) rfl T.g_BadRing (d_cons d_str (d_cons (d_v (pv 5)) d_nil))))) ds_nil))))))))))), fun ds p n kd xd h => h.2⟩

def den_Ring_DinitD (K : PySem.W.Frag) : DS := (dSeq (dDrop (dCall (phi_need_parts K) (dCons (dVar 1) (dCons (dVar 2) (dCons (dVar 3) dNil)))))
    (dSeq (dFldS (He.ga K "Ring") 0 "contents" (dVar 1))
    (dSeq (dFldS (He.ga K "Ring") 0 "checks" (dCB bTup (dCons (dFz (dLcN (iAn (dVar 2)) (gNm 4) dYes (dBin oIx (dVar 4) (dC (.int 0))) [4])) dNil)))
    (dSeq (dFldS (He.ga K "Ring") 0 "covers" (dCB bTup (dCons (dVar 2) dNil)))
    (dFldS (He.ga K "Ring") 0 "summed" (dVar 3))))))
def phi_Ring_DinitD (K : PySem.W.Frag) : FI := fun ds p n k x => ds.length = 3 ∧ den_Ring_DinitD K (SI ["self", "contents", "covers", "summed", "row"] (He.ga K "Ring") ds p n) (EI (He.ga K "Ring") k x)
theorem ev_Ring_DinitD {K : PySem.W.Frag} {p : Addr} {n : Nat} {k : List (Str × D) → Nat → Prop} {x : Value → List (Str × D) → Nat → Prop} {x0 x1 x2 : D} (h : den_Ring_DinitD K (DL.S.mk [some (.own false (.obj (He.ga K "Ring") [])), some (.val x0), some (.val x1), some (.val x2), none] p n) (DL.EI (He.ga K "Ring") k x)) : phi_Ring_DinitD K [x0, x1, x2] p n k x := ⟨rfl, h⟩
theorem ok_Ring_DinitD (T : Txt K mg) {TL : List (Addr × Str)} : FnOk P w K mg base (L2.CX P w) 11 (He.ma K (He.ga K "Ring") "__init__") T.F_Ring_DinitD.choose ["self", "contents", "covers", "summed"] (DL.spI K TL (He.ga K "Ring") (phi_Ring_DinitD K)) := by
  exact DL.okI T.F_Ring_DinitD.choose_spec sc_Ring_DinitD (fun ds p n kd xd h => congrArg (· + 1) h.1) ⟨den_Ring_DinitD K, fun cdv A outer s H E hr => (ds_cons (ds_expr (d_call (ok_need_parts T) (hr.mono (by decide)) pT (by rfl) T.g_need_parts T.F_need_parts.choose_spec.kp (b_need_parts T) (d_cons (d_v (pv 1)) (d_cons (d_v (pv 2)) (d_cons (d_v (pv 3)) d_nil)))))
    (ds_cons (ds_fld T.clRing T.na_Ring_contents (pv 0) (d_v (pv 1)))
    (ds_cons (ds_fld T.clRing T.na_Ring_checks (pv 0) (d_callTy c_tup (by rfl) T.n_tuple (by decide +kernel) (d_cons (d_fz (d_lcN (own := [("row", 4)]) rfl sc_Ring_DinitD.nd (di_any (d_v (pv 2))) (blkOk_by (own := [("row", 4)]) (N := ["self", "contents", "covers", "summed", "row"]) (sc := defScope s_Ring_DinitD) (by decide +kernel)) (fun _ _ _ _ _ => (dg_name (i := 4) sc_Ring_DinitD.nd rfl (Or.inl rfl))) (fun _ _ _ _ _ => dts_nil) (fun _ _ _ _ _ => (d_ixB rfl (d_v (pv 4)) d_int (fun _ _ => rfl))))) d_nil)))
    (ds_cons (ds_fld T.clRing T.na_Ring_covers (pv 0) (d_callTy c_tup (by rfl) T.n_tuple (by decide +kernel) (d_cons (d_v (pv 2)) d_nil)))
    (ds_one (ds_fld T.clRing T.na_Ring_summed (pv 0) (d_v (pv 3)))))))), fun ds p n kd xd h => h.2⟩
abbrev phi__law_draw (K : PySem.W.Frag) : FD := DL.phiDraw
theorem ok__law_drawD (T : Txt K mg) {TL : List (Addr × Str)} : FnOk P w K mg base (L2.CX P w) 1 (He.ga K "_law_draw") T.F__law_draw.choose ["_law_pen_here", "_law_bound"] (DL.spD K TL (phi__law_draw K)) := (ok__law_draw T).imp fun _ _ _ _ h => DL.draw_imp h
def den__law_one (K : PySem.W.Frag) : DS := (dRet (dBin oIx (dVar 1) (dCall (phi__law_draw K) (dCons (dVar 0) (dCons (dCB bLen (dCons (dVar 1) dNil)) dNil)))))
def phi__law_one (K : PySem.W.Frag) : FD := fun ds p n k x => ds.length = 2 ∧ den__law_one K (S0 ["_law_pen_here", "_law_some"] ds p n) (DL.E0 k x)
theorem ev__law_one {K : PySem.W.Frag} {p : Addr} {n : Nat} {k : D → Nat → Prop} {x : Value → List (Str × D) → Nat → Prop} {x0 x1 : D} (h : den__law_one K (DL.S.mk [some (.val x0), some (.val x1)] p n) (DL.E0 k x)) : phi__law_one K [x0, x1] p n k x := ⟨rfl, h⟩
theorem ok__law_one (T : Txt K mg) {TL : List (Addr × Str)} : FnOk P w K mg base (L2.CX P w) 3 (He.ga K "_law_one") T.F__law_one.choose ["_law_pen_here", "_law_some"] (DL.spD K TL (phi__law_one K)) := by
  exact DL.okD T.F__law_one.choose_spec sc__law_one (fun ds p n kd xd h => h.1) ⟨den__law_one K, fun cdv A outer s H E hr => (ds_one (ds_ret (d_ix (d_v (pv 1)) (d_call (ok__law_drawD T) (hr.mono (by decide)) pT (by rfl) T.g__law_draw T.F__law_draw.choose_spec.kp (b__law_draw T) (d_cons (d_v (pv 0)) (d_cons (d_callB c_len (by rfl) T.n_len PySem.boot_len (d_cons (d_v (pv 1)) d_nil)) d_nil))) (fun _ _ => rfl)))), fun ds p n kd xd h => h.2⟩

def den__law_refused (K : PySem.W.Frag) : DS := (dSeq (dTryR (dDrop (dMakeN (He.ga K "Ring") (phi_Ring_DinitD K) 2 1 [0, 1, 2] (dCons (dVar 0) (dCons (dVar 1) dNil)) (dCons (dVar 2) dNil))) [⟨(He.ga K "ZerosError"), [((He.ga K "BadRing"), true)], (xIf (xIs [((He.ga K "BadRing"), true)]) (xTup (xCons (xF (He.ga K "BadRing") "part") (xCons (xF (He.ga K "BadRing") "at") xNil))) (xC (.str "other")))⟩])
    (dRet (dC .non)))
def phi__law_refused (K : PySem.W.Frag) : FD := fun ds p n k x => ds.length = 3 ∧ den__law_refused K (S0 ["_law_contents", "_law_covers", "_law_folded", "error"] ds p n) (DL.E0 k x)
theorem ev__law_refused {K : PySem.W.Frag} {p : Addr} {n : Nat} {k : D → Nat → Prop} {x : Value → List (Str × D) → Nat → Prop} {x0 x1 x2 : D} (h : den__law_refused K (DL.S.mk [some (.val x0), some (.val x1), some (.val x2), none] p n) (DL.E0 k x)) : phi__law_refused K [x0, x1, x2] p n k x := ⟨rfl, h⟩
theorem ok__law_refused (T : Txt K mg) {TL : List (Addr × Str)} : FnOk P w K mg base (L2.CX P w) 13 (He.ga K "_law_refused") T.F__law_refused.choose ["_law_contents", "_law_covers", "_law_folded"] (DL.spD K TL (phi__law_refused K)) := by
  exact DL.okD T.F__law_refused.choose_spec sc__law_refused (fun ds p n kd xd h => h.1) ⟨den__law_refused K, fun cdv A outer s H E hr => (ds_cons (ds_tryR rfl rfl rfl sc__law_refused.nd pT (fun E_ pn_ xe_ tk_ => (ds_one (ds_expr (d_makeK rfl T.mkRing (ok_Ring_DinitD T) (hr.mono (by decide)) tk_ (by rfl) T.g_Ring (Z.FunD.kbindsN T.F_Ring_DinitD.choose_spec 3 ["summed"] (@DL.gI [0, 1, 2]) (DL.gI_rel [0, 1, 2]) fun _ _ _ _ _ _ us ws h1 h2 => match us, ws, h1, h2 with | [_, _, _], [_], _, _ => rfl) (d_cons (d_v (pv 0)) (d_cons (d_v (pv 1)) d_nil)) (dk_cons (d_v (pv 2)) dk_nil))))) (DL.HdsR.cons (i := 3) (h := ⟨(He.ga K "ZerosError"), [((He.ga K "BadRing"), true)], (xIf (xIs [((He.ga K "BadRing"), true)]) (xTup (xCons (xF (He.ga K "BadRing") "part") (xCons (xF (He.ga K "BadRing") "at") xNil))) (xC (.str "other")))⟩) ⟨by rfl, by decide, .inl T.g_ZerosError⟩ rfl rfl (List.forall_mem_cons.mpr ⟨T.xm_BadRing_ZerosError, List.forall_mem_nil _⟩) (fun a_ oe_ cls_ d_ pn_ hz hf => (x_if (x_is (C := (He.ga K "BadRing")) (List.forall_mem_cons.mpr ⟨⟨errQ_BadRing T, T.xk_BadRing_BadRing⟩, List.forall_mem_nil _⟩) hz hf rfl (by first | exact Or.inl rfl | exact Or.inr (Or.inl rfl) | exact Or.inr (Or.inr rfl)) (by rfl) T.n_isinstance (by decide +kernel) (pe_glob (v := .ref (He.ga K "BadRing")) (by rfl) T.g_BadRing rfl)) (x_tup (x_cons (x_f (errQ_BadRing T).xf T.en_BadRing_part hz hf rfl (by first | exact Or.inl rfl | exact Or.inr (Or.inl rfl) | exact Or.inr (Or.inr rfl))) (x_cons (x_f (errQ_BadRing T).xf T.en_BadRing_at hz hf rfl (by first | exact Or.inl rfl | exact Or.inr (Or.inl rfl) | exact Or.inr (Or.inr rfl))) x_nil))) (x_c (z := (.str "other")) pe_str (fun _ => ⟨rfl, by decide⟩)))) DL.HdsR.nil))
    (ds_one (ds_ret d_non))), fun ds p n kd xd h => h.2⟩

def den__law_thing (K : PySem.W.Frag) : DS := (dRet (dCall (phi__law_one K) (dCons (dVar 0) (dCons (dLst (dCons (dC .non) (dCons (dC (.str "")) (dCons (dC (.str "S")) (dCons (dC (.str "seven77")) (dCons (dC (.int 0)) (dCons (dC (.bl true)) (dCons (dTup dNil) (dCons (dLst (dCons (dC (.str "s")) dNil)) (dCons (dTup (dCons (dC (.str "s")) dNil)) (dCons (dC (.dic [])) (dCons (dC (.str "yes")) (dCons (dC (.str "s1")) (dCons (dBin oPow (dC (.int 10)) (dC (.int 30))) dNil)))))))))))))) dNil))))
def phi__law_thing (K : PySem.W.Frag) : FD := fun ds p n k x => ds.length = 1 ∧ den__law_thing K (S0 ["_law_pen_here"] ds p n) (DL.E0 k x)
theorem ev__law_thing {K : PySem.W.Frag} {p : Addr} {n : Nat} {k : D → Nat → Prop} {x : Value → List (Str × D) → Nat → Prop} {x0 : D} (h : den__law_thing K (DL.S.mk [some (.val x0)] p n) (DL.E0 k x)) : phi__law_thing K [x0] p n k x := ⟨rfl, h⟩
theorem ok__law_thing (T : Txt K mg) {TL : List (Addr × Str)} : FnOk P w K mg base (L2.CX P w) 5 (He.ga K "_law_thing") T.F__law_thing.choose ["_law_pen_here"] (DL.spD K TL (phi__law_thing K)) := by
  exact DL.okD T.F__law_thing.choose_spec sc__law_thing (fun ds p n kd xd h => h.1) ⟨den__law_thing K, fun cdv A outer s H E hr => (ds_one (ds_ret (d_call (ok__law_one T) (hr.mono (by decide)) pT (by rfl) T.g__law_one T.F__law_one.choose_spec.kp (b__law_one T) (d_cons (d_v (pv 0)) (d_cons (d_lst (d_cons d_non (d_cons d_str (d_cons d_str (d_cons d_str (d_cons d_int (d_cons d_bl (d_cons (d_tup d_nil) (d_cons (d_lst (d_cons d_str d_nil)) (d_cons (d_tup (d_cons d_str d_nil)) (d_cons d_dict0 (d_cons d_str (d_cons d_str (d_cons (d_bin p_pow d_int d_int) d_nil)))))))))))))) d_nil))))), fun ds p n kd xd h => h.2⟩

def den__law_bent_contents (K : PySem.W.Frag) : DS := (dSeq (dSet 2 (dCall (phi__law_draw K) (dCons (dVar 0) (dCons (dC (.int 4)) dNil))))
    (dSeq (dIfS (dTst (dBin oEq (dVar 2) (dC (.int 0)))) (dRet (dTup (dCons (dCall (phi__law_one K) (dCons (dVar 0) (dCons (dLst (dCons (dC .non) (dCons (dLst (dCons (dC (.str "s")) (dCons (dC (.str "t")) dNil))) (dCons (dTup dNil) (dCons (dC (.str "st")) (dCons (dC (.dic [])) (dCons (dC (.int 0)) dNil))))))) dNil))) (dCons (dC (.int 0)) dNil)))) dNext)
    (dSeq (dSet 3 (dCall (phi__law_draw K) (dCons (dVar 0) (dCons (dCB bLen (dCons (dVar 1) dNil)) dNil))))
    (dSeq (dSet 4 (dIf (dAndT (dTst (dBin oEq (dVar 2) (dC (.int 1)))) (dTst (dBin oGt (dVar 3) (dC (.int 0))))) (dBin oIx (dVar 1) (dC (.int 0))) (dCall (phi__law_thing K) (dCons (dVar 0) dNil))))
    (dRet (dTup (dCons (dBin oAdd (dBin oAdd (dSlc (dVar 1) oNo (oSo (dVar 3))) (dTup (dCons (dVar 4) dNil))) (dSlc (dVar 1) (oSo (dBin oAdd (dVar 3) (dC (.int 1)))) oNo)) (dCons (dVar 3) dNil))))))))
def phi__law_bent_contents (K : PySem.W.Frag) : FD := fun ds p n k x => ds.length = 2 ∧ den__law_bent_contents K (S0 ["_law_pen_here", "_law_good", "_law_pick", "_law_at", "_law_odd"] ds p n) (DL.E0 k x)
theorem ev__law_bent_contents {K : PySem.W.Frag} {p : Addr} {n : Nat} {k : D → Nat → Prop} {x : Value → List (Str × D) → Nat → Prop} {x0 x1 : D} (h : den__law_bent_contents K (DL.S.mk [some (.val x0), some (.val x1), none, none, none] p n) (DL.E0 k x)) : phi__law_bent_contents K [x0, x1] p n k x := ⟨rfl, h⟩
theorem ok__law_bent_contents (T : Txt K mg) {TL : List (Addr × Str)} : FnOk P w K mg base (L2.CX P w) 7 (He.ga K "_law_bent_contents") T.F__law_bent_contents.choose ["_law_pen_here", "_law_good"] (DL.spD K TL (phi__law_bent_contents K)) := by
  exact DL.okD T.F__law_bent_contents.choose_spec sc__law_bent_contents (fun ds p n kd xd h => h.1) ⟨den__law_bent_contents K, fun cdv A outer s H E hr => (ds_cons (ds_set (i := 2) sc__law_bent_contents.nd rfl (Or.inl rfl) (d_call (ok__law_drawD T) (hr.mono (by decide)) pT (by rfl) T.g__law_draw T.F__law_draw.choose_spec.kp (b__law_draw T) (d_cons (d_v (pv 0)) (d_cons d_int d_nil))))
    (ds_cons (ds_if (d_tcmp (p_eq hr.units) (d_v (pv 2)) d_int (nomark _)) (ds_one (ds_ret (d_tup (d_cons (d_call (ok__law_one T) (hr.mono (by decide)) pT (by rfl) T.g__law_one T.F__law_one.choose_spec.kp (b__law_one T) (d_cons (d_v (pv 0)) (d_cons (d_lst (d_cons d_non (d_cons (d_lst (d_cons d_str (d_cons d_str d_nil))) (d_cons (d_tup d_nil) (d_cons d_str (d_cons d_dict0 (d_cons d_int d_nil))))))) d_nil))) (d_cons d_int d_nil))))) ds_nil)
    (ds_cons (ds_set (i := 3) sc__law_bent_contents.nd rfl (Or.inl rfl) (d_call (ok__law_drawD T) (hr.mono (by decide)) pT (by rfl) T.g__law_draw T.F__law_draw.choose_spec.kp (b__law_draw T) (d_cons (d_v (pv 0)) (d_cons (d_callB c_len (by rfl) T.n_len PySem.boot_len (d_cons (d_v (pv 1)) d_nil)) d_nil))))
    (ds_cons (ds_set (i := 4) sc__law_bent_contents.nd rfl (Or.inl rfl) (d_if (PW.pt (d_andT (d_tcmp (p_eq hr.units) (d_v (pv 2)) d_int (nomark _)) (d_andT1 (d_tcmp p_gt (d_v (pv 3)) d_int (nomark _))))) (d_ix (d_v (pv 1)) d_int (fun _ _ => rfl)) (d_call (ok__law_thing T) (hr.mono (by decide)) pT (by rfl) T.g__law_thing T.F__law_thing.choose_spec.kp (b__law_thing T) (d_cons (d_v (pv 0)) d_nil))))
    (ds_one (ds_ret (d_tup (d_cons (d_bin p_add (d_bin p_add (d_slc (d_v (pv 1)) do_none (do_some (d_v (pv 3)))) (d_tup (d_cons (d_v (pv 4)) d_nil))) (d_slc (d_v (pv 1)) (do_some (d_bin p_add (d_v (pv 3)) d_int)) do_none)) (d_cons (d_v (pv 3)) d_nil))))))))), fun ds p n kd xd h => h.2⟩

def den__law_bent_covers (K : PySem.W.Frag) : DS := (dSeq (dSet 2 (dCall (phi__law_draw K) (dCons (dVar 0) (dCons (dC (.int 3)) dNil))))
    (dSeq (dIfS (dTst (dBin oEq (dVar 2) (dC (.int 0)))) (dRet (dTup (dCons (dCall (phi__law_one K) (dCons (dVar 0) (dCons (dLst (dCons (dC .non) (dCons (dTup dNil) (dCons (dLst dNil) (dCons (dDict [((dC (.str "c")), (dTup (dCons (dTup (dCons (dC (.str "s")) (dCons (dC (.int 1)) dNil))) dNil)))]) (dCons (dC (.str "c")) (dCons (dBin oAdd (dBin oAdd (dBin oAdd (dVar 1) (dVar 1)) (dVar 1)) (dVar 1)) (dCons (dC (.int 0)) dNil)))))))) dNil))) (dCons (dC (.int 0)) dNil)))) dNext)
    (dSeq (dSet 3 (dCall (phi__law_draw K) (dCons (dVar 0) (dCons (dCB bLen (dCons (dVar 1) dNil)) dNil))))
    (dSeq (dSet 4 (dBin oIx (dBin oIx (dVar 1) (dVar 3)) (dC (.int 1))))
    (dSeq (dSet 5 (dCall (phi__law_one K) (dCons (dVar 0) (dCons (dLst (dCons (dTup (dCons (dCall (phi__law_thing K) (dCons (dVar 0) dNil)) (dCons (dVar 4) dNil))) (dCons (dTup (dCons (dC (.str "s")) (dCons (dVar 4) dNil))) (dCons (dC (.str "c")) (dCons (dC .non) (dCons (dTup (dCons (dC (.str "c")) dNil)) (dCons (dLst (dCons (dC (.str "c")) (dCons (dVar 4) dNil))) (dCons (dTup (dCons (dC (.str "c")) (dCons (dVar 4) (dCons (dC (.int 1)) dNil)))) dNil)))))))) dNil))))
    (dSeq (dIfS (dAndT (dTst (dBin oEq (dVar 2) (dC (.int 1)))) (dTst (dBin oGt (dVar 3) (dC (.int 0))))) (dSet 5 (dTup (dCons (dBin oIx (dBin oIx (dVar 1) (dC (.int 0))) (dC (.int 0))) (dCons (dVar 4) dNil)))) dNext)
    (dRet (dTup (dCons (dBin oAdd (dBin oAdd (dCB bList (dCons (dSlc (dVar 1) oNo (oSo (dVar 3))) dNil)) (dLst (dCons (dVar 5) dNil))) (dCB bList (dCons (dSlc (dVar 1) (oSo (dBin oAdd (dVar 3) (dC (.int 1)))) oNo) dNil))) (dCons (dVar 3) dNil))))))))))
def phi__law_bent_covers (K : PySem.W.Frag) : FD := fun ds p n k x => ds.length = 2 ∧ den__law_bent_covers K (S0 ["_law_pen_here", "_law_good", "_law_pick", "_law_at", "_law_cover", "_law_odd"] ds p n) (DL.E0 k x)
theorem ev__law_bent_covers {K : PySem.W.Frag} {p : Addr} {n : Nat} {k : D → Nat → Prop} {x : Value → List (Str × D) → Nat → Prop} {x0 x1 : D} (h : den__law_bent_covers K (DL.S.mk [some (.val x0), some (.val x1), none, none, none, none] p n) (DL.E0 k x)) : phi__law_bent_covers K [x0, x1] p n k x := ⟨rfl, h⟩
theorem ok__law_bent_covers (T : Txt K mg) {TL : List (Addr × Str)} : FnOk P w K mg base (L2.CX P w) 7 (He.ga K "_law_bent_covers") T.F__law_bent_covers.choose ["_law_pen_here", "_law_good"] (DL.spD K TL (phi__law_bent_covers K)) := by
  exact DL.okD T.F__law_bent_covers.choose_spec sc__law_bent_covers (fun ds p n kd xd h => h.1) ⟨den__law_bent_covers K, fun cdv A outer s H E hr => (ds_cons (ds_set (i := 2) sc__law_bent_covers.nd rfl (Or.inl rfl) (d_call (ok__law_drawD T) (hr.mono (by decide)) pT (by rfl) T.g__law_draw T.F__law_draw.choose_spec.kp (b__law_draw T) (d_cons (d_v (pv 0)) (d_cons d_int d_nil))))
    (ds_cons (ds_if (d_tcmp (p_eq hr.units) (d_v (pv 2)) d_int (nomark _)) (ds_one (ds_ret (d_tup (d_cons (d_call (ok__law_one T) (hr.mono (by decide)) pT (by rfl) T.g__law_one T.F__law_one.choose_spec.kp (b__law_one T) (d_cons (d_v (pv 0)) (d_cons (d_lst (d_cons d_non (d_cons (d_tup d_nil) (d_cons (d_lst d_nil) (d_cons (d_dict (dp_cons d_str (d_tup (d_cons (d_tup (d_cons d_str (d_cons d_int d_nil))) d_nil)) dp_nil)) (d_cons d_str (d_cons (d_bin p_add (d_bin p_add (d_bin p_add (d_v (pv 1)) (d_v (pv 1))) (d_v (pv 1))) (d_v (pv 1))) (d_cons d_int d_nil)))))))) d_nil))) (d_cons d_int d_nil))))) ds_nil)
    (ds_cons (ds_set (i := 3) sc__law_bent_covers.nd rfl (Or.inl rfl) (d_call (ok__law_drawD T) (hr.mono (by decide)) pT (by rfl) T.g__law_draw T.F__law_draw.choose_spec.kp (b__law_draw T) (d_cons (d_v (pv 0)) (d_cons (d_callB c_len (by rfl) T.n_len PySem.boot_len (d_cons (d_v (pv 1)) d_nil)) d_nil))))
    (ds_cons (ds_set (i := 4) sc__law_bent_covers.nd rfl (Or.inl rfl) (d_ix (d_ix (d_v (pv 1)) (d_v (pv 3)) (fun _ _ => rfl)) d_int (fun _ _ => rfl)))
    (ds_cons (ds_set (i := 5) sc__law_bent_covers.nd rfl (Or.inl rfl) (d_call (ok__law_one T) (hr.mono (by decide)) pT (by rfl) T.g__law_one T.F__law_one.choose_spec.kp (b__law_one T) (d_cons (d_v (pv 0)) (d_cons (d_lst (d_cons (d_tup (d_cons (d_call (ok__law_thing T) (hr.mono (by decide)) pT (by rfl) T.g__law_thing T.F__law_thing.choose_spec.kp (b__law_thing T) (d_cons (d_v (pv 0)) d_nil)) (d_cons (d_v (pv 4)) d_nil))) (d_cons (d_tup (d_cons d_str (d_cons (d_v (pv 4)) d_nil))) (d_cons d_str (d_cons d_non (d_cons (d_tup (d_cons d_str d_nil)) (d_cons (d_lst (d_cons d_str (d_cons (d_v (pv 4)) d_nil))) (d_cons (d_tup (d_cons d_str (d_cons (d_v (pv 4)) (d_cons d_int d_nil)))) d_nil)))))))) d_nil))))
    (ds_cons (ds_if (PW.pt (d_andT (d_tcmp (p_eq hr.units) (d_v (pv 2)) d_int (nomark _)) (d_andT1 (d_tcmp p_gt (d_v (pv 3)) d_int (nomark _))))) (ds_one (ds_set (i := 5) sc__law_bent_covers.nd rfl (Or.inl rfl) (d_tup (d_cons (d_ix (d_ix (d_v (pv 1)) d_int (fun _ _ => rfl)) d_int (fun _ _ => rfl)) (d_cons (d_v (pv 4)) d_nil))))) ds_nil)
    (ds_one (ds_ret (d_tup (d_cons (d_bin p_add (d_bin p_add (d_callTy c_list (by rfl) T.n_list (by decide +kernel) (d_cons (d_slc (d_v (pv 1)) do_none (do_some (d_v (pv 3)))) d_nil)) (d_lst (d_cons (d_v (pv 5)) d_nil))) (d_callTy c_list (by rfl) T.n_list (by decide +kernel) (d_cons (d_slc (d_v (pv 1)) (do_some (d_bin p_add (d_v (pv 3)) d_int)) do_none) d_nil))) (d_cons (d_v (pv 3)) d_nil))))))))))), fun ds p n kd xd h => h.2⟩

def den__law_bent_total (K : PySem.W.Frag) : DS := (dSeq (dSet 2 (dCall (phi__law_draw K) (dCons (dVar 0) (dCons (dCB bLen (dCons (dVar 1) dNil)) dNil))))
    (dSeq (dSet 3 (dTup (dCons (dC (.str "s")) (dCons (dC (.int 1)) dNil))))
    (dSeq (dSet 4 (dLst (dCons (dTup dNil) (dCons (dC .non) (dCons (dLst (dCons (dVar 3) dNil)) (dCons (dTup (dCons (dVar 3) (dCons (dVar 3) dNil))) (dCons (dTup (dCons (dTup (dCons (dC (.str "z")) (dCons (dC (.int 1)) dNil))) dNil)) (dCons (dTup (dCons (dTup (dCons (dC (.str "s")) (dCons (dC (.int 0)) dNil))) dNil)) (dCons (dTup (dCons (dTup (dCons (dC (.str "s")) (dCons (dC (.int 10)) dNil))) dNil)) (dCons (dTup (dCons (dTup (dCons (dC (.str "s")) (dCons (dC (.bl true)) dNil))) dNil)) (dCons (dTup (dCons (dTup (dCons (dC (.str "s")) (dCons (dC (.str "1")) dNil))) dNil)) dNil)))))))))))
    (dSeq (dSet 4 (dBin oAdd (dVar 4) (dLst (dCons (dTup (dCons (dTup (dCons (dLst (dCons (dC (.str "s")) dNil)) (dCons (dC (.int 1)) dNil))) dNil)) (dCons (dTup (dCons (dVar 3) (dCons (dTup (dCons (dC (.dic [])) (dCons (dC (.int 1)) dNil))) dNil))) dNil)))))
    (dSeq (dSet 4 (dBin oAdd (dVar 4) (dLst (dCons (dTup (dCons (dVar 3) (dCons (dLst (dCons (dC (.str "t")) (dCons (dC (.int 1)) dNil))) dNil))) (dCons (dTup (dCons (dVar 3) (dCons (dTup (dCons (dC (.str "t")) dNil)) dNil))) (dCons (dTup (dCons (dVar 3) (dCons (dTup (dCons (dC (.str "c")) (dCons (dC (.int 1)) (dCons (dC (.int 1)) dNil)))) dNil))) (dCons (dTup (dCons (dTup (dCons (dC (.str "s")) (dCons (dBin oSub (dC (.int 0)) (dC (.int 1))) dNil))) dNil)) (dCons (dC (.str "s")) (dCons (dTup (dCons (dC (.str "s")) (dCons (dC (.int 1)) dNil))) (dCons (dTup (dCons (dVar 3) (dCons (dC .non) dNil))) dNil))))))))))
    (dSeq (dSet 5 (dBin oIx (dVar 4) (dCall (phi__law_draw K) (dCons (dVar 0) (dCons (dCB bLen (dCons (dVar 4) dNil)) dNil)))))
    (dRet (dTup (dCons (dBin oAdd (dBin oAdd (dSlc (dVar 1) oNo (oSo (dVar 2))) (dTup (dCons (dTup (dCons (dBin oIx (dBin oIx (dVar 1) (dVar 2)) (dC (.int 0))) (dCons (dVar 5) dNil))) dNil))) (dSlc (dVar 1) (oSo (dBin oAdd (dVar 2) (dC (.int 1)))) oNo)) (dCons (dVar 2) dNil))))))))))
def phi__law_bent_total (K : PySem.W.Frag) : FD := fun ds p n k x => ds.length = 2 ∧ den__law_bent_total K (S0 ["_law_pen_here", "_law_good", "_law_at", "_law_row", "_law_odds", "_law_odd"] ds p n) (DL.E0 k x)
theorem ev__law_bent_total {K : PySem.W.Frag} {p : Addr} {n : Nat} {k : D → Nat → Prop} {x : Value → List (Str × D) → Nat → Prop} {x0 x1 : D} (h : den__law_bent_total K (DL.S.mk [some (.val x0), some (.val x1), none, none, none, none] p n) (DL.E0 k x)) : phi__law_bent_total K [x0, x1] p n k x := ⟨rfl, h⟩
theorem ok__law_bent_total (T : Txt K mg) {TL : List (Addr × Str)} : FnOk P w K mg base (L2.CX P w) 3 (He.ga K "_law_bent_total") T.F__law_bent_total.choose ["_law_pen_here", "_law_good"] (DL.spD K TL (phi__law_bent_total K)) := by
  exact DL.okD T.F__law_bent_total.choose_spec sc__law_bent_total (fun ds p n kd xd h => h.1) ⟨den__law_bent_total K, fun cdv A outer s H E hr => (ds_cons (ds_set (i := 2) sc__law_bent_total.nd rfl (Or.inl rfl) (d_call (ok__law_drawD T) (hr.mono (by decide)) pT (by rfl) T.g__law_draw T.F__law_draw.choose_spec.kp (b__law_draw T) (d_cons (d_v (pv 0)) (d_cons (d_callB c_len (by rfl) T.n_len PySem.boot_len (d_cons (d_v (pv 1)) d_nil)) d_nil))))
    (ds_cons (ds_set (i := 3) sc__law_bent_total.nd rfl (Or.inl rfl) (d_tup (d_cons d_str (d_cons d_int d_nil))))
    (ds_cons (ds_set (i := 4) sc__law_bent_total.nd rfl (Or.inl rfl) (d_lst (d_cons (d_tup d_nil) (d_cons d_non (d_cons (d_lst (d_cons (d_v (pv 3)) d_nil)) (d_cons (d_tup (d_cons (d_v (pv 3)) (d_cons (d_v (pv 3)) d_nil))) (d_cons (d_tup (d_cons (d_tup (d_cons d_str (d_cons d_int d_nil))) d_nil)) (d_cons (d_tup (d_cons (d_tup (d_cons d_str (d_cons d_int d_nil))) d_nil)) (d_cons (d_tup (d_cons (d_tup (d_cons d_str (d_cons d_int d_nil))) d_nil)) (d_cons (d_tup (d_cons (d_tup (d_cons d_str (d_cons d_bl d_nil))) d_nil)) (d_cons (d_tup (d_cons (d_tup (d_cons d_str (d_cons d_str d_nil))) d_nil)) d_nil)))))))))))
    (ds_cons (ds_set (i := 4) sc__law_bent_total.nd rfl (Or.inl rfl) (d_bin p_add (d_v (pv 4)) (d_lst (d_cons (d_tup (d_cons (d_tup (d_cons (d_lst (d_cons d_str d_nil)) (d_cons d_int d_nil))) d_nil)) (d_cons (d_tup (d_cons (d_v (pv 3)) (d_cons (d_tup (d_cons d_dict0 (d_cons d_int d_nil))) d_nil))) d_nil)))))
    (ds_cons (ds_set (i := 4) sc__law_bent_total.nd rfl (Or.inl rfl) (d_bin p_add (d_v (pv 4)) (d_lst (d_cons (d_tup (d_cons (d_v (pv 3)) (d_cons (d_lst (d_cons d_str (d_cons d_int d_nil))) d_nil))) (d_cons (d_tup (d_cons (d_v (pv 3)) (d_cons (d_tup (d_cons d_str d_nil)) d_nil))) (d_cons (d_tup (d_cons (d_v (pv 3)) (d_cons (d_tup (d_cons d_str (d_cons d_int (d_cons d_int d_nil)))) d_nil))) (d_cons (d_tup (d_cons (d_tup (d_cons d_str (d_cons (d_bin p_sub d_int d_int) d_nil))) d_nil)) (d_cons d_str (d_cons (d_tup (d_cons d_str (d_cons d_int d_nil))) (d_cons (d_tup (d_cons (d_v (pv 3)) (d_cons d_non d_nil))) d_nil))))))))))
    (ds_cons (ds_set (i := 5) sc__law_bent_total.nd rfl (Or.inl rfl) (d_ix (d_v (pv 4)) (d_call (ok__law_drawD T) (hr.mono (by decide)) pT (by rfl) T.g__law_draw T.F__law_draw.choose_spec.kp (b__law_draw T) (d_cons (d_v (pv 0)) (d_cons (d_callB c_len (by rfl) T.n_len PySem.boot_len (d_cons (d_v (pv 4)) d_nil)) d_nil))) (fun _ _ => rfl)))
    (ds_one (ds_ret (d_tup (d_cons (d_bin p_add (d_bin p_add (d_slc (d_v (pv 1)) do_none (do_some (d_v (pv 2)))) (d_tup (d_cons (d_tup (d_cons (d_ix (d_ix (d_v (pv 1)) (d_v (pv 2)) (fun _ _ => rfl)) d_int (fun _ _ => rfl)) (d_cons (d_v (pv 5)) d_nil))) d_nil))) (d_slc (d_v (pv 1)) (do_some (d_bin p_add (d_v (pv 2)) d_int)) do_none)) (d_cons (d_v (pv 2)) d_nil))))))))))), fun ds p n kd xd h => h.2⟩

def den__law_bent_folded (K : PySem.W.Frag) : DS := (dSeq (dSet 1 (dCall (phi__law_draw K) (dCons (dVar 0) (dCons (dC (.int 3)) dNil))))
    (dSeq (dIfS (dTst (dBin oEq (dVar 1) (dC (.int 0)))) (dRet (dTup (dCons (dCall (phi__law_one K) (dCons (dVar 0) (dCons (dLst (dCons (dC .non) (dCons (dLst (dCons (dC (.str "c")) dNil)) (dCons (dC (.str "c")) (dCons (dC (.dic [])) (dCons (dC (.int 0)) dNil)))))) dNil))) (dCons (dC (.int 0)) dNil)))) dNext)
    (dSeq (dIfS (dTst (dBin oEq (dVar 1) (dC (.int 1)))) (dRet (dTup (dCons (dTup (dCons (dC (.str "d")) (dCons (dC (.str "c")) (dCons (dC (.str "d")) dNil)))) (dCons (dC (.int 2)) dNil)))) dNext)
    (dRet (dTup (dCons (dTup (dCons (dC (.str "c")) (dCons (dCall (phi__law_one K) (dCons (dVar 0) (dCons (dLst (dCons (dC .non) (dCons (dC (.str "s")) (dCons (dC (.str "z")) (dCons (dLst (dCons (dC (.str "d")) dNil)) (dCons (dC (.int 0)) (dCons (dC (.str "C")) dNil))))))) dNil))) dNil))) (dCons (dC (.int 1)) dNil)))))))
def phi__law_bent_folded (K : PySem.W.Frag) : FD := fun ds p n k x => ds.length = 1 ∧ den__law_bent_folded K (S0 ["_law_pen_here", "_law_pick"] ds p n) (DL.E0 k x)
theorem ev__law_bent_folded {K : PySem.W.Frag} {p : Addr} {n : Nat} {k : D → Nat → Prop} {x : Value → List (Str × D) → Nat → Prop} {x0 : D} (h : den__law_bent_folded K (DL.S.mk [some (.val x0), none] p n) (DL.E0 k x)) : phi__law_bent_folded K [x0] p n k x := ⟨rfl, h⟩
theorem ok__law_bent_folded (T : Txt K mg) {TL : List (Addr × Str)} : FnOk P w K mg base (L2.CX P w) 5 (He.ga K "_law_bent_folded") T.F__law_bent_folded.choose ["_law_pen_here"] (DL.spD K TL (phi__law_bent_folded K)) := by
  exact DL.okD T.F__law_bent_folded.choose_spec sc__law_bent_folded (fun ds p n kd xd h => h.1) ⟨den__law_bent_folded K, fun cdv A outer s H E hr => (ds_cons (ds_set (i := 1) sc__law_bent_folded.nd rfl (Or.inl rfl) (d_call (ok__law_drawD T) (hr.mono (by decide)) pT (by rfl) T.g__law_draw T.F__law_draw.choose_spec.kp (b__law_draw T) (d_cons (d_v (pv 0)) (d_cons d_int d_nil))))
    (ds_cons (ds_if (d_tcmp (p_eq hr.units) (d_v (pv 1)) d_int (nomark _)) (ds_one (ds_ret (d_tup (d_cons (d_call (ok__law_one T) (hr.mono (by decide)) pT (by rfl) T.g__law_one T.F__law_one.choose_spec.kp (b__law_one T) (d_cons (d_v (pv 0)) (d_cons (d_lst (d_cons d_non (d_cons (d_lst (d_cons d_str d_nil)) (d_cons d_str (d_cons d_dict0 (d_cons d_int d_nil)))))) d_nil))) (d_cons d_int d_nil))))) ds_nil)
    (ds_cons (ds_if (d_tcmp (p_eq hr.units) (d_v (pv 1)) d_int (nomark _)) (ds_one (ds_ret (d_tup (d_cons (d_tup (d_cons d_str (d_cons d_str (d_cons d_str d_nil)))) (d_cons d_int d_nil))))) ds_nil)
    (ds_one (ds_ret (d_tup (d_cons (d_tup (d_cons d_str (d_cons (d_call (ok__law_one T) (hr.mono (by decide)) pT (by rfl) T.g__law_one T.F__law_one.choose_spec.kp (b__law_one T) (d_cons (d_v (pv 0)) (d_cons (d_lst (d_cons d_non (d_cons d_str (d_cons d_str (d_cons (d_lst (d_cons d_str d_nil)) (d_cons d_int (d_cons d_str d_nil))))))) d_nil))) d_nil))) (d_cons d_int d_nil)))))))), fun ds p n kd xd h => h.2⟩
local macro_rules | `(tactic| walk_at "d_go") => `(tactic| dsimp only [dTryR, dLenSet, oEqN, dBinR, lookO, dDict, dPairs, keysD, keyD, iAn, iEnA, List.isEmpty_nil, List.isEmpty_cons])
/-! comprehensions whose turns leave the state as it was -/
section
variable {tt : DT} {te : DE} {i : Nat} {k : List D → S → Prop} {lv : List (Option LV)} {p : Addr} {n : Nat}
theorem lc_map (g : D → D) : ∀ {ds acc : List D}, (∀ d ∈ ds, ∀ K' : D → S → Prop, K' (g d) (DL.S.mk (lv.set i (some (.val d))) p n) → te (DL.S.mk (lv.set i (some (.val d))) p n) K' noXS) →
    k (acc ++ ds.map g) (DL.S.mk lv p n) → (hi : lv.set i none = lv := by rfl) → lcD (gNm i) dYes te [i] k ds acc (DL.S.mk lv p n)
  | [], acc, _, hk, hi => by
    rw [List.map_nil, List.append_nil] at hk
    exact hk
  | d :: r, acc, h, hk, hi => by
    show te (DL.S.mk (lv.set i (some (.val d))) p n) (fun e s3 => lcD (gNm i) dYes te [i] k r (acc ++ [e]) (s3.wipe [i])) noXS
    refine h d (List.mem_cons_self ..) _ ?_
    show lcD (gNm i) dYes te [i] k r (acc ++ [g d]) (DL.S.mk ((lv.set i (some (.val d))).set i none) p n)
    rw [List.set_set, hi]
    refine lc_map g (fun d' hd => h d' (List.mem_cons_of_mem _ hd)) ?_ hi
    rw [List.append_assoc]
    exact hk
theorem lc_filter (t : D → Bool) (g : D → D) : ∀ {ds acc : List D}, (∀ d ∈ ds, ∀ K' : Bool → S → Prop, K' (t d) (DL.S.mk (lv.set i (some (.val d))) p n) → tt (DL.S.mk (lv.set i (some (.val d))) p n) K' noXS) →
    (∀ d ∈ ds, t d = true → ∀ K' : D → S → Prop, K' (g d) (DL.S.mk (lv.set i (some (.val d))) p n) → te (DL.S.mk (lv.set i (some (.val d))) p n) K' noXS) →
    k (acc ++ (ds.filter t).map g) (DL.S.mk lv p n) → (hi : lv.set i none = lv := by rfl) → lcD (gNm i) tt te [i] k ds acc (DL.S.mk lv p n)
  | [], acc, _, _, hk, hi => by
    rw [List.filter_nil, List.map_nil, List.append_nil] at hk
    exact hk
  | d :: r, acc, ht, h, hk, hi => by
    show tt (DL.S.mk (lv.set i (some (.val d))) p n) (fun b s2 => if b = true then te s2 (fun e s3 => lcD (gNm i) tt te [i] k r (acc ++ [e]) (s3.wipe [i])) noXS else lcD (gNm i) tt te [i] k r acc (s2.wipe [i])) noXS
    refine ht d (List.mem_cons_self ..) _ ?_
    cases e : t d with
    | false =>
      rw [if_neg Bool.false_ne_true]
      show lcD (gNm i) tt te [i] k r acc (DL.S.mk ((lv.set i (some (.val d))).set i none) p n)
      rw [List.set_set, hi]
      rw [List.filter_cons_of_neg (by rw [e]; exact Bool.false_ne_true)] at hk
      exact lc_filter t g (fun d' hd => ht d' (List.mem_cons_of_mem _ hd)) (fun d' hd => h d' (List.mem_cons_of_mem _ hd)) hk hi
    | true =>
      rw [if_pos rfl]
      refine h d (List.mem_cons_self ..) e _ ?_
      show lcD (gNm i) tt te [i] k r (acc ++ [g d]) (DL.S.mk ((lv.set i (some (.val d))).set i none) p n)
      rw [List.set_set, hi]
      refine lc_filter t g (fun d' hd => ht d' (List.mem_cons_of_mem _ hd)) (fun d' hd => h d' (List.mem_cons_of_mem _ hd)) ?_ hi
      rw [List.filter_cons_of_pos e] at hk
      rw [List.append_assoc]
      exact hk
end
theorem blsOf_map : ∀ (l : List Bool), blsOf (l.map D.bl) = some l
  | [] => rfl
  | b :: l => by
    show (match blsOf (l.map D.bl) with | some l => some (b :: l) | none => none) = _
    rw [blsOf_map l]
theorem blsOf_map2 {α : Type} (f : α → Bool) (l : List α) : blsOf (l.map fun d => D.bl (f d)) = some (l.map f) := by
  rw [show (l.map fun d => D.bl (f d)) = (l.map f).map D.bl by rw [List.map_map]; rfl, blsOf_map]
theorem all_id {α : Type} (f : α → Bool) (l : List α) : (l.map f).all id = l.all f := by rw [List.all_map]; rfl
theorem any_id {α : Type} (f : α → Bool) (l : List α) : (l.map f).any id = l.any f := by rw [List.any_map]; rfl
theorem vOfs_str : ∀ (zs : List Str), vOfs (zs.map D.str) = some (zs.map V.str)
  | [] => rfl
  | z :: zs => by
    show (match vOf (.str z), vOfs (zs.map D.str) with | some v, some vs => some (v :: vs) | _, _ => none) = _
    rw [vOfs_str zs]
    rfl
theorem strsOf_map : ∀ (zs : List Str), strsOf (zs.map D.str) = some zs
  | [] => rfl
  | z :: zs => by
    show (match strsOf (zs.map D.str) with | some l => some (z :: l) | none => none) = _
    rw [strsOf_map zs]
/-- enumerate's pairs -/
def enu : Nat → List D → List D
  | _, [] => []
  | j, d :: r => .tup [.int (j : Nat), d] :: enu (j + 1) r
theorem mapIdx_enu : ∀ (ds : List D) (j : Nat), (ds.mapIdx fun i d => D.tup [.int ((j + i : Nat) : Int), d]) = enu j ds
  | [], _ => rfl
  | d :: r, j => by
    rw [List.mapIdx_cons]
    show D.tup [.int ((j + 0 : Nat) : Int), d] :: _ = D.tup [.int (j : Nat), d] :: enu (j + 1) r
    rw [← mapIdx_enu r (j + 1), Nat.add_zero]
    congr 2
    funext i d
    rw [show j + (i + 1) = j + 1 + i by omega]
theorem enu0 (ds : List D) : (ds.mapIdx fun i d => D.tup [.int (i : Nat), d]) = enu 0 ds := by
  rw [← mapIdx_enu ds 0]
  congr 1
  funext i d
  rw [Nat.zero_add]
def inS (z : Str) (zs : List Str) : Bool := inV (.str z) (zs.map V.str)
def strOf : D → Option Str
  | .str z => some z
  | _ => none
def isStrD : D → Bool
  | .str _ => true
  | _ => false
/-! data whose size is small, of no class of one's own -/
mutual
/-- plain data, none of it long -/
def pl : D → Bool
  | .tup ds => pls ds && decide (ds.length < 50)
  | .lst ds => pls ds && decide (ds.length < 50)
  | .obj _ _ => false
  | .ty _ => false
  | .ref _ => false
  | _ => true
def pls : List D → Bool
  | [] => true
  | d :: r => pl d && pls r
end
theorem pls_cons {d : D} {r : List D} (h : pls (d :: r) = true) : pl d = true ∧ pls r = true := Bool.and_eq_true_iff.mp h
theorem pls_mem : ∀ {ds : List D} {d : D}, pls ds = true → d ∈ ds → pl d = true
  | [], _, _, h => by cases h
  | e :: r, d, h, m => by
    obtain ⟨h1, h2⟩ := pls_cons h
    rcases List.mem_cons.mp m with rfl | m
    · exact h1
    · exact pls_mem h2 m
theorem pl_tup {ds : List D} (h : pl (.tup ds) = true) : pls ds = true ∧ ds.length < 50 := by
  obtain ⟨a, b⟩ := Bool.and_eq_true_iff.mp (show (pls ds && decide (ds.length < 50)) = true from h)
  exact ⟨a, of_decide_eq_true b⟩
theorem pl_lst {ds : List D} (h : pl (.lst ds) = true) : pls ds = true ∧ ds.length < 50 := by
  obtain ⟨a, b⟩ := Bool.and_eq_true_iff.mp (show (pls ds && decide (ds.length < 50)) = true from h)
  exact ⟨a, of_decide_eq_true b⟩
theorem pl_two {a b : D} (h : pl (.tup [a, b]) = true) : pl a = true ∧ pl b = true := by
  obtain ⟨h1, _⟩ := pl_tup h
  obtain ⟨h2, h3⟩ := pls_cons h1
  exact ⟨h2, (pls_cons h3).1⟩
/-! what is asked of any data: is_integer, is_between -/
/-- data whose class is known -/
def okD0 (cs : List Addr) : D → Bool
  | .ty _ => false
  | .ref _ => false
  | .obj C _ => decide (C ∈ cs)
  | _ => true
def isInt : D → Bool
  | .int _ => true
  | _ => false
def isTyB (d : D) (n : String) : Bool := match tyS d with
  | some t => isTy t n
  | none => false
theorem isCls_ty {cs : List Addr} {d : D} {n : String} (h : okD0 cs d = true) (hn : n ∈ baseTys) : isCls cs d (.ty n) = some (isTyB d n) := by
  cases d with
  | obj C fs =>
    have hC : C ∈ cs := of_decide_eq_true h
    simp only [isCls, if_pos hn, if_pos hC, isTyB, tyS]
  | ty _ => cases h
  | ref _ => cases h
  | _ => simp only [isCls, if_pos hn, isTyB, tyS, Option.map]
theorem isCls_ref {cs : List Addr} {d : D} {C : Addr} (h : okD0 cs d = true) (hC : C ∈ cs) : isCls cs d (.ref C) = some (isO C d) := by
  cases d with
  | obj C' fs =>
    have hC' : C' ∈ cs := of_decide_eq_true h
    simp only [isCls, if_pos hC, if_pos hC', isO]
  | ty _ => cases h
  | ref _ => cases h
  | _ => simp only [isCls, if_pos hC, tyS, Option.map, isO]
def btwD (d : D) (lo hi : Int) : Bool := match d with
  | .int i => decide (lo ≤ i) && decide (i ≤ hi)
  | _ => false
section
variable {K : PySem.W.Frag} {p : Addr} {n : Nat} {k : D → Nat → Prop} {x : Value → List (Str × D) → Nat → Prop} {d : D} {w v : Int}
theorem u_isint (h : okD0 (csL K) d = true) (hk : k (.bl (isInt d)) n) : phi_is_integer K [d] p n k x := by
  refine ev_is_integer ?_
  unfold den_is_integer
  walk_at "d_go"
  simp only [isCls_ty h (show "int" ∈ baseTys by decide), isCls_ty h (show "bool" ∈ baseTys by decide)]
  cases d with
  | ty _ => cases h
  | ref _ => cases h
  | _ => exact hk
theorem u_btw {lo hi : Int} (h : okD0 (csL K) d = true) (hk : k (.bl (btwD d lo hi)) n) : phi_is_between K [d, .int lo, .int hi] p n k x := by
  refine ev_is_between ?_
  unfold den_is_between
  walk_at "d_go"
  refine u_isint h ?_
  cases d with
  | int i =>
    have hk : k (.bl (decide (lo ≤ i) && decide (i ≤ hi))) n := hk
    walk_at "d_go"
    by_cases h1 : lo ≤ i
    · simp only [isInt, h1, decide_true, if_true, Bool.true_and] at hk ⊢
      exact hk
    · simp only [isInt, h1, decide_false, if_true, Bool.false_and] at hk ⊢
      exact hk
  | ty _ => cases h
  | ref _ => cases h
  | _ => exact hk
theorem btwD_int {lo hi : Int} (h : btwD d lo hi = true) : ∃ i, d = .int i ∧ lo ≤ i ∧ i ≤ hi := by
  cases d with
  | int i =>
    obtain ⟨h1, h2⟩ := Bool.and_eq_true_iff.mp (show (decide (lo ≤ i) && decide (i ≤ hi)) = true from h)
    exact ⟨i, rfl, of_decide_eq_true h1, of_decide_eq_true h2⟩
  | _ => cases h
theorem btwD_of {lo hi i : Int} (h1 : lo ≤ i) (h2 : i ≤ hi) : btwD (.int i) lo hi = true := by
  show (decide (lo ≤ i) && decide (i ≤ hi)) = true
  rw [decide_eq_true h1, decide_eq_true h2]
  rfl
end
section
variable {K : PySem.W.Frag} {p : Addr} {n : Nat} {k : D → Nat → Prop} {x : Value → List (Str × D) → Nat → Prop} {d : D} {w v : Int}
abbrev LET : Str := "abcdefghijklmnopqrstuvwxyz"
def letB (c : Nat) : Bool := !(Builtin.Str.occurrences LET ⟨#[c]⟩ 0 LET.length 1).isEmpty
def RSV : List V := [.str "full", .str "same", .str "like", .str "isempty", .str "isfull", .str "yes", .str "no"]
def nameS (z : Str) : Bool := (decide (1 ≤ z.length) && decide (z.length ≤ 6)) && (!inV (.str z) RSV && z.cps.toList.all letB)
def nameB : D → Bool
  | .str z => nameS z
  | _ => false
theorem u_name (h : okD0 (csL K) d = true) (hk : k (.bl (nameB d)) n) : phi_is_name K [d] p n k x := by
  refine ev_is_name ?_
  unfold den_is_name
  walk_at "d_go"
  rw [isCls_ty h (show "str" ∈ baseTys by decide)]
  cases d with
  | ty _ => cases h
  | ref _ => cases h
  | str z =>
    rw [show isTyB (.str z) "str" = true from rfl]
    have hk : k (.bl ((decide (1 ≤ z.length) && decide (z.length ≤ 6)) && (!inV (.str z) RSV && z.cps.toList.all letB))) n := hk
    by_cases h1 : 1 ≤ z.length
    · by_cases h2 : z.length ≤ 6
      · rw [decide_eq_true h1, decide_eq_true h2] at hk
        walk_at "dr"
        rw [show inV (V.str z) [V.str "full", V.str "same", V.str "like", V.str "isempty", V.str "isfull", V.str "yes", V.str "no"] = inV (.str z) RSV from rfl]
        cases e : inV (.str z) RSV with
        | true =>
          rw [e] at hk
          exact hk
        | false =>
          rw [e] at hk
          walk_at "dr"
          refine lc_ind (fun ds acc s => ∃ (l1 l2 : List Nat), ds = l2.map (fun c => D.str ⟨#[c]⟩) ∧ acc = (l1.map letB).map D.bl ∧ z.cps.toList = l1 ++ l2 ∧ s = DL.S.mk [some (.val (.str z)), none] p n) ?_ ?_ ⟨[], z.cps.toList, rfl, rfl, rfl, rfl⟩
          · rintro d r acc s ⟨l1, l2, e1, rfl, e3, rfl⟩ ih
            cases l2 with
            | nil => cases e1
            | cons c l2 =>
              cases e1
              walk_at "dr"
              refine ih _ _ ⟨l1 ++ [c], l2, rfl, ?_, by rw [e3]; simp, rfl⟩
              rw [List.map_append, List.map_append]
              rfl
          · rintro acc s ⟨l1, l2, e1, rfl, e3, rfl⟩
            cases l2 with
            | cons => cases e1
            | nil =>
              rw [List.append_nil] at e3
              walk_at "dr"
              rw [blsOf_map]
              rw [e3] at hk
              have e4 : (l1.map letB).all id = l1.all letB := by rw [List.all_map]; rfl
              dsimp only
              rw [e4]
              exact hk
      · rw [decide_eq_false h2, Bool.and_false, Bool.false_and] at hk
        walk_at "dr"
        exact hk
    · rw [decide_eq_false h1, Bool.false_and, Bool.false_and] at hk
      walk_at "dr"
      exact hk
  | _ => exact hk
end
/-! what rings refuse, told by data -/
theorem pl_ok {cs : List Addr} {d : D} (h : pl d = true) : okD0 cs d = true := by
  cases d with
  | obj _ _ => cases h
  | ty _ => cases h
  | ref _ => cases h
  | _ => rfl
/-- the first of these that is no name, or one told already -/
def dnG : List D → List Str → Option Nat
  | [], _ => none
  | .str z :: r, seen => if (nameS z && !inS z seen) = true then dnG r (seen ++ [z]) else some seen.length
  | _ :: _, seen => some seen.length
section
variable {K : PySem.W.Frag} {p : Addr} {n : Nat} {k : D → Nat → Prop} {x : Value → List (Str × D) → Nat → Prop} {d : D} {w v : Int}
abbrev BR (K : PySem.W.Frag) : Value := .ref (He.ga K "BadRing")
theorem u_distinct {t : Str} {ds : List D} (h : pl (.tup ds) = true) (hk : match dnG ds [] with
    | none => k .non n
    | some at_ => x (BR K) [("at", .int (at_ : Nat)), ("part", .str t)] n) : phi_need_distinct_names K [.str t, .tup ds] p n k x := by
  refine ev_need_distinct_names ?_
  unfold den_need_distinct_names
  walk_at "dr"
  obtain ⟨h1, h2⟩ := pl_tup h
  rw [enu0]
  refine loop_ind (fun es s => ∃ (seen : List Str) (r : List D) (c2 c3 : Option LV), ds = seen.map D.str ++ r ∧ es = enu seen.length r ∧ (match dnG r seen with
    | none => k .non n
    | some at_ => x (BR K) [("at", .int (at_ : Nat)), ("part", .str t)] n) ∧ pls r = true ∧ s = DL.S.mk [some (.val (.str t)), some (.val (.tup ds)), c2, c3] p n) ?_ ?_ ⟨[], ds, none, none, rfl, rfl, hk, h1, rfl⟩
  · rintro e es s ⟨seen, r, c2, c3, e1, e2, hk, hr, rfl⟩ ih
    cases r with
    | nil => cases e2
    | cons d r =>
      cases e2
      obtain ⟨hd, hr⟩ := pls_cons hr
      walk_at "dr"
      refine u_name (pl_ok hd) ?_
      have bad : ∀ {Z : Prop}, nameB d = false → (match dnG (d :: r) seen with
          | none => k .non n
          | some at_ => x (BR K) [("at", .int (at_ : Nat)), ("part", .str t)] n) → x (BR K) [("at", .int (seen.length : Nat)), ("part", .str t)] n := fun hn hk => by
        cases d with
        | str z =>
          have hn : nameS z = false := hn
          unfold dnG at hk
          rw [hn, Bool.false_and, if_neg Bool.false_ne_true] at hk
          exact hk
        | _ => exact hk
      cases hn : nameB d with
      | false =>
        have := bad (Z := True) hn hk
        walk_at "dr"
        exact this
      | true =>
        cases d with
        | str z =>
          have hn : nameS z = true := hn
          unfold dnG at hk
          rw [hn, Bool.true_and] at hk
          walk_at "dr"
          have ec : cutD ds none (some (seen.length : Int)) = seen.map D.str := by rw [DL.cut_to (by omega), e1, Int.toNat_natCast, List.take_left' (by simp)]
          rw [ec, vOfs_str]
          dsimp only
          rw [show inV (V.str z) (List.map V.str seen) = inS z seen from rfl]
          cases hs : inS z seen with
          | true =>
            rw [hs] at hk
            exact ⟨rfl, hk⟩
          | false =>
            rw [hs] at hk
            refine ih _ ⟨seen ++ [z], r, _, _, ?_, ?_, hk, hr, rfl⟩
            · rw [e1, List.map_append, List.append_assoc]
              rfl
            · rw [List.length_append]
              rfl
        | _ => cases hn
  · rintro s ⟨seen, r, c2, c3, e1, e2, hk, hr, rfl⟩
    cases r with
    | nil => exact hk
    | cons => cases e2
def coversL : D → Option (List D)
  | .tup ds => some ds
  | .lst ds => some ds
  | _ => none
/-- the names of the checks, or the first row that is none -/
def rowN : D → Option Str
  | .tup l => if l.length = 2 then l.head?.bind strOf else none
  | _ => none
def ckG (zs : List Str) : List D → List Str → Nat ⊕ List Str
  | [], found => .inr found
  | d :: r, found => match rowN d with
    | some a => if (nameS a && (!inS a zs && !inS a found)) = true then ckG zs r (found ++ [a]) else .inl found.length
    | none => .inl found.length
def chk (zs : List Str) (d : D) : Nat ⊕ List Str := match coversL d with
  | some ds => if 1 ≤ ds.length ∧ ds.length ≤ 3 then ckG zs ds [] else .inl 0
  | none => .inl 0
theorem isClss2 {cs : List Addr} {d : D} (h : okD0 cs d = true) : isClss cs d [.ty "list", .ty "tuple"] = some (isTyB d "list" || isTyB d "tuple") := by
  simp only [isClss, isCls_ty h (show "list" ∈ baseTys by decide), isCls_ty h (show "tuple" ∈ baseTys by decide), Bool.or_false]
theorem u_checks {zs : List Str} (h : pl d = true) (hk : match chk zs d with
    | .inr found => k (.lst (found.map D.str)) n
    | .inl at_ => x (BR K) [("at", .int (at_ : Nat)), ("part", .str "covers")] n) : phi_need_checks K [.tup (zs.map D.str), d] p n k x := by
  refine ev_need_checks ?_
  unfold den_need_checks
  have no : coversL d = none → x (BR K) [("at", .int 0), ("part", .str "covers")] n := fun e => by
    unfold chk at hk
    rw [e] at hk
    exact hk
  walk_at "dr"
  rw [isClss2 (pl_ok h)]
  by_cases hs : coversL d = none
  · have := no hs
    cases d with
    | tup ds => cases hs
    | lst ds => cases hs
    | obj _ _ => cases h
    | ty _ => cases h
    | ref _ => cases h
    | _ => exact ⟨rfl, this⟩
  obtain ⟨ds, hd⟩ : ∃ ds, d = .tup ds ∨ d = .lst ds := by
    cases d with
    | tup ds => exact ⟨ds, .inl rfl⟩
    | lst ds => exact ⟨ds, .inr rfl⟩
    | _ => exact absurd rfl hs
  have hr : pls ds = true := by
    rcases hd with rfl | rfl
    · exact (pl_tup h).1
    · exact (pl_lst h).1
  have hk2 : match (if 1 ≤ ds.length ∧ ds.length ≤ 3 then ckG zs ds [] else .inl 0) with
    | .inr found => k (.lst (found.map D.str)) n
    | .inl at_ => x (BR K) [("at", .int (at_ : Nat)), ("part", .str "covers")] n := by
    rcases hd with rfl | rfl <;> exact hk
  clear hk no
  by_cases hl : 1 ≤ ds.length ∧ ds.length ≤ 3
  · rw [if_pos hl] at hk2
    obtain ⟨hl1, hl2⟩ := hl
    rcases hd with rfl | rfl
    all_goals
      rw [show (isTyB _ "list" || isTyB _ "tuple") = true from rfl]
      walk_at "dr"
      rw [enu0]
      refine loop_ind (fun es s => ∃ (found : List Str) (r : List D) (c3 c4 : Option LV), es = enu found.length r ∧ pls r = true ∧ found.length + r.length ≤ 3 ∧ (match ckG zs r found with
        | .inr found => k (.lst (found.map D.str)) n
        | .inl at_ => x (BR K) [("at", .int (at_ : Nat)), ("part", .str "covers")] n) ∧ s = DL.S.mk [some (.val (.tup (zs.map D.str))), some (.val _), some (.own true (.lst (found.map D.str))), c3, c4] p n) ?_ ?_ ⟨[], ds, none, none, rfl, hr, by simpa using hl2, hk2, rfl⟩
      · rintro e es s ⟨found, r, c3, c4, e2, hr, hf, hk, rfl⟩ ih
        cases r with
        | nil => cases e2
        | cons d r =>
          cases e2
          obtain ⟨hd, hr⟩ := pls_cons hr
          rw [List.length_cons] at hf
          by_cases ht : ∃ a b, d = .tup [a, b]
          · obtain ⟨a, b, rfl⟩ := ht
            obtain ⟨ha, hb⟩ := pl_two hd
            walk_at "dr"
            rw [isCls_ty (pl_ok hd) (show "tuple" ∈ baseTys by decide), show isTyB (.tup [a, b]) "tuple" = true from rfl]
            walk_at "dr"
            refine u_name (pl_ok ha) ?_
            unfold ckG at hk
            rw [show rowN (.tup [a, b]) = strOf a from rfl] at hk
            cases hn : nameB a with
            | false =>
              have hk : x (BR K) [("at", .int (found.length : Nat)), ("part", .str "covers")] n := by
                cases a with
                | str z =>
                  rw [show strOf (.str z) = some z from rfl] at hk
                  dsimp only at hk
                  rw [show nameS z = false from hn, Bool.false_and, if_neg Bool.false_ne_true] at hk
                  exact hk
                | _ => exact hk
              walk_at "dr"
              exact hk
            | true =>
              cases a with
              | str z =>
                rw [show strOf (.str z) = some z from rfl] at hk
                dsimp only at hk
                rw [show nameS z = true from hn, Bool.true_and] at hk
                walk_at "dr"
                rw [vOfs_str, vOfs_str]
                dsimp only
                rw [show inV (V.str z) (List.map V.str zs) = inS z zs from rfl, show inV (V.str z) (found.map V.str) = inS z found from rfl]
                cases q1 : inS z zs with
                | true =>
                  rw [q1] at hk
                  exact ⟨rfl, hk⟩
                | false =>
                  rw [q1] at hk
                  walk_at "dr"
                  cases q2 : inS z found with
                  | true =>
                    rw [q2] at hk
                    exact ⟨rfl, hk⟩
                  | false =>
                    rw [q2] at hk
                    walk_at "dr"
                    refine ih _ ⟨found ++ [z], r, some (.val (.int (found.length : Nat))), some (.val (.tup [.str z, b])), ?_, (pls_cons hr).2, ?_, hk, ?_⟩
                    · rw [List.length_append]
                      rfl
                    · rw [List.length_append, List.length_singleton]
                      omega
                    · rw [List.map_append]
                      rfl
              | _ => cases hn
          · have hl : ∀ l, d = .tup l → l.length ≠ 2 := fun l e q => by
              obtain ⟨a, b, rfl⟩ := lenD2 q
              exact ht ⟨a, b, e⟩
            have bad : ckG zs (d :: r) found = .inl found.length := by
              have : rowN d = none := by
                cases d with
                | tup l => exact if_neg (hl l rfl)
                | _ => rfl
              unfold ckG
              rw [this]
            rw [bad] at hk
            have hk : x (BR K) [("at", .int (found.length : Nat)), ("part", .str "covers")] n := hk
            walk_at "dr"
            rw [isCls_ty (pl_ok hd) (show "tuple" ∈ baseTys by decide)]
            cases d with
            | tup l =>
              have hl := hl l rfl
              rw [show isTyB (.tup l) "tuple" = true from rfl]
              walk_at "dr"
              exact hk
            | obj _ _ => cases hd
            | ty _ => cases hd
            | ref _ => cases hd
            | _ => exact ⟨rfl, hk⟩
      · rintro s ⟨found, r, c3, c4, e2, hr, hf, hk, rfl⟩
        cases r with
        | nil =>
          walk_at "dr"
          exact hk
        | cons => cases e2
  · rw [if_neg hl] at hk2
    have hx : x (BR K) [("at", .int 0), ("part", .str "covers")] n := hk2
    by_cases h1 : 1 ≤ ds.length
    · rcases hd with rfl | rfl
      all_goals
        rw [show (isTyB _ "list" || isTyB _ "tuple") = true from rfl]
        walk_at "dr"
        exact hx
    · rcases hd with rfl | rfl
      all_goals
        rw [show (isTyB _ "list" || isTyB _ "tuple") = true from rfl]
        walk_at "dr"
        exact hx
end
def isRow : D → Bool
  | .tup [_, b] => btwD b 1 9
  | _ => false
def row0 : D → D
  | .tup (a :: _) => a
  | _ => .non
def row1 : D → D
  | .tup (_ :: b :: _) => b
  | _ => .non
def isNm (zs : List Str) : D → Bool
  | .str z => inS z zs
  | _ => false
def dist (ds : List D) : Bool := match strsOf ds with
  | some zs => decide ((SSn.cn zs zs.length : Int) = (ds.length : Nat))
  | none => false
def coverB (zs : List Str) : D → Bool
  | .tup ds => !ds.isEmpty && (ds.all isRow && ((ds.map row0).all (isNm zs) && dist (ds.map row0)))
  | _ => false
theorem isNm_strs {zs : List Str} : ∀ {ds : List D}, ds.all (isNm zs) = true → ∃ ys, strsOf ds = some ys ∧ ys.length = ds.length
  | [], _ => ⟨[], rfl, rfl⟩
  | d :: r, h => by
    obtain ⟨h1, h2⟩ := Bool.and_eq_true_iff.mp (show (isNm zs d && r.all (isNm zs)) = true from h)
    obtain ⟨ys, e1, e2⟩ := isNm_strs h2
    cases d with
    | str z => exact ⟨z :: ys, by show (match strsOf r with | some l => some (z :: l) | none => none) = _; rw [e1], congrArg Nat.succ e2⟩
    | _ => cases h1
theorem pls_row0 : ∀ {ds : List D}, pls ds = true → ds.all isRow = true → pls (ds.map row0) = true
  | [], _, _ => rfl
  | d :: r, h, q => by
    obtain ⟨h1, h2⟩ := pls_cons h
    obtain ⟨q1, q2⟩ := Bool.and_eq_true_iff.mp (show (isRow d && r.all isRow) = true from q)
    refine Bool.and_eq_true_iff.mpr ⟨?_, pls_row0 h2 q2⟩
    cases d with
    | tup l =>
      match l with
      | [a, b] => exact (pl_two h1).1
    | _ => cases q1
section
variable {K : PySem.W.Frag} {p : Addr} {n : Nat} {k : D → Nat → Prop} {x : Value → List (Str × D) → Nat → Prop} {d : D} {w v : Int}
theorem u_cover {zs : List Str} (h : pl d = true) (hk : k (.bl (coverB zs d)) n) : phi_is_cover K [d, .lst (zs.map D.str)] p n k x := by
  refine ev_is_cover ?_
  unfold den_is_cover
  walk_at "dr"
  rw [isCls_ty (pl_ok h) (show "tuple" ∈ baseTys by decide)]
  cases d with
  | obj _ _ => cases h
  | ty _ => cases h
  | ref _ => cases h
  | tup ds =>
    rw [show isTyB (.tup ds) "tuple" = true from rfl]
    obtain ⟨hp, hl⟩ := pl_tup h
    cases ds with
    | nil =>
      walk_at "dr"
      exact hk
    | cons d ds =>
      walk_at "dr"
      refine lc_map (i := 3) (fun d => .bl (isRow d)) (fun e he K' hK => ?_) ?_
      · have pe := pls_mem hp he
        walk_at "dr"
        rw [isCls_ty (pl_ok pe) (show "tuple" ∈ baseTys by decide)]
        by_cases ht : ∃ a b, e = .tup [a, b]
        · obtain ⟨a, b, rfl⟩ := ht
          rw [show isTyB (.tup [a, b]) "tuple" = true from rfl]
          walk_at "dr"
          refine u_btw (pl_ok (pl_two pe).2) ?_
          exact hK
        · have hl : ∀ l, e = .tup l → l.length ≠ 2 := fun l e1 q => by
            obtain ⟨a, b, rfl⟩ := lenD2 q
            exact ht ⟨a, b, e1⟩
          have hF : isRow e = false := by
            cases e with
            | tup l =>
              match l with
              | [] => rfl
              | [_] => rfl
              | [a, b] => exact absurd ⟨a, b, rfl⟩ ht
              | _ :: _ :: _ :: _ => rfl
            | _ => rfl
          rw [hF] at hK
          cases e with
          | tup l =>
            have hl := hl l rfl
            rw [show isTyB (.tup l) "tuple" = true from rfl]
            dsimp only
            rw [if_pos rfl, if_neg (by rw [decide_eq_true_iff]; omega)]
            rw [decide_eq_false (by omega)]
            exact hK
          | obj _ _ => cases pe
          | ty _ => cases pe
          | ref _ => cases pe
          | _ => exact hK
      · walk_at "dr"
        rw [blsOf_map2]
        dsimp only
        rw [all_id]
        have hk : k (.bl ((d :: ds).all isRow && (((d :: ds).map row0).all (isNm zs) && dist ((d :: ds).map row0)))) n := hk
        cases h1 : (d :: ds).all isRow with
        | false =>
          rw [h1] at hk
          exact hk
        | true =>
          rw [h1] at hk
          walk_at "dr"
          refine lc_map (i := 3) row0 (fun e he K' hK => ?_) ?_
          · have q := List.all_eq_true.mp h1 e he
            cases e with
            | tup l =>
              match l with
              | [a, b] =>
                walk_at "dr"
                exact hK
            | _ => cases q
          · have hpl : pls ((d :: ds).map row0) = true := pls_row0 hp h1
            have hl0 : ((d :: ds).map row0).length < 50 := by rw [List.length_map]; exact hl
            generalize (d :: ds).map row0 = rs at hk hpl hl0
            walk_at "dr"
            refine lc_map (i := 4) (fun d => .bl (isNm zs d)) (fun e he K' hK => ?_) ?_
            · have pe := pls_mem hpl he
              walk_at "dr"
              rw [isCls_ty (pl_ok pe) (show "str" ∈ baseTys by decide)]
              cases e with
              | str z =>
                rw [show isTyB (.str z) "str" = true from rfl]
                walk_at "dr"
                rw [vOfs_str]
                exact hK
              | obj _ _ => cases pe
              | ty _ => cases pe
              | ref _ => cases pe
              | _ => exact hK
            · walk_at "dr"
              rw [blsOf_map2]
              dsimp only
              rw [all_id]
              cases h2 : rs.all (isNm zs) with
              | false =>
                rw [h2] at hk
                exact hk
              | true =>
                rw [h2] at hk
                obtain ⟨ys, e1, e2⟩ := isNm_strs h2
                have hk : k (.bl (dist rs)) n := hk
                unfold dist at hk
                walk_at "dr"
                rw [e1] at hk ⊢
                exact ⟨by omega, hk⟩
  | _ => exact hk
end
def fbC (zs : List Str) : List D → Nat → Option Nat
  | [], _ => none
  | d :: r, j => if coverB zs (row1 d) = true then fbC zs r (j + 1) else some j
def sumG (cs : List Str) : List D → List Str → Option Nat
  | [], _ => none
  | .str z :: r, seen => if (inS z cs && !inS z seen) = true then sumG cs r (seen ++ [z]) else some seen.length
  | _ :: _, seen => some seen.length
def sumE (cs : List Str) : D → Option Nat
  | .tup ds => sumG cs ds []
  | _ => some 0
def contE : D → Nat ⊕ List Str
  | .tup ds => if ds.isEmpty = true then .inl 0 else match dnG ds [] with
    | some at_ => .inl at_
    | none => .inr (ds.filterMap strOf)
  | _ => .inl 0
def rowsL (d : D) : List D := match coversL d with
  | some ds => ds
  | none => []
/-- which part is told, and where -/
def ringE (c v f : D) : Option (Str × Nat) := match contE c with
  | .inl at_ => some ("contents", at_)
  | .inr zs => match chk zs v with
    | .inl at_ => some ("covers", at_)
    | .inr cs => if 5 < zs.length + cs.length then some ("names", zs.length + cs.length) else match fbC (zs ++ cs) (rowsL v) 0 with
      | some at_ => some ("total", at_)
      | none => match sumE cs f with
        | some at_ => some ("summed", at_)
        | none => none
theorem dnG_strs : ∀ {ds : List D} {seen : List Str}, dnG ds seen = none → ds = (ds.filterMap strOf).map D.str
  | [], _, _ => rfl
  | d :: r, seen, h => by
    cases d with
    | str z =>
      unfold dnG at h
      split at h
      · have := dnG_strs h
        rw [List.filterMap_cons_some (show strOf (.str z) = some z from rfl), List.map_cons, ← this]
      · cases h
    | _ => cases h
def nm0 (d : D) : Str := match rowN d with
  | some z => z
  | none => ""
theorem ckG_rows {zs : List Str} : ∀ {ds : List D} {found fs : List Str}, ckG zs ds found = .inr fs → (∀ d ∈ ds, ∃ z b, d = .tup [.str z, b]) ∧ fs = found ++ ds.map nm0
  | [], found, fs, h => by
    have e : found = fs := Sum.inr.inj h
    exact ⟨fun d hd => (by cases hd), by rw [e, List.map_nil, List.append_nil]⟩
  | d :: r, found, fs, h => by
    unfold ckG at h
    cases e : rowN d with
    | none =>
      rw [e] at h
      cases h
    | some a =>
      rw [e] at h
      dsimp only at h
      have hd : ∃ b, d = .tup [.str a, b] := by
        cases d with
        | tup l =>
          match l with
          | [c, b] =>
            cases c with
            | str z =>
              have : z = a := Option.some.inj e
              subst this
              exact ⟨b, rfl⟩
            | _ => cases e
          | [] => cases e
          | [_] => cases e
          | _ :: _ :: _ :: _ =>
            simp [rowN] at e
        | _ => cases e
      split at h
      · obtain ⟨h1, h2⟩ := ckG_rows h
        obtain ⟨b, hb⟩ := hd
        refine ⟨fun d' hd' => ?_, ?_⟩
        · rcases List.mem_cons.mp hd' with rfl | m
          · exact ⟨a, b, hb⟩
          · exact h1 d' m
        · rw [h2, List.map_cons, List.append_assoc]
          unfold nm0
          rw [e]
          rfl
      · cases h
theorem chk_rows {zs fs : List Str} {d : D} (h : chk zs d = .inr fs) : (∃ ds, (d = .tup ds ∨ d = .lst ds) ∧ rowsL d = ds) ∧ (∀ d' ∈ rowsL d, ∃ z b, d' = .tup [.str z, b]) ∧ fs = (rowsL d).map nm0 := by
  unfold chk at h
  cases e : coversL d with
  | none =>
    rw [e] at h
    cases h
  | some ds =>
    rw [e] at h
    have er : rowsL d = ds := by unfold rowsL; rw [e]
    dsimp only at h
    split at h
    · obtain ⟨h1, h2⟩ := ckG_rows h
      rw [er]
      refine ⟨⟨ds, ?_, rfl⟩, h1, h2⟩
      cases d with
      | tup l => cases e; exact .inl rfl
      | lst l => cases e; exact .inr rfl
      | _ => cases e
    · cases h
section
variable {K : PySem.W.Frag} {p : Addr} {n : Nat} {k : D → Nat → Prop} {x : Value → List (Str × D) → Nat → Prop} {d : D} {w v : Int}
theorem u_parts {c v f : D} (hc : pl c = true) (hv : pl v = true) (hf : pl f = true) (hk : match ringE c v f with
    | none => k .non n
    | some e => x (BR K) [("at", .int (e.2 : Nat)), ("part", .str e.1)] n) : phi_need_parts K [c, v, f] p n k x := by
  refine ev_need_parts ?_
  unfold den_need_parts
  walk_at "dr"
  rw [isCls_ty (pl_ok hc) (show "tuple" ∈ baseTys by decide)]
  by_cases ht : ∃ ds, c = .tup ds
  rotate_left
  · have hk : x (BR K) [("at", .int 0), ("part", .str "contents")] n := by
      cases c with
      | tup ds => exact absurd ⟨ds, rfl⟩ ht
      | _ => exact hk
    cases c with
    | tup ds => exact absurd ⟨ds, rfl⟩ ht
    | obj _ _ => cases hc
    | ty _ => cases hc
    | ref _ => cases hc
    | _ => exact ⟨rfl, hk⟩
  obtain ⟨ds, rfl⟩ := ht
  rw [show isTyB (.tup ds) "tuple" = true from rfl]
  obtain ⟨hp, hl⟩ := pl_tup hc
  cases e0 : ds.isEmpty with
  | true =>
    have : ds = [] := List.isEmpty_iff.mp e0
    subst this
    walk_at "dr"
    exact hk
  | false =>
    unfold ringE contE at hk
    dsimp only at hk
    rw [e0, if_neg Bool.false_ne_true] at hk
    walk_at "dr"
    rw [e0]
    walk_at "dr"
    refine u_distinct hc ?_
    cases e1 : dnG ds [] with
    | some at_ =>
      rw [e1] at hk
      exact hk
    | none =>
      rw [e1] at hk
      have ez := dnG_strs e1
      generalize ds.filterMap strOf = zs at ez hk
      subst ez
      dsimp only at hk ⊢
      walk_at "dr"
      refine u_checks hv ?_
      cases e2 : chk zs v with
      | inl at_ =>
        rw [e2] at hk
        exact hk
      | inr cs =>
        rw [e2] at hk
        obtain ⟨⟨rs, er, er2⟩, hrow, hcs⟩ := chk_rows e2
        rw [er2] at hk hrow hcs
        dsimp only at hk
        rw [List.length_map] at hl
        have hrl : rs.length < 50 := by
          rcases er with rfl | rfl
          · exact (pl_tup hv).2
          · exact (pl_lst hv).2
        have hrp : pls rs = true := by
          rcases er with rfl | rfl
          · exact (pl_tup hv).1
          · exact (pl_lst hv).1
        have hcl : cs.length < 50 := by rw [hcs, List.length_map]; exact hrl
        walk_at "dr"
        rw [← List.map_append, List.length_map, List.length_append]
        by_cases h5 : 5 < zs.length + cs.length
        · rw [if_pos h5] at hk
          walk_at "dr"
          exact hk
        · rw [if_neg h5] at hk
          have st : ∀ (c5 c6 c7 : Option LV), (match sumE cs f with
              | none => k .non n
              | some at_ => x (BR K) [("at", .int (at_ : Nat)), ("part", .str "summed")] n) →
              (dSeq (dIfS (dNotT (dTru (dCB (bIsi (csL K)) (dCons (dVar 2) (dCons (dC (D.ty "tuple")) dNil)))))
                (dRaise (He.ga K "BadRing") ["part", "at"] (dCons (dC (D.str "summed")) (dCons (dC (D.int 0)) dNil))) dNext)
              (dFor (iEnA (dCons (dVar 2) dNil)) (gTuN 2 (gCo (gNm 5) (gCo (gNm 7) gNo)))
                (dIfS (dOrT (dNotT (dTru (dCB (bIsi (csL K)) (dCons (dVar 7) (dCons (dC (D.ty "str")) dNil)))))
                    (dOrT (dTst (dBin (oIn true) (dVar 7) (dVar 3))) (dTst (dBin (oIn false) (dVar 7) (dSlc (dVar 2) oNo (oSo (dVar 5)))))))
                  (dRaise (He.ga K "BadRing") ["part", "at"] (dCons (dC (D.str "summed")) (dCons (dVar 5) dNil))) dNext)))
              (DL.S.mk [some (.val (.tup (zs.map D.str))), some (.val v), some (.val f), some (.val (.lst (cs.map D.str))), some (.val (.lst ((zs ++ cs).map D.str))), c5, c6, c7] p n)
              { nx := fun s => k D.non s.n, rt := fun d s => k d s.n, bk := fun x => False, ct := fun x => False, ex := fun c fs s => x c fs s.n } := fun c5 c6 c7 hk => by
            walk_at "dr"
            rw [isCls_ty (pl_ok hf) (show "tuple" ∈ baseTys by decide)]
            cases f with
            | obj _ _ => cases hf
            | ty _ => cases hf
            | ref _ => cases hf
            | tup fs =>
              rw [show isTyB (.tup fs) "tuple" = true from rfl]
              obtain ⟨hp2, hl2⟩ := pl_tup hf
              walk_at "dr"
              rw [enu0]
              unfold sumE at hk
              dsimp only at hk
              refine loop_ind (fun es s => ∃ (seen : List Str) (r : List D) (c5 c7 : Option LV), fs = seen.map D.str ++ r ∧ es = enu seen.length r ∧ pls r = true ∧ (match sumG cs r seen with
                | none => k .non n
                | some at_ => x (BR K) [("at", .int (at_ : Nat)), ("part", .str "summed")] n) ∧ s = DL.S.mk [some (.val (.tup (zs.map D.str))), some (.val v), some (.val (.tup fs)), some (.val (.lst (cs.map D.str))), some (.val (.lst ((zs ++ cs).map D.str))), c5, c6, c7] p n) ?_ ?_ ⟨[], fs, _, _, rfl, rfl, hp2, hk, rfl⟩
              · rintro e es s ⟨seen, r, c5, c7, e1, e2, hr, hk, rfl⟩ ih
                cases r with
                | nil => cases e2
                | cons d r =>
                  cases e2
                  obtain ⟨hd, hr⟩ := pls_cons hr
                  walk_at "dr"
                  rw [isCls_ty (pl_ok hd) (show "str" ∈ baseTys by decide)]
                  cases d with
                  | str z =>
                    rw [show isTyB (.str z) "str" = true from rfl]
                    unfold sumG at hk
                    walk_at "dr"
                    rw [vOfs_str]
                    dsimp only
                    rw [show inV (V.str z) (List.map V.str cs) = inS z cs from rfl]
                    cases q1 : inS z cs with
                    | false =>
                      rw [q1] at hk
                      exact ⟨rfl, hk⟩
                    | true =>
                      rw [q1] at hk
                      walk_at "dr"
                      have ec : cutD fs none (some (seen.length : Int)) = seen.map D.str := by rw [DL.cut_to (by omega), e1, Int.toNat_natCast, List.take_left' (by simp)]
                      rw [ec, vOfs_str]
                      dsimp only
                      rw [show inV (V.str z) (List.map V.str seen) = inS z seen from rfl]
                      cases q2 : inS z seen with
                      | true =>
                        rw [q2] at hk
                        exact ⟨rfl, hk⟩
                      | false =>
                        rw [q2] at hk
                        walk_at "dr"
                        refine ih _ ⟨seen ++ [z], r, some (.val (.int (seen.length : Nat))), some (.val (.str z)), ?_, ?_, (pls_cons ‹pls (D.str z :: r) = true›).2, hk, rfl⟩
                        · rw [e1, List.map_append, List.append_assoc]
                          rfl
                        · rw [List.length_append]
                          rfl
                  | obj _ _ => cases hd
                  | ty _ => cases hd
                  | ref _ => cases hd
                  | _ => exact ⟨rfl, hk⟩
              · rintro s ⟨seen, r, c5, c7, e1, e2, hr, hk, rfl⟩
                cases r with
                | nil => exact hk
                | cons => cases e2
            | _ => exact ⟨rfl, hk⟩
          have hk2 : match fbC (zs ++ cs) rs 0 with
              | some at_ => x (BR K) [("at", .int (at_ : Nat)), ("part", .str "total")] n
              | none => match sumE cs f with
                | none => k .non n
                | some at_ => x (BR K) [("at", .int (at_ : Nat)), ("part", .str "summed")] n := by
            split <;> rename_i q
            · rw [q] at hk
              exact hk
            · rw [q] at hk
              dsimp only at hk
              split <;> rename_i q2
              · rw [q2] at hk
                exact hk
              · rw [q2] at hk
                exact hk
          clear hk
          walk_at "dr"
          have lp : ∀ nx : S → Prop, (∀ c5 c6 c7, (match sumE cs f with
                | none => k .non n
                | some at_ => x (BR K) [("at", .int (at_ : Nat)), ("part", .str "summed")] n) → nx (DL.S.mk [some (.val (.tup (zs.map D.str))), some (.val v), some (.val f), some (.val (.lst (cs.map D.str))), some (.val (.lst ((zs ++ cs).map D.str))), c5, c6, c7] p n)) →
              loopD (gTuN 2 (gCo (gNm 5) (gCo (gNm 6) gNo))) (dIfS (dNotT (dTru (dCall (phi_is_cover K) (dCons (dBin oIx (dVar 6) (dC (D.int 1))) (dCons (dVar 4) dNil)))))
                (dRaise (He.ga K "BadRing") ["part", "at"] (dCons (dC (D.str "total")) (dCons (dVar 5) dNil))) dNext)
                { nx := nx, rt := fun d s => k d s.n, bk := fun x => False, ct := fun x => False, ex := fun c fs s => x c fs s.n } (enu 0 rs)
                (DL.S.mk [some (.val (.tup (zs.map D.str))), some (.val v), some (.val f), some (.val (.lst (cs.map D.str))), some (.val (.lst ((zs ++ cs).map D.str))), none, none, none] p n) := fun nx hn => by
            refine loop_ind (fun es s => ∃ (j : Nat) (r : List D) (c5 c6 : Option LV), es = enu j r ∧ pls r = true ∧ (∀ d' ∈ r, ∃ z b, d' = D.tup [.str z, b]) ∧ (match fbC (zs ++ cs) r j with
              | some at_ => x (BR K) [("at", .int (at_ : Nat)), ("part", .str "total")] n
              | none => match sumE cs f with
                | none => k .non n
                | some at_ => x (BR K) [("at", .int (at_ : Nat)), ("part", .str "summed")] n) ∧ s = DL.S.mk [some (.val (.tup (zs.map D.str))), some (.val v), some (.val f), some (.val (.lst (cs.map D.str))), some (.val (.lst ((zs ++ cs).map D.str))), c5, c6, none] p n) ?_ ?_ ⟨0, rs, _, _, rfl, hrp, hrow, hk2, rfl⟩
            · rintro e es s ⟨j, r, c5, c6, e2, hr, hw, hk, rfl⟩ ih
              cases r with
              | nil => cases e2
              | cons d r =>
                cases e2
                obtain ⟨hd, hr'⟩ := pls_cons hr
                obtain ⟨z, b, rfl⟩ := hw d (List.mem_cons_self ..)
                walk_at "dr"
                refine u_cover (pl_two hd).2 ?_
                unfold fbC at hk
                rw [show row1 (D.tup [.str z, b]) = b from rfl] at hk
                cases q : coverB (zs ++ cs) b with
                | true =>
                  rw [q] at hk
                  walk_at "dr"
                  exact ih _ ⟨j + 1, r, some (.val (.int (j : Nat))), some (.val (.tup [.str z, b])), rfl, hr', fun d' hd' => hw d' (List.mem_cons_of_mem _ hd'), hk, rfl⟩
                | false =>
                  rw [q] at hk
                  walk_at "dr"
                  exact hk
            · rintro s ⟨j, r, c5, c6, e2, hr, hw, hk, rfl⟩
              cases r with
              | nil => exact hn _ _ _ hk
              | cons => cases e2
          rcases er with rfl | rfl
          all_goals
            walk_at "dr"
            rw [enu0]
            refine lp _ fun c5 c6 c7 hk => ?_
            exact st c5 c6 c7 hk
end
section
variable {K : PySem.W.Frag} {p : Addr} {n : Nat} {k : D → Nat → Prop} {x : Value → List (Str × D) → Nat → Prop} {d : D} {w v : Int}
theorem ringE_rows {c v f : D} (h : ringE c v f = none) : (∃ ds, (v = .tup ds ∨ v = .lst ds) ∧ rowsL v = ds) ∧ ∀ d' ∈ rowsL v, ∃ z b, d' = .tup [.str z, b] := by
  unfold ringE at h
  split at h
  · cases h
  · split at h
    · cases h
    · rename_i e
      obtain ⟨h1, h2, _⟩ := chk_rows e
      exact ⟨h1, h2⟩
theorem u_ring {c v f : D} {k : List (Str × D) → Nat → Prop} (hc : pl c = true) (hv : pl v = true) (hf : pl f = true) (hk : match ringE c v f with
    | none => ∀ fs, k fs n
    | some e => x (BR K) [("at", .int (e.2 : Nat)), ("part", .str e.1)] n) : phi_Ring_DinitD K [c, v, f] p n k x := by
  refine ev_Ring_DinitD ?_
  unfold den_Ring_DinitD
  walk_at "dr"
  refine u_parts hc hv hf ?_
  cases e : ringE c v f with
  | some e' =>
    rw [e] at hk
    exact hk
  | none =>
    rw [e] at hk
    obtain ⟨⟨rs, er, er2⟩, hrow⟩ := ringE_rows e
    rw [er2] at hrow
    dsimp only at hk
    walk_at "dr"
    rcases er with rfl | rfl
    all_goals
      walk_at "dr"
      refine lc_map (i := 4) row0 (fun e he K' hK => ?_) ?_
      · obtain ⟨z, b, rfl⟩ := hrow e he
        walk_at "dr"
        exact hK
      · walk_at "dr"
        exact hk _
theorem u_refused {c v f : D} (hc : pl c = true) (hv : pl v = true) (hf : pl f = true) (hk : match ringE c v f with
    | none => k .non n
    | some e => k (.tup [.str e.1, .int (e.2 : Nat)]) n) : phi__law_refused K [c, v, f] p n k x := by
  refine ev__law_refused ?_
  unfold den__law_refused
  walk_at "dr"
  refine u_ring hc hv hf ?_
  cases e : ringE c v f with
  | some e' =>
    rw [e] at hk
    refine hd_yes (List.mem_singleton_self _) ?_
    dsimp only [xIf, xIs, xTup, xCons, xF, xNil]
    refine ⟨_, List.mem_singleton_self _, rfl, ?_⟩
    rw [if_pos rfl]
    walk_at "dr"
    exact hk
  | none =>
    rw [e] at hk
    intro fs
    walk_at "dr"
    exact hk
end
section
variable {K : PySem.W.Frag} {p : Addr} {n : Nat} {k : D → Nat → Prop} {x : Value → List (Str × D) → Nat → Prop}
theorem u_draw {m : Int} (h0 : 0 < m) (h1 : m.natAbs.log2 < 9000) (hn : n ≠ 0) (hk : ∀ r, 0 ≤ r → r < m → k (.int r) (n - 1)) : phi__law_draw K [.ref p, .int m] p n k x := ⟨rfl, h0, h1, hn, hk⟩
theorem at_all {xs : List D} {P : D → Prop} {r : Int} (h : ∀ x ∈ xs, P x) (r0 : 0 ≤ r) (r1 : r < xs.length) : ∃ d, atI xs r = some d ∧ P d := by
  unfold atI ixN
  rw [if_pos r0, if_pos r1]
  have hl : r.toNat < xs.length := by omega
  exact ⟨xs[r.toNat], List.getElem?_eq_getElem hl, h _ (List.getElem_mem hl)⟩
theorem u_drawS {m : Int} (h0 : 0 < m) (h1 : m < 2 ^ 64) (hn : n ≠ 0) (hk : ∀ r, 0 ≤ r → r < m → k (.int r) (n - 1)) : phi__law_draw K [.ref p, .int m] p n k x := u_draw h0 (log_small (by omega) h1) hn hk
end
/-! what the law draws -/
abbrev qs : D := .str "s"
abbrev qt : D := .str "t"
abbrev qc : D := .str "c"
abbrev qd : D := .str "d"
abbrev THG : List D := [.non, .str "", .str "S", .str "seven77", .int 0, .bl true, .tup [], .lst [qs], .tup [qs], .dic [], .str "yes", .str "s1", .int 1000000000000000000000000000000]
abbrev CV0 : D := .tup [.tup [qs, .int 1], .tup [qd, .int 9]]
abbrev CV1 : D := .tup [.tup [qc, .int 2], .tup [qt, .int 3], .tup [qs, .int 1]]
abbrev RW0 : D := .tup [qc, CV0]
abbrev RW1 : D := .tup [qd, CV1]
abbrev COV : D := .tup [RW0, RW1]
abbrev CON : D := .tup [qs, qt]
def LC : List (D × Nat) := [(.non, 0), (.lst [qs, qt], 0), (.tup [], 0), (.str "st", 0), (.dic [], 0), (.int 0, 0)] ++ (THG.map (fun d => (D.tup [d, qt], 0)) ++ (qs :: THG).map fun d => (D.tup [qs, d], 1))
def odV (cv : D) : List D := THG.map (fun d => .tup [d, cv]) ++ [.tup [qs, cv], qc, .non, .tup [qc], .lst [qc, cv], .tup [qc, cv, .int 1]]
def LVV : List (D × Nat) := [(.non, 0), (.tup [], 0), (.lst [], 0), (.dic [((.inr ("c" : Str)), .tup [.tup [qs, .int 1]])], 0), (qc, 0), (.tup [RW0, RW1, RW0, RW1, RW0, RW1, RW0, RW1], 0), (.int 0, 0)] ++
  ((odV CV0).map (fun d => (D.lst [d, RW1], 0)) ++ (D.tup [qc, CV1] :: odV CV1).map fun d => (D.lst [RW0, d], 1))
abbrev ROW : D := .tup [qs, .int 1]
abbrev odT : List D := [.tup [], .non, .lst [ROW], .tup [ROW, ROW], .tup [.tup [.str "z", .int 1]], .tup [.tup [qs, .int 0]], .tup [.tup [qs, .int 10]], .tup [.tup [qs, .bl true]], .tup [.tup [qs, .str "1"]],
  .tup [.tup [.lst [qs], .int 1]], .tup [ROW, .tup [.dic [], .int 1]], .tup [ROW, .lst [qt, .int 1]], .tup [ROW, .tup [qt]], .tup [ROW, .tup [qc, .int 1, .int 1]], .tup [.tup [qs, .int (0 - 1)]], qs, .tup [qs, .int 1], .tup [ROW, .non]]
def LT : List (D × Nat) := odT.map (fun d => (D.tup [.tup [qc, d], RW1], 0)) ++ odT.map fun d => (D.tup [RW0, .tup [qd, d]], 1)
def LF : List (D × Nat) := [(.non, 0), (.lst [qc], 0), (qc, 0), (.dic [], 0), (.int 0, 0), (.tup [qd, qc, qd], 2)] ++ [.non, qs, .str "z", .lst [qd], .int 0, .str "C"].map fun d => (D.tup [qc, d], 1)
theorem LC_ok : (LC.all fun e => pl e.1 && decide (contE e.1 = .inl e.2)) = true := by decide +kernel
theorem LVV_ok : (LVV.all fun e => pl e.1 && decide (chk ["s", "t"] e.1 = .inl e.2)) = true := by decide +kernel
theorem LT_ok : (LT.all fun e => pl e.1 && (decide (chk ["s", "t"] e.1 = .inr ["c", "d"]) && (decide (fbC ["s", "t", "c", "d"] (rowsL e.1) 0 = some e.2) && (decide (chk ["s", "t", "u", "v"] e.1 = .inr ["c", "d"]) && decide (chk ["s", "t", "u", "v", "w"] e.1 = .inr ["c", "d"]))))) = true := by decide +kernel
theorem LF_ok : (LF.all fun e => pl e.1 && decide (sumE ["c", "d"] e.1 = some e.2)) = true := by decide +kernel
theorem good_ok : contE CON = .inr ["s", "t"] ∧ chk ["s", "t"] COV = .inr ["c", "d"] ∧ fbC ["s", "t", "c", "d"] (rowsL COV) 0 = none ∧ sumE ["c", "d"] (.tup []) = none ∧ sumE ["c", "d"] (.tup [qd]) = none ∧ sumE ["c", "d"] (.tup [qd, qc]) = none := by decide +kernel
theorem many_ok : contE (.tup [qs, qt, .str "u", .str "v"]) = .inr ["s", "t", "u", "v"] ∧ contE (.tup [qs, qt, .str "u", .str "v", .str "w"]) = .inr ["s", "t", "u", "v", "w"] := by decide +kernel
theorem four_ok : ∀ f, ringE (.tup [qs]) (.tup [.tup [qc, .tup [ROW]], .tup [qd, .tup [ROW]], .tup [.str "e", .tup [ROW]], .tup [.str "f", .tup [ROW]]]) f = some (("covers" : Str), 0) := fun f => by
  have h1 : contE (.tup [qs]) = .inr ["s"] := by decide +kernel
  have h2 : chk ["s"] (.tup [.tup [qc, .tup [ROW]], .tup [qd, .tup [ROW]], .tup [.str "e", .tup [ROW]], .tup [.str "f", .tup [ROW]]]) = .inl 0 := by decide +kernel
  unfold ringE
  rw [h1]
  dsimp only
  rw [h2]
section
variable {K : PySem.W.Frag} {p : Addr} {n : Nat} {k : D → Nat → Prop} {x : Value → List (Str × D) → Nat → Prop} {d : D}
theorem u_one {xs : List D} (h0 : 0 < xs.length) (h1 : xs.length < 100) (hn : n ≠ 0) (hk : ∀ d ∈ xs, k d (n - 1)) : phi__law_one K [.ref p, .lst xs] p n k x := by
  refine ev__law_one ?_
  unfold den__law_one
  walk_at "dr"
  refine u_drawS (by omega) (by omega) hn fun r r0 r1 => ?_
  walk_at "dr"
  have hl : r.toNat < xs.length := by omega
  have e : L2.atI xs r = some xs[r.toNat] := by
    unfold L2.atI ixN
    rw [if_pos r0, if_pos r1]
    exact List.getElem?_eq_getElem hl
  rw [e]
  exact hk _ (List.getElem_mem hl)
theorem u_thing (hn : n ≠ 0) (hk : ∀ d ∈ THG, k d (n - 1)) : phi__law_thing K [.ref p] p n k x := by
  refine ev__law_thing ?_
  unfold den__law_thing
  walk_at "dr"
  exact u_one (by decide) (by decide) hn hk
theorem len2 (a b : D) : ([a, b].length : Int) = 2 := rfl
theorem u_bentC (hn : 4 ≤ n) (hk : ∀ e ∈ LC, ∀ n', n ≤ n' + 4 → k (.tup [e.1, .int (e.2 : Nat)]) n') : phi__law_bent_contents K [.ref p, CON] p n k x := by
  refine ev__law_bent_contents ?_
  unfold den__law_bent_contents
  walk_at "dr"
  refine u_drawS (by decide) (by decide) (by omega) fun r r0 r1 => ?_
  by_cases hr : r = 0
  · walk_at "dr"
    refine u_one (by decide) (by decide) (by omega) fun d hd => ?_
    walk_at "dr"
    refine hk (d, 0) ?_ _ (by omega)
    unfold LC
    refine List.mem_append.mpr (.inl ?_)
    simp only [List.mem_cons, List.not_mem_nil, or_false] at hd
    rcases hd with rfl | rfl | rfl | rfl | rfl | rfl <;> simp
  · walk_at "dr"
    refine u_drawS (by decide) (by decide) (by omega) fun a a0 a1 => ?_
    obtain rfl | rfl : a = 0 ∨ a = 1 := by
      have : a < 2 := a1
      omega
    all_goals
      by_cases hr1 : r = 1
      all_goals
        walk_at "dr"
        try refine u_thing (by omega) fun d hd => ?_
        try walk_at "dr"
    · refine hk (.tup [d, qt], 0) ?_ _ (by omega)
      unfold LC
      exact List.mem_append.mpr (.inr (List.mem_append.mpr (.inl (List.mem_map.mpr ⟨d, hd, rfl⟩))))
    · refine hk (.tup [d, qt], 0) ?_ _ (by omega)
      unfold LC
      exact List.mem_append.mpr (.inr (List.mem_append.mpr (.inl (List.mem_map.mpr ⟨d, hd, rfl⟩))))
    · refine hk (.tup [qs, qs], 1) ?_ _ (by omega)
      unfold LC
      exact List.mem_append.mpr (.inr (List.mem_append.mpr (.inr (List.mem_map.mpr ⟨qs, List.mem_cons_self .., rfl⟩))))
    · refine hk (.tup [qs, d], 1) ?_ _ (by omega)
      unfold LC
      exact List.mem_append.mpr (.inr (List.mem_append.mpr (.inr (List.mem_map.mpr ⟨d, List.mem_cons_of_mem _ hd, rfl⟩))))
theorem u_bentV (hn : 4 ≤ n) (hk : ∀ e ∈ LVV, ∀ n', n ≤ n' + 4 → k (.tup [e.1, .int (e.2 : Nat)]) n') : phi__law_bent_covers K [.ref p, COV] p n k x := by
  refine ev__law_bent_covers ?_
  unfold den__law_bent_covers
  walk_at "dr"
  refine u_drawS (by decide) (by decide) (by omega) fun r r0 r1 => ?_
  by_cases hr : r = 0
  · walk_at "dr"
    refine u_one (by decide) (by decide) (by omega) fun d hd => ?_
    walk_at "dr"
    refine hk (d, 0) ?_ _ (by omega)
    unfold LVV
    refine List.mem_append.mpr (.inl ?_)
    simp only [List.mem_cons, List.not_mem_nil, or_false] at hd
    rcases hd with rfl | rfl | rfl | rfl | rfl | rfl | rfl <;> simp [mergeD, putKD]
  · walk_at "dr"
    refine u_drawS (by decide) (by decide) (by omega) fun a a0 a1 => ?_
    obtain rfl | rfl : a = 0 ∨ a = 1 := by
      have : a < 2 := a1
      omega
    all_goals
      walk_at "dr"
      refine u_thing (by omega) fun d hd => ?_
      walk_at "dr"
    · refine u_one (Nat.succ_pos _) (by simp) (by omega) fun e he => ?_
      have he : e ∈ odV CV0 := by
        unfold odV
        rcases List.mem_cons.mp he with rfl | he
        · exact List.mem_append.mpr (.inl (List.mem_map.mpr ⟨d, hd, rfl⟩))
        · exact List.mem_append.mpr (.inr he)
      by_cases hr1 : r = 1
      all_goals
        walk_at "dr"
        refine hk (.lst [e, RW1], 0) ?_ _ (by omega)
        unfold LVV
        exact List.mem_append.mpr (.inr (List.mem_append.mpr (.inl (List.mem_map.mpr ⟨e, he, rfl⟩))))
    · refine u_one (Nat.succ_pos _) (by simp) (by omega) fun e he => ?_
      have he : e ∈ odV CV1 := by
        unfold odV
        rcases List.mem_cons.mp he with rfl | he
        · exact List.mem_append.mpr (.inl (List.mem_map.mpr ⟨d, hd, rfl⟩))
        · exact List.mem_append.mpr (.inr he)
      by_cases hr1 : r = 1
      · walk_at "dr"
        refine hk (.lst [RW0, .tup [qc, CV1]], 1) ?_ _ (by omega)
        unfold LVV
        exact List.mem_append.mpr (.inr (List.mem_append.mpr (.inr (List.mem_map.mpr ⟨_, List.mem_cons_self .., rfl⟩))))
      · walk_at "dr"
        refine hk (.lst [RW0, e], 1) ?_ _ (by omega)
        unfold LVV
        exact List.mem_append.mpr (.inr (List.mem_append.mpr (.inr (List.mem_map.mpr ⟨e, List.mem_cons_of_mem _ he, rfl⟩))))
theorem u_bentT (hn : 2 ≤ n) (hk : ∀ e ∈ LT, k (.tup [e.1, .int (e.2 : Nat)]) (n - 1 - 1)) : phi__law_bent_total K [.ref p, COV] p n k x := by
  refine ev__law_bent_total ?_
  unfold den__law_bent_total
  walk_at "dr"
  refine u_drawS (by decide) (by decide) (by omega) fun a a0 a1 => ?_
  obtain rfl | rfl : a = 0 ∨ a = 1 := by
    have : a < 2 := a1
    omega
  all_goals
    walk_at "dr"
    refine u_drawS (by decide) (by decide) (by omega) fun r r0 r1 => ?_
    walk_at "dr"
    obtain ⟨d, e, hd⟩ := at_all (xs := odT) (P := fun d => d ∈ odT) (fun d hd => hd) r0 r1
    rw [e]
    walk_at "dr"
  · refine hk (.tup [.tup [qc, d], RW1], 0) ?_
    unfold LT
    exact List.mem_append.mpr (.inl (List.mem_map.mpr ⟨d, hd, rfl⟩))
  · refine hk (.tup [RW0, .tup [qd, d]], 1) ?_
    unfold LT
    exact List.mem_append.mpr (.inr (List.mem_map.mpr ⟨d, hd, rfl⟩))
theorem u_bentF (hn : 2 ≤ n) (hk : ∀ e ∈ LF, ∀ n', n ≤ n' + 2 → k (.tup [e.1, .int (e.2 : Nat)]) n') : phi__law_bent_folded K [.ref p] p n k x := by
  refine ev__law_bent_folded ?_
  unfold den__law_bent_folded
  walk_at "dr"
  refine u_drawS (by decide) (by decide) (by omega) fun r r0 r1 => ?_
  by_cases hr : r = 0
  · walk_at "dr"
    refine u_one (by decide) (by decide) (by omega) fun d hd => ?_
    walk_at "dr"
    refine hk (d, 0) ?_ _ (by omega)
    unfold LF
    refine List.mem_append.mpr (.inl ?_)
    simp only [List.mem_cons, List.not_mem_nil, or_false] at hd
    rcases hd with rfl | rfl | rfl | rfl | rfl <;> simp
  by_cases hr : r = 1
  · walk_at "dr"
    refine hk (.tup [qd, qc, qd], 2) ?_ _ (by omega)
    unfold LF
    exact List.mem_append.mpr (.inl (by simp))
  · walk_at "dr"
    refine u_one (by decide) (by decide) (by omega) fun d hd => ?_
    walk_at "dr"
    refine hk (.tup [qc, d], 1) ?_ _ (by omega)
    unfold LF
    exact List.mem_append.mpr (.inr (List.mem_map.mpr ⟨d, hd, rfl⟩))
end
mutual
theorem pd_self : ∀ d : D, PyData.eqv d.pd d.pd = true
  | .non => by simp [D.pd, PyData.eqv]
  | .bl b => by simp [D.pd, PyData.eqv]
  | .int i => by simp [D.pd, PyData.eqv]
  | .str z => by simp [D.pd, PyData.eqv]
  | .ty _ => by simp [D.pd, PyData.eqv]
  | .ref _ => by simp [D.pd, PyData.eqv]
  | .obj _ _ => by simp [D.pd, PyData.eqv]
  | .dic _ => by simp [D.pd, PyData.eqv]
  | .tup xs => by simp only [D.pd, PyData.eqv]; exact pds_self xs
  | .lst xs => by simp only [D.pd, PyData.eqv]; exact pds_self xs
theorem pds_self : ∀ ds : List D, PyData.eqvAll (pds ds) (pds ds) = true
  | [] => by simp [pds, PyData.eqvAll]
  | d :: r => by simp only [pds, PyData.eqvAll, pd_self d, pds_self r]; rfl
end
theorem shp_pt {z : Str} (h : PyData.strOk z = true) (i : Int) : (D.tup [.str z, .int i]).shp = true := by
  unfold D.shp
  simp only [D.flat, flats, D.pd, pds, PySem.SeqAt.shaped, PyData.depth, PyData.depthAll, PyData.canLay0, PyData.canLayAll0, h]
  rfl
theorem ring_c {c v f : D} {a : Nat} (h : contE c = .inl a) : ringE c v f = some (("contents" : Str), a) := by unfold ringE; rw [h]
theorem ring_v {c v f : D} {zs : List Str} {a : Nat} (h : contE c = .inr zs) (h2 : chk zs v = .inl a) : ringE c v f = some (("covers" : Str), a) := by
  unfold ringE
  rw [h]
  dsimp only
  rw [h2]
theorem ring_n {c v f : D} {zs cs : List Str} (h : contE c = .inr zs) (h2 : chk zs v = .inr cs) (h3 : 5 < zs.length + cs.length) : ringE c v f = some (("names" : Str), zs.length + cs.length) := by
  unfold ringE
  rw [h]
  dsimp only
  rw [h2]
  dsimp only
  rw [if_pos h3]
theorem ring_t {c v f : D} {zs cs : List Str} {a : Nat} (h : contE c = .inr zs) (h2 : chk zs v = .inr cs) (h3 : ¬ 5 < zs.length + cs.length) (h4 : fbC (zs ++ cs) (rowsL v) 0 = some a) : ringE c v f = some (("total" : Str), a) := by
  unfold ringE
  rw [h]
  dsimp only
  rw [h2]
  dsimp only
  rw [if_neg h3, h4]
theorem ring_s {c v f : D} {zs cs : List Str} {a : Nat} (h : contE c = .inr zs) (h2 : chk zs v = .inr cs) (h3 : ¬ 5 < zs.length + cs.length) (h4 : fbC (zs ++ cs) (rowsL v) 0 = none) (h5 : sumE cs f = some a) : ringE c v f = some (("summed" : Str), a) := by
  unfold ringE
  rw [h]
  dsimp only
  rw [h2]
  dsimp only
  rw [if_neg h3, h4]
  dsimp only
  rw [h5]
theorem ring_0 {c v f : D} {zs cs : List Str} (h : contE c = .inr zs) (h2 : chk zs v = .inr cs) (h3 : ¬ 5 < zs.length + cs.length) (h4 : fbC (zs ++ cs) (rowsL v) 0 = none) (h5 : sumE cs f = none) : ringE c v f = none := by
  unfold ringE
  rw [h]
  dsimp only
  rw [h2]
  dsimp only
  rw [if_neg h3, h4]
  dsimp only
  rw [h5]
theorem all_m {α : Type} {l : List α} {f : α → Bool} (h : l.all f = true) {a : α} (m : a ∈ l) : f a = true := List.all_eq_true.mp h a m
def den_law (K : PySem.W.Frag) : DS := (dSeq (dFor (iR1 (dCons (dC (.int 6)) dNil)) (gNm 2) (dSeq (dSet 3 (dTup (dCons (dC (.str "s")) (dCons (dC (.str "t")) dNil))))
    (dSeq (dSet 4 (dTup (dCons (dTup (dCons (dC (.str "c")) (dCons (dTup (dCons (dTup (dCons (dC (.str "s")) (dCons (dC (.int 1)) dNil))) (dCons (dTup (dCons (dC (.str "d")) (dCons (dC (.int 9)) dNil))) dNil))) dNil))) (dCons (dTup (dCons (dC (.str "d")) (dCons (dTup (dCons (dTup (dCons (dC (.str "c")) (dCons (dC (.int 2)) dNil))) (dCons (dTup (dCons (dC (.str "t")) (dCons (dC (.int 3)) dNil))) (dCons (dTup (dCons (dC (.str "s")) (dCons (dC (.int 1)) dNil))) dNil)))) dNil))) dNil))))
    (dSeq (dSet 5 (dCall (phi__law_one K) (dCons (dVar 1) (dCons (dLst (dCons (dTup dNil) (dCons (dTup (dCons (dC (.str "d")) dNil)) (dCons (dTup (dCons (dC (.str "d")) (dCons (dC (.str "c")) dNil))) dNil)))) dNil))))
    (dSeq (dIfS (dTst (dBin oIsN (dCall (phi__law_refused K) (dCons (dVar 3) (dCons (dVar 4) (dCons (dVar 5) dNil)))) (dC .non))) (dRet (dC (.bl false))) dNext)
    (dSeq (dIfS (dTst (dBin oIsN (dCall (phi__law_refused K) (dCons (dVar 3) (dCons (dCB bList (dCons (dVar 4) dNil)) (dCons (dVar 5) dNil)))) (dC .non))) (dRet (dC (.bl false))) dNext)
    (dSeq (dSet 6 (dLst (dCons (dCall (phi__law_bent_contents K) (dCons (dVar 1) (dCons (dVar 3) dNil))) (dCons (dCall (phi__law_bent_covers K) (dCons (dVar 1) (dCons (dVar 4) dNil))) dNil))))
    (dSeq (dSet 6 (dBin oAdd (dVar 6) (dLst (dCons (dCall (phi__law_bent_total K) (dCons (dVar 1) (dCons (dVar 4) dNil))) (dCons (dCall (phi__law_bent_folded K) (dCons (dVar 1) dNil)) dNil)))))
    (dSeq (dIfS (dTst (dBin oNe (dCall (phi__law_refused K) (dCons (dBin oIx (dBin oIx (dVar 6) (dC (.int 0))) (dC (.int 0))) (dCons (dBin oIx (dBin oIx (dVar 6) (dC (.int 1))) (dC (.int 0))) (dCons (dBin oIx (dBin oIx (dVar 6) (dC (.int 3))) (dC (.int 0))) dNil)))) (dTup (dCons (dC (.str "contents")) (dCons (dBin oIx (dBin oIx (dVar 6) (dC (.int 0))) (dC (.int 1))) dNil))))) (dRet (dC (.bl false))) dNext)
    (dSeq (dIfS (dTst (dBin oNe (dCall (phi__law_refused K) (dCons (dVar 3) (dCons (dBin oIx (dBin oIx (dVar 6) (dC (.int 1))) (dC (.int 0))) (dCons (dBin oIx (dBin oIx (dVar 6) (dC (.int 3))) (dC (.int 0))) dNil)))) (dTup (dCons (dC (.str "covers")) (dCons (dBin oIx (dBin oIx (dVar 6) (dC (.int 1))) (dC (.int 1))) dNil))))) (dRet (dC (.bl false))) dNext)
    (dSeq (dSet 7 (dSlc (dTup (dCons (dC (.str "s")) (dCons (dC (.str "t")) (dCons (dC (.str "u")) (dCons (dC (.str "v")) (dCons (dC (.str "w")) dNil)))))) oNo (oSo (dBin oAdd (dC (.int 4)) (dCall (phi__law_draw K) (dCons (dVar 1) (dCons (dC (.int 2)) dNil)))))))
    (dSeq (dIfS (dTst (dBin oNe (dCall (phi__law_refused K) (dCons (dVar 7) (dCons (dBin oIx (dBin oIx (dVar 6) (dC (.int 2))) (dC (.int 0))) (dCons (dBin oIx (dBin oIx (dVar 6) (dC (.int 3))) (dC (.int 0))) dNil)))) (dTup (dCons (dC (.str "names")) (dCons (dBin oAdd (dCB bLen (dCons (dVar 7) dNil)) (dC (.int 2))) dNil))))) (dRet (dC (.bl false))) dNext)
    (dSeq (dIfS (dTst (dBin oNe (dCall (phi__law_refused K) (dCons (dVar 3) (dCons (dBin oIx (dBin oIx (dVar 6) (dC (.int 2))) (dC (.int 0))) (dCons (dBin oIx (dBin oIx (dVar 6) (dC (.int 3))) (dC (.int 0))) dNil)))) (dTup (dCons (dC (.str "total")) (dCons (dBin oIx (dBin oIx (dVar 6) (dC (.int 2))) (dC (.int 1))) dNil))))) (dRet (dC (.bl false))) dNext)
    (dSeq (dIfS (dTst (dBin oNe (dCall (phi__law_refused K) (dCons (dVar 3) (dCons (dVar 4) (dCons (dBin oIx (dBin oIx (dVar 6) (dC (.int 3))) (dC (.int 0))) dNil)))) (dTup (dCons (dC (.str "summed")) (dCons (dBin oIx (dBin oIx (dVar 6) (dC (.int 3))) (dC (.int 1))) dNil))))) (dRet (dC (.bl false))) dNext)
    (dSeq (dSet 8 (dTup (dCons (dTup (dCons (dC (.str "s")) (dCons (dC (.int 1)) dNil))) dNil)))
    (dIfS (dTst (dBin oNe (dCall (phi__law_refused K) (dCons (dTup (dCons (dC (.str "s")) dNil)) (dCons (dTup (dCons (dTup (dCons (dC (.str "c")) (dCons (dVar 8) dNil))) (dCons (dTup (dCons (dC (.str "d")) (dCons (dVar 8) dNil))) (dCons (dTup (dCons (dC (.str "e")) (dCons (dVar 8) dNil))) (dCons (dTup (dCons (dC (.str "f")) (dCons (dVar 8) dNil))) dNil))))) (dCons (dTup dNil) dNil)))) (dTup (dCons (dC (.str "covers")) (dCons (dC (.int 0)) dNil))))) (dRet (dC (.bl false))) dNext))))))))))))))))
    (dRet (dC (.bl true))))
theorem law_good (K : PySem.W.Frag) (a p : Addr) : den_law K (DL.S.mk [some (.val (.ref a)), some (.val (.ref p)), none, none, none, none, none, none, none] p 1000000) DL.EnL := by
  unfold den_law
  walk_at "dr"
  have g1 := good_ok.1
  have g2 := good_ok.2.1
  have g3 := good_ok.2.2.1
  have gs : ∀ f ∈ [D.tup [], .tup [qd], .tup [qd, qc]], pl f = true ∧ sumE ["c", "d"] f = none := fun f hf => by
    simp only [List.mem_cons, List.not_mem_nil, or_false] at hf
    rcases hf with rfl | rfl | rfl
    · exact ⟨rfl, good_ok.2.2.2.1⟩
    · exact ⟨rfl, good_ok.2.2.2.2.1⟩
    · exact ⟨rfl, good_ok.2.2.2.2.2⟩
  refine loop_ind (fun ds s => ∃ (c2 c3 c4 c5 c6 c7 c8 : Option LV) (n' : Nat), n' + 20 * (6 - ds.length) ≥ 1000000 ∧ ds.length ≤ 6 ∧ s = DL.S.mk [some (.val (.ref a)), some (.val (.ref p)), c2, c3, c4, c5, c6, c7, c8] p n') ?_ ?_ ⟨_, _, _, _, _, _, _, 1000000, by rw [rangeD_len]; decide, by rw [rangeD_len]; decide, rfl⟩
  · rintro d ds s ⟨c2, c3, c4, c5, c6, c7, c8, n, e1, e2, rfl⟩ ih
    rw [List.length_cons] at e1 e2
    walk_at "dr"
    refine u_one (Nat.succ_pos _) (by simp) (by omega) fun f hf => ?_
    obtain ⟨pf, sf⟩ := gs f hf
    have r0 : ringE CON COV f = none := ring_0 g1 g2 (by decide) g3 sf
    have r0' : ringE CON (.lst [RW0, RW1]) f = none := ring_0 (zs := ["s", "t"]) (cs := ["c", "d"]) g1 g2 (by decide) g3 sf
    walk_at "dr"
    refine u_refused (by rfl) (by rfl) pf ?_
    rw [r0]
    walk_at "dr"
    refine u_refused (by rfl) (by rfl) pf ?_
    rw [r0']
    walk_at "dr"
    refine u_bentC (by omega) fun bc hbc n1 hn1 => ?_
    obtain ⟨pc, ec⟩ := Bool.and_eq_true_iff.mp (all_m LC_ok hbc)
    have ec := of_decide_eq_true ec
    walk_at "dr"
    refine u_bentV (by omega) fun bv hbv n2 hn2 => ?_
    obtain ⟨pv, ev⟩ := Bool.and_eq_true_iff.mp (all_m LVV_ok hbv)
    have ev := of_decide_eq_true ev
    walk_at "dr"
    refine u_bentT (by omega) fun bt hbt => ?_
    obtain ⟨pt, et⟩ := Bool.and_eq_true_iff.mp (all_m LT_ok hbt)
    obtain ⟨et1, et⟩ := Bool.and_eq_true_iff.mp et
    obtain ⟨et2, et⟩ := Bool.and_eq_true_iff.mp et
    obtain ⟨et3, et4⟩ := Bool.and_eq_true_iff.mp et
    have et1 := of_decide_eq_true et1
    have et2 := of_decide_eq_true et2
    have et3 := of_decide_eq_true et3
    have et4 := of_decide_eq_true et4
    walk_at "dr"
    refine u_bentF (by omega) fun bf hbf n3 hn3 => ?_
    obtain ⟨pf2, ef⟩ := Bool.and_eq_true_iff.mp (all_m LF_ok hbf)
    have ef := of_decide_eq_true ef
    walk_at "dr"
    refine u_refused pc pv pf2 ?_
    rw [ring_c ec]
    walk_at "dr"
    have sk : ∀ (z : Str) (h : PyData.strOk z = true) (i : Int) {A B : Prop}, B → ((D.tup [.str z, .int i]).shp && (D.tup [.str z, .int i]).shp) = true ∧ if (!(D.tup [.str z, .int i]).pd.eqv (D.tup [.str z, .int i]).pd) = true then A else B := fun z h i A B hB => by
      rw [shp_pt h, pd_self]
      exact ⟨rfl, hB⟩
    refine sk _ (by decide +kernel) _ ?_
    walk_at "dr"
    refine u_refused (by rfl) pv pf2 ?_
    rw [ring_v g1 ev]
    walk_at "dr"
    refine sk _ (by decide +kernel) _ ?_
    walk_at "dr"
    refine u_drawS (by decide) (by decide) (by omega) fun r r0 r1 => ?_
    have cu4 : cutD [D.str "s", .str "t", .str "u", .str "v", .str "w"] none (some (4 + 0)) = [qs, qt, .str "u", .str "v"] := rfl
    have cu5 : cutD [D.str "s", .str "t", .str "u", .str "v", .str "w"] none (some (4 + 1)) = [qs, qt, .str "u", .str "v", .str "w"] := rfl
    have r4 : ringE (.tup [qs, qt, .str "u", .str "v"]) bt.1 bf.1 = some (("names" : Str), 6) := ring_n many_ok.1 et3 (by decide)
    have r5 : ringE (.tup [qs, qt, .str "u", .str "v", .str "w"]) bt.1 bf.1 = some (("names" : Str), 7) := ring_n many_ok.2 et4 (by decide)
    obtain rfl | rfl : r = 0 ∨ r = 1 := by omega
    all_goals
      walk_at "dr"
    · rw [cu4]
      refine u_refused (by rfl) pt pf2 ?_
      rw [r4]
      walk_at "dr"
      refine sk _ (by decide +kernel) 6 ?_
      walk_at "dr"
      refine u_refused (by rfl) pt pf2 ?_
      rw [ring_t g1 et1 (by decide) et2]
      walk_at "dr"
      refine sk _ (by decide +kernel) _ ?_
      walk_at "dr"
      refine u_refused (by rfl) (by rfl) pf2 ?_
      rw [ring_s g1 g2 (by decide) g3 ef]
      walk_at "dr"
      refine sk _ (by decide +kernel) _ ?_
      walk_at "dr"
      refine u_refused (by rfl) (by rfl) (by rfl) ?_
      rw [four_ok]
      walk_at "dr"
      refine sk _ (by decide +kernel) 0 ?_
      walk_at "dr"
      exact ih _ ⟨_, _, _, _, _, _, _, _, by omega, by omega, rfl⟩
    · rw [cu5]
      refine u_refused (by rfl) pt pf2 ?_
      rw [r5]
      walk_at "dr"
      refine sk _ (by decide +kernel) 7 ?_
      walk_at "dr"
      refine u_refused (by rfl) pt pf2 ?_
      rw [ring_t g1 et1 (by decide) et2]
      walk_at "dr"
      refine sk _ (by decide +kernel) _ ?_
      walk_at "dr"
      refine u_refused (by rfl) (by rfl) pf2 ?_
      rw [ring_s g1 g2 (by decide) g3 ef]
      walk_at "dr"
      refine sk _ (by decide +kernel) _ ?_
      walk_at "dr"
      refine u_refused (by rfl) (by rfl) (by rfl) ?_
      rw [four_ok]
      walk_at "dr"
      refine sk _ (by decide +kernel) 0 ?_
      walk_at "dr"
      exact ih _ ⟨_, _, _, _, _, _, _, _, by omega, by omega, rfl⟩
  · rintro s ⟨c2, c3, c4, c5, c6, c7, c8, n, e1, e2, rfl⟩
    walk_at "dr"
    exact rfl
theorem ok_law (T : Txt K mg) : FnG P w K mg base 15 (He.ga K "law") T.F_law.choose ["_law_script"] (spLaw K) := by
  refine okG T.F_law.choose_spec sc_law (fun vs H Q E h => ?_) (fun cdv A outer s H vs Q E hr hG h => ?_)
  · obtain ⟨a, ns, rfl, hS, hlen, k⟩ := h
    rfl
  · obtain ⟨a, ns, rfl, hS, hlen, k⟩ := h
    refine ⟨_, pss_cons (u := lS K [] (wxE E) (den_law K)) (ps_set (i := 1) sc_law.nd rfl (Or.inl rfl) (pe_call (ok__law_pen T) (hr.mono (by decide)) (by rfl) T.g__law_pen T.F__law_pen.choose_spec.kp (b__law_pen T) .nil pX (pa_cons (pv 0) pa_nil))) ((ds_cons (ds_for pO rfl (di_range1 (by rfl) T.n_range (d_cons d_int d_nil)) (dg_name (i := 2) sc_law.nd rfl (Or.inl rfl))
    (ds_cons (ds_set (i := 3) sc_law.nd rfl (Or.inl rfl) (d_tup (d_cons d_str (d_cons d_str d_nil))))
    (ds_cons (ds_set (i := 4) sc_law.nd rfl (Or.inl rfl) (d_tup (d_cons (d_tup (d_cons d_str (d_cons (d_tup (d_cons (d_tup (d_cons d_str (d_cons d_int d_nil))) (d_cons (d_tup (d_cons d_str (d_cons d_int d_nil))) d_nil))) d_nil))) (d_cons (d_tup (d_cons d_str (d_cons (d_tup (d_cons (d_tup (d_cons d_str (d_cons d_int d_nil))) (d_cons (d_tup (d_cons d_str (d_cons d_int d_nil))) (d_cons (d_tup (d_cons d_str (d_cons d_int d_nil))) d_nil)))) d_nil))) d_nil))))
    (ds_cons (ds_set (i := 5) sc_law.nd rfl (Or.inl rfl) (d_call (ok__law_one T) (hr.mono (by decide)) pT (by rfl) T.g__law_one T.F__law_one.choose_spec.kp (b__law_one T) (d_cons (d_v (pv 1)) (d_cons (d_lst (d_cons (d_tup d_nil) (d_cons (d_tup (d_cons d_str d_nil)) (d_cons (d_tup (d_cons d_str (d_cons d_str d_nil))) d_nil)))) d_nil))))
    (ds_cons (ds_if (d_tcmp p_isN (d_call (ok__law_refused T) (hr.mono (by decide)) pT (by rfl) T.g__law_refused T.F__law_refused.choose_spec.kp (b__law_refused T) (d_cons (d_v (pv 3)) (d_cons (d_v (pv 4)) (d_cons (d_v (pv 5)) d_nil)))) d_non (nomark _)) (ds_one (ds_ret d_bl)) ds_nil)
    (ds_cons (ds_if (d_tcmp p_isN (d_call (ok__law_refused T) (hr.mono (by decide)) pT (by rfl) T.g__law_refused T.F__law_refused.choose_spec.kp (b__law_refused T) (d_cons (d_v (pv 3)) (d_cons (d_callTy c_list (by rfl) T.n_list (by decide +kernel) (d_cons (d_v (pv 4)) d_nil)) (d_cons (d_v (pv 5)) d_nil)))) d_non (nomark _)) (ds_one (ds_ret d_bl)) ds_nil)
    (ds_cons (ds_set (i := 6) sc_law.nd rfl (Or.inl rfl) (d_lst (d_cons (d_call (ok__law_bent_contents T) (hr.mono (by decide)) pT (by rfl) T.g__law_bent_contents T.F__law_bent_contents.choose_spec.kp (b__law_bent_contents T) (d_cons (d_v (pv 1)) (d_cons (d_v (pv 3)) d_nil))) (d_cons (d_call (ok__law_bent_covers T) (hr.mono (by decide)) pT (by rfl) T.g__law_bent_covers T.F__law_bent_covers.choose_spec.kp (b__law_bent_covers T) (d_cons (d_v (pv 1)) (d_cons (d_v (pv 4)) d_nil))) d_nil))))
    (ds_cons (ds_set (i := 6) sc_law.nd rfl (Or.inl rfl) (d_bin p_add (d_v (pv 6)) (d_lst (d_cons (d_call (ok__law_bent_total T) (hr.mono (by decide)) pT (by rfl) T.g__law_bent_total T.F__law_bent_total.choose_spec.kp (b__law_bent_total T) (d_cons (d_v (pv 1)) (d_cons (d_v (pv 4)) d_nil))) (d_cons (d_call (ok__law_bent_folded T) (hr.mono (by decide)) pT (by rfl) T.g__law_bent_folded T.F__law_bent_folded.choose_spec.kp (b__law_bent_folded T) (d_cons (d_v (pv 1)) d_nil)) d_nil)))))
    (ds_cons (ds_if (d_tcmp (p_ne hr.units) (d_call (ok__law_refused T) (hr.mono (by decide)) pT (by rfl) T.g__law_refused T.F__law_refused.choose_spec.kp (b__law_refused T) (d_cons (d_ix (d_ix (d_v (pv 6)) d_int (fun _ _ => rfl)) d_int (fun _ _ => rfl)) (d_cons (d_ix (d_ix (d_v (pv 6)) d_int (fun _ _ => rfl)) d_int (fun _ _ => rfl)) (d_cons (d_ix (d_ix (d_v (pv 6)) d_int (fun _ _ => rfl)) d_int (fun _ _ => rfl)) d_nil)))) (d_tup (d_cons d_str (d_cons (d_ix (d_ix (d_v (pv 6)) d_int (fun _ _ => rfl)) d_int (fun _ _ => rfl)) d_nil))) (nomark _)) (ds_one (ds_ret d_bl)) ds_nil)
    (ds_cons (ds_if (d_tcmp (p_ne hr.units) (d_call (ok__law_refused T) (hr.mono (by decide)) pT (by rfl) T.g__law_refused T.F__law_refused.choose_spec.kp (b__law_refused T) (d_cons (d_v (pv 3)) (d_cons (d_ix (d_ix (d_v (pv 6)) d_int (fun _ _ => rfl)) d_int (fun _ _ => rfl)) (d_cons (d_ix (d_ix (d_v (pv 6)) d_int (fun _ _ => rfl)) d_int (fun _ _ => rfl)) d_nil)))) (d_tup (d_cons d_str (d_cons (d_ix (d_ix (d_v (pv 6)) d_int (fun _ _ => rfl)) d_int (fun _ _ => rfl)) d_nil))) (nomark _)) (ds_one (ds_ret d_bl)) ds_nil)
    (ds_cons (ds_set (i := 7) sc_law.nd rfl (Or.inl rfl) (d_slc (d_tup (d_cons d_str (d_cons d_str (d_cons d_str (d_cons d_str (d_cons d_str d_nil)))))) do_none (do_some (d_bin p_add d_int (d_call (ok__law_drawD T) (hr.mono (by decide)) pT (by rfl) T.g__law_draw T.F__law_draw.choose_spec.kp (b__law_draw T) (d_cons (d_v (pv 1)) (d_cons d_int d_nil)))))))
    (ds_cons (ds_if (d_tcmp (p_ne hr.units) (d_call (ok__law_refused T) (hr.mono (by decide)) pT (by rfl) T.g__law_refused T.F__law_refused.choose_spec.kp (b__law_refused T) (d_cons (d_v (pv 7)) (d_cons (d_ix (d_ix (d_v (pv 6)) d_int (fun _ _ => rfl)) d_int (fun _ _ => rfl)) (d_cons (d_ix (d_ix (d_v (pv 6)) d_int (fun _ _ => rfl)) d_int (fun _ _ => rfl)) d_nil)))) (d_tup (d_cons d_str (d_cons (d_bin p_add (d_callB c_len (by rfl) T.n_len PySem.boot_len (d_cons (d_v (pv 7)) d_nil)) d_int) d_nil))) (nomark _)) (ds_one (ds_ret d_bl)) ds_nil)
    (ds_cons (ds_if (d_tcmp (p_ne hr.units) (d_call (ok__law_refused T) (hr.mono (by decide)) pT (by rfl) T.g__law_refused T.F__law_refused.choose_spec.kp (b__law_refused T) (d_cons (d_v (pv 3)) (d_cons (d_ix (d_ix (d_v (pv 6)) d_int (fun _ _ => rfl)) d_int (fun _ _ => rfl)) (d_cons (d_ix (d_ix (d_v (pv 6)) d_int (fun _ _ => rfl)) d_int (fun _ _ => rfl)) d_nil)))) (d_tup (d_cons d_str (d_cons (d_ix (d_ix (d_v (pv 6)) d_int (fun _ _ => rfl)) d_int (fun _ _ => rfl)) d_nil))) (nomark _)) (ds_one (ds_ret d_bl)) ds_nil)
    (ds_cons (ds_if (d_tcmp (p_ne hr.units) (d_call (ok__law_refused T) (hr.mono (by decide)) pT (by rfl) T.g__law_refused T.F__law_refused.choose_spec.kp (b__law_refused T) (d_cons (d_v (pv 3)) (d_cons (d_v (pv 4)) (d_cons (d_ix (d_ix (d_v (pv 6)) d_int (fun _ _ => rfl)) d_int (fun _ _ => rfl)) d_nil)))) (d_tup (d_cons d_str (d_cons (d_ix (d_ix (d_v (pv 6)) d_int (fun _ _ => rfl)) d_int (fun _ _ => rfl)) d_nil))) (nomark _)) (ds_one (ds_ret d_bl)) ds_nil)
    (ds_cons (ds_set (i := 8) sc_law.nd rfl (Or.inl rfl) (d_tup (d_cons (d_tup (d_cons d_str (d_cons d_int d_nil))) d_nil)))
    (ds_one (ds_if (d_tcmp (p_ne hr.units) (d_call (ok__law_refused T) (hr.mono (by decide)) pT (by rfl) T.g__law_refused T.F__law_refused.choose_spec.kp (b__law_refused T) (d_cons (d_tup (d_cons d_str d_nil)) (d_cons (d_tup (d_cons (d_tup (d_cons d_str (d_cons (d_v (pv 8)) d_nil))) (d_cons (d_tup (d_cons d_str (d_cons (d_v (pv 8)) d_nil))) (d_cons (d_tup (d_cons d_str (d_cons (d_v (pv 8)) d_nil))) (d_cons (d_tup (d_cons d_str (d_cons (d_v (pv 8)) d_nil))) d_nil))))) (d_cons (d_tup d_nil) d_nil)))) (d_tup (d_cons d_str (d_cons d_int d_nil))) (nomark _)) (ds_one (ds_ret d_bl)) ds_nil)))))))))))))))))
    (ds_one (ds_ret d_bl)))), ?_⟩
    walk_at "z_in"
    walk_at "z_go"
    refine use_pen hS fun p H1 e1 p1 => ?_
    walk_at "z_go"
    exact DL.lS_start (fun _ z => nomatch z) p1 (law_good K a p) k
end
abbrev R : PySem.W.OpenRow := PySem.W.OpenLaw.row PySem.Challenge.rw_twozeros_k80_what_rings_refuse
abbrev hk : PySem.W.Hook := hook 6 fns exs
def ob (s : PySem.W.SharedT) : Al := obs 6 fns exs (HandSHeadRun.getT s)
theorem ob_eq (s : PySem.W.SharedT) : ob s = hk.obs s.abs := obs_eq (HandSHeadRun.getT_eq s)
def loose : List Str := ((["_wall", "__name__", "LETTERS", "LONGEST_NAME", "RESERVED", "is_integer", "is_between", "is_name", "ZerosError", "BadRing", "MOST_NAMES", "MOST_CHECKS", "need_distinct_names", "is_cover", "need_checks", "need_parts", "Ring", "_law_pen", "_law_draw", "_law_one", "_law_refused", "_law_thing", "_law_bent_contents", "_law_bent_covers", "_law_bent_total", "_law_bent_folded"] : List Str) : List Str)
theorem run (w : World) : HandSHeadRun.RunEq R (PySem.W.view R.prog [29]) hk ob 8000 loose w := by
  intro os
  kernel_rfl
theorem law_at {w : World} {K : PySem.W.Frag} {h : Heap} {mg : Str → Option Value} {f : Addr} (X : K.In h) (G : h.Ns mainGlobals mg) (hf : mg ("law" : Str) = some (.ref f)) (c : Says fns exs K) :
    ∃ fd : FuncData, (∀ (s : Shared) (v : Value), BindsTo s fd ⟨[v], []⟩ [("_law_script", v)]) ∧ ∀ base : Heap, K.In base → base.Ns mainGlobals mg → FnG P w K mg base 15 f fd ["_law_script"] (spLaw K) := by
  have T := txt_mk X G c
  have e := hf.symm.trans T.g_law
  cases e
  have b := FunD.bindsA (ps := ["_law_script"]) T.F_law.choose_spec fun _ _ _ _ _ _ us hl => match us, hl with | [_], _ => rfl
  exact ⟨T.F_law.choose, fun s v => b s [v] rfl, fun base _ _ => ok_law T⟩
end L
open PySem PySem.W PySem.Calls PyProof.Rows
set_option maxRecDepth 100000 in
set_option maxHeartbeats 0 in
theorem PySem.Challenge.cw_twozeros_k80_what_rings_refuse_holds : PySem.Challenge.rw_twozeros_k80_what_rings_refuse.Holds := by
  w_on; o_law
  refine HandSHeadRun.head_any (r := L.R) (q := view L.R.prog [29]) (H := L.hk) (ob := L.ob) (M := 8000) (loose := L.loose) (d := HandSHeadRun.topDef L.R.prog 29) (kwd := []) L.ob_eq
    (by kernel_rfl) (fun s => by kernel_rfl) L.run (by kernel_rfl) (by kernel_rfl) (by kernel_rfl) (by rfl) (by first | assumption | decide +kernel) (by decide +kernel) ⟨rfl, rfl, rfl, rfl, rfl, by decide +kernel⟩ ?hw ?hc
  case hw => w_witness2
  case hc =>
    refine Z.walk_endG (l := PySem.Challenge.rw_twozeros_k80_what_rings_refuse) (n := 63) (k := 15) (x := "_law_script") rfl (by decide) (by kernel_rfl) ⟨rfl, by decide, by decide⟩ ?F
    intro w mg fa h Y G hm0
    obtain ⟨K, KX, c⟩ := Y
    have hm : mg ("law" : PySem.Str) = some (.ref fa) := by
      have e : (HandSHeadRun.topDef L.R.prog 29).name = ("law" : PySem.Str) := by kernel_rfl
      rw [← e]
      exact hm0
    obtain ⟨fd, hb, hF⟩ := L.law_at (w := w) KX G hm c
    exact ⟨K, fd, Z.spLaw K, KX, hb, fun H a ns hl _ hS => ⟨a, ns, rfl, hS, hl, fun _ => rfl⟩, hF⟩
