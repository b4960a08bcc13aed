import PyProof.Rows.All
import Wide.All
import OpenK.AllK
import Wide.FinOn
import HandS.ForMost
import HandS.Defaults
import HandS.Wide
import HandS.IsInst
import HandS.Conv
import HandS.Strs
import HandS.SetFor
import HandS.More
import HandS.Walk
import HandS.Deep
import HandS.TupLe
import HandS.NoneIn
import HandS.Style
import HandS.SortInts
import HandS.SortRule
import PyProof.SeqIndex
import HandS.Dict
import HandS.Iter
import PySem.Challenge.RW_timegranary_k26_what_rows_know
set_option Elab.async false
set_option linter.all false
set_option maxRecDepth 100000
set_option maxHeartbeats 4000000
namespace G
open PySem PySem.Spec PyProof.Rows L2

/-! ### the ledger -/
structure Led (H0 : Hp) (l : List (Addr × HO)) (H : Hp) : Prop where
  old : ∀ a o, H0 a = some o → (∀ q ∈ l, a ≠ q.1) → H a = some o
  at_ : ∀ (i : Nat) (a : Addr) (o : HO), l[i]? = some (a, o) → H a = some o
  nd : (l.map (·.1)).Nodup
section
variable {H0 H H' : Hp} {l : List (Addr × HO)} {p a : Addr} {o o' u : HO} {q q1 q2 q3 q4 q5 : Addr × HO}
theorem Led.nil : Led H [] H := ⟨fun _ _ h _ => h, fun i a o h => by simp at h, List.nodup_nil⟩
theorem Led.notin (L : Led H0 l H) (n : H p = none) : ∀ q ∈ l, p ≠ q.1 := fun q hq e => by
  obtain ⟨i, hi, hq⟩ := List.mem_iff_getElem.mp hq
  have h := L.at_ i q.1 q.2 (by rw [List.getElem?_eq_getElem hi, hq])
  rw [← e, n] at h
  cases h
theorem Led.fresh (L : Led H0 l H) (n : H p = none) : H0 p = none := by
  cases e : H0 p with
  | none => rfl
  | some u =>
    have h := L.old p u e (L.notin n)
    rw [n] at h
    cases h
theorem Led.new (L : Led H0 l H) (n : H p = none) : Led H0 ((p, o) :: l) (upd H p o) := by
  refine ⟨fun a u e h => ?_, fun i a u h => ?_, ?_⟩
  · rw [upd_ne (h _ (List.mem_cons_self ..))]
    exact L.old a u e fun q hq => h q (List.mem_cons_of_mem _ hq)
  · cases i with
    | zero =>
      simp at h
      obtain ⟨rfl, rfl⟩ := h
      exact upd_same
    | succ i =>
      have h2 := L.at_ i a u (by simpa using h)
      rw [upd_ne (ne_of_none h2 n)]
      exact h2
  · rw [List.map_cons, List.nodup_cons]
    refine ⟨fun hm => ?_, L.nd⟩
    obtain ⟨q, hq, e⟩ := List.mem_map.mp hm
    exact L.notin n q hq e.symm
theorem Led.same (L : Led H0 l H) (s : Same H H') : Led H0 l H' := ⟨fun a o e h => s a o (L.old a o e h), fun i a o h => s a o (L.at_ i a o h), L.nd⟩
theorem Led.made (L : Led H0 l H) (s : Same H H') (n : H p = none) (e : H' p = some o) : Led H0 ((p, o) :: l) H' := by
  refine ⟨fun a u e h => s _ _ (L.old a u e fun q hq => h q (List.mem_cons_of_mem _ hq)), fun i a u h => ?_, ?_⟩
  · cases i with
    | zero =>
      simp at h
      obtain ⟨rfl, rfl⟩ := h
      exact e
    | succ i => exact s _ _ (L.at_ i a u (by simpa using h))
  · rw [List.map_cons, List.nodup_cons]
    refine ⟨fun hm => ?_, L.nd⟩
    obtain ⟨q, hq, e⟩ := List.mem_map.mp hm
    exact L.notin n q hq e.symm
/-- an object that stood and is looked at -/
theorem Led.add (L : Led H0 l H) (e : H a = some o) (n : ∀ q ∈ l, a ≠ q.1) : Led H0 ((a, o) :: l) H := by
  refine ⟨fun b u e h => L.old b u e fun q hq => h q (List.mem_cons_of_mem _ hq), fun i b u h => ?_, ?_⟩
  · cases i with
    | zero =>
      simp at h
      obtain ⟨rfl, rfl⟩ := h
      exact e
    | succ i => exact L.at_ i b u (by simpa using h)
  · rw [List.map_cons, List.nodup_cons]
    refine ⟨fun hm => ?_, L.nd⟩
    obtain ⟨q, hq, e⟩ := List.mem_map.mp hm
    exact n q hq e.symm
theorem Led.one (e : H a = some o) : Led H [(a, o)] H := Led.nil.add e fun q hq => by simp at hq
theorem Led.mut (L : Led H0 l H) (i : Nat) (hi : l[i]? = some (p, o)) (k : ∀ b u, H b = some u → b ≠ p → H' b = some u) (e : H' p = some o') : Led H0 (l.set i (p, o')) H' := by
  have il := (List.getElem?_eq_some_iff.mp hi).1
  have nm : (l.set i (p, o')).map (·.1) = l.map (·.1) := by
    rw [List.map_set]
    apply List.ext_getElem?
    intro j
    by_cases hj : i = j
    · subst hj
      rw [List.getElem?_set_self (by simpa using il), List.getElem?_map, hi]
      rfl
    · rw [List.getElem?_set_ne hj]
  refine ⟨fun a u ea h => ?_, fun j a u h => ?_, ?_⟩
  · have hp : a ≠ p := h (p, o') (List.mem_iff_getElem?.mpr ⟨i, List.getElem?_set_self il⟩)
    refine k a u (L.old a u ea fun q hq => ?_) hp
    have : q.1 ∈ (l.set i (p, o')).map (·.1) := by
      rw [nm]
      exact List.mem_map_of_mem hq
    obtain ⟨q', hq', e'⟩ := List.mem_map.mp this
    rw [← e']
    exact h q' hq'
  · by_cases hj : i = j
    · subst hj
      rw [List.getElem?_set_self il] at h
      cases h
      exact e
    · rw [List.getElem?_set_ne hj] at h
      refine k a u (L.at_ j a u h) fun ea => hj ?_
      have h1 : (l.map (·.1))[i]? = some p := by rw [List.getElem?_map, hi]; rfl
      have h2 : (l.map (·.1))[j]? = some p := by rw [List.getElem?_map, h, ea]; rfl
      exact (List.getElem?_inj (by simpa using il) L.nd).mp (h1.trans h2.symm)
  · rw [nm]
    exact L.nd
theorem Led.set (L : Led H0 l H) (i : Nat) (hi : l[i]? = some (p, o)) : Led H0 (l.set i (p, o')) (upd H p o') :=
  L.mut i hi (fun b u e n => by rw [upd_ne n]; exact e) upd_same
theorem Led.at0 (L : Led H0 ((p, o) :: l) H) : H p = some o := L.at_ 0 p o rfl
theorem Led.at1 (L : Led H0 (q :: (p, o) :: l) H) : H p = some o := L.at_ 1 p o rfl
theorem Led.at2 (L : Led H0 (q :: q1 :: (p, o) :: l) H) : H p = some o := L.at_ 2 p o rfl
theorem Led.at3 (L : Led H0 (q :: q1 :: q2 :: (p, o) :: l) H) : H p = some o := L.at_ 3 p o rfl
theorem Led.at4 (L : Led H0 (q :: q1 :: q2 :: q3 :: (p, o) :: l) H) : H p = some o := L.at_ 4 p o rfl
theorem Led.at5 (L : Led H0 (q :: q1 :: q2 :: q3 :: q4 :: (p, o) :: l) H) : H p = some o := L.at_ 5 p o rfl
theorem Led.at6 (L : Led H0 (q :: q1 :: q2 :: q3 :: q4 :: q5 :: (p, o) :: l) H) : H p = some o := L.at_ 6 p o rfl
theorem Led.set0 (L : Led H0 ((p, o) :: l) H) : Led H0 ((p, o') :: l) (upd H p o') := L.set 0 rfl
theorem Led.set1 (L : Led H0 (q :: (p, o) :: l) H) : Led H0 (q :: (p, o') :: l) (upd H p o') := L.set 1 rfl
theorem Led.set2 (L : Led H0 (q :: q1 :: (p, o) :: l) H) : Led H0 (q :: q1 :: (p, o') :: l) (upd H p o') := L.set 2 rfl
theorem Led.set3 (L : Led H0 (q :: q1 :: q2 :: (p, o) :: l) H) : Led H0 (q :: q1 :: q2 :: (p, o') :: l) (upd H p o') := L.set 3 rfl
theorem Led.set4 (L : Led H0 (q :: q1 :: q2 :: q3 :: (p, o) :: l) H) : Led H0 (q :: q1 :: q2 :: q3 :: (p, o') :: l) (upd H p o') := L.set 4 rfl
theorem Led.set5 (L : Led H0 (q :: q1 :: q2 :: q3 :: q4 :: (p, o) :: l) H) : Led H0 (q :: q1 :: q2 :: q3 :: q4 :: (p, o') :: l) (upd H p o') := L.set 5 rfl
/-- one object fewer is looked at -/
theorem Led.tl (L : Led H0 ((p, o) :: l) H) (n : H0 p = none ∨ H0 p = some o) : Led H0 l H := by
  refine ⟨fun a u e h => ?_, fun i a u h => L.at_ (i + 1) a u (by simpa using h), ?_⟩
  · by_cases ha : a = p
    · subst ha
      rcases n with n | n
      · rw [n] at e
        cases e
      · rw [n] at e
        cases e
        exact L.at0
    · refine L.old a u e fun q hq => ?_
      rcases List.mem_cons.mp hq with rfl | hq
      · exact ha
      · exact h q hq
  · have := L.nd
    rw [List.map_cons, List.nodup_cons] at this
    exact this.2
theorem Led.tl1 (L : Led H0 (q :: (p, o) :: l) H) (n : H0 p = none ∨ H0 p = some o) : Led H0 (q :: l) H := by
  have nd := L.nd
  rw [List.map_cons, List.map_cons, List.nodup_cons, List.nodup_cons] at nd
  have L2 : Led H0 ((p, o) :: q :: l) H := by
    refine ⟨fun a u e h => L.old a u e fun x hx => h x ?_, fun i a u h => ?_, ?_⟩
    · rcases List.mem_cons.mp hx with rfl | hx
      · exact List.mem_cons_of_mem _ (List.mem_cons_self ..)
      · rcases List.mem_cons.mp hx with rfl | hx
        · exact List.mem_cons_self ..
        · exact List.mem_cons_of_mem _ (List.mem_cons_of_mem _ hx)
    · match i, h with
      | 0, h => exact L.at_ 1 a u h
      | 1, h => exact L.at_ 0 a u h
      | i + 2, h => exact L.at_ (i + 2) a u h
    · rw [List.map_cons, List.map_cons, List.nodup_cons, List.nodup_cons]
      refine ⟨fun h => ?_, fun h => nd.1 (List.mem_cons_of_mem _ h), nd.2.2⟩
      rcases List.mem_cons.mp h with h | h
      · exact nd.1 (by rw [h]; exact List.mem_cons_self ..)
      · exact nd.2.1 h
  exact L2.tl n
theorem Led.toSame (L : Led H0 [] H) : Same H0 H := fun a o e => L.old a o e fun q hq => by cases hq
/-- all but one stood still -/
theorem Led.but (L : Led H0 [(a, o)] H) : ∀ b u, H0 b = some u → b ≠ a → H b = some u := fun b u e n => L.old b u e fun q hq => by
  rcases List.mem_cons.mp hq with rfl | hq
  · exact n
  · cases hq
theorem Led.ne01 (L : Led H0 ((p, o) :: (a, u) :: l) H) : p ≠ a := fun e => by
  have := L.nd
  rw [List.map_cons, List.map_cons, List.nodup_cons] at this
  exact this.1 (by rw [e]; exact List.mem_cons_self ..)
end

/-! ### the steps of a reading -/
def NEWL (xs : List V) (H : Hp) (Q : VK) : Prop := xs.length ≤ sizeLine ∧ ∀ p, H p = none → Q (.ref p) (upd H p (.lst xs))
def NEWT (xs : List V) (H : Hp) (Q : VK) : Prop := xs.length ≤ sizeLine ∧ ∀ p, H p = none → Q (.ref p) (upd H p (.tup xs))
section
variable {te ta tb : TE} {t u : TS} {tt t1 t2 : TT} {tl : TA} {g : TG} {D : Ends} {σ : L2.St} {H H' H0 : Hp} {Q : VK} {QB : Bool → Hp → Prop} {QL : List V → Hp → Prop} {QS : L2.St → Hp → Prop} {v w : V} {vs : List V} {i j : Int} {n : Nat} {r : R2} {K : PySem.W.Frag} {p : Addr} {l : List (Addr × HO)} {xs : List V}
theorem i_seq (h : t { D with nx := u D } σ H) : tSeq t u D σ H := h
theorem i_next (h : D.nx σ H) : tNext D σ H := h
theorem i_cont (h : D.ct σ H) : tCont D σ H := h
theorem i_break (h : D.bk σ H) : tBreak D σ H := h
theorem i_asg (h : te σ H fun x H1 => g x σ H1 D.nx) : tAsg te g D σ H := h
theorem i_gname (h : QS (σ.set n (some v)) H) : gName n v σ H QS := h
theorem i_drop (h : te σ H fun _ H1 => D.nx σ H1) : tDrop te D σ H := h
theorem i_ret (h : te σ H D.rt) : tRet te D σ H := h
theorem i_retN (h : D.rt .non H) : tRetN D σ H := h
theorem i_ifS (h : tt σ H fun b H1 => if b = true then t D σ H1 else u D σ H1) : tIfS tt t u D σ H := h
theorem i_var (e : σ[n]? = some (some v)) (h : Q v H) : tVar n σ H Q := ⟨v, e, h⟩
theorem i_c (h : Q v H) : tC v σ H Q := h
theorem i_op (h : ta σ H fun x H1 => tb σ H1 fun y H2 => r x y H2 Q) : tOp r ta tb σ H Q := h
theorem i_un {r : V → Hp → VK → Prop} (h : ta σ H fun x H1 => r x H1 Q) : tUn r ta σ H Q := h
theorem i_I0 {f : Int → Int → V} (h : Q (f i j) H) : rI0 f (.int i) (.int j) H Q := ⟨i, j, rfl, rfl, h⟩
theorem i_I {C : Int → Int → Prop} {f : Int → Int → V} (c : C i j) (h : Q (f i j) H) : rI C f (.int i) (.int j) H Q := ⟨i, j, rfl, rfl, c, h⟩
theorem i_U {f : Int → V} (h : Q (f i) H) : rU f (.int i) H Q := ⟨i, rfl, h⟩
theorem i_eq (e : scal v w = true) (h : Q (.bl (decide (v = w))) H) : rEq v w H Q := ⟨e, h⟩
theorem i_ne (e : scal v w = true) (h : Q (.bl (!decide (v = w))) H) : rNe v w H Q := ⟨e, h⟩
theorem i_eqI (h : Q (.bl (decide (i = j))) H) : rEq (.int i) (.int j) H Q := ⟨rfl, by
  have : decide (V.int i = V.int j) = decide (i = j) := by simp
  rw [this]; exact h⟩
theorem i_neI (h : Q (.bl (!decide (i = j))) H) : rNe (.int i) (.int j) H Q := ⟨rfl, by
  have : decide (V.int i = V.int j) = decide (i = j) := by simp
  rw [this]; exact h⟩
theorem i_test (h : te σ H fun x H' => ∃ k, x = .bl k ∧ QB k H') : tTest te σ H QB := h
theorem i_B (h : te σ H fun x H' => ∃ k, x = .bl k ∧ QB k H') : tB te σ H QB := h
theorem i_bl {b : Bool} {QP : Bool → Prop} (h : QP b) : ∃ k, V.bl b = .bl k ∧ QP k := ⟨b, rfl, h⟩
theorem i_not (h : t1 σ H fun c H1 => QB (!c) H1) : tNot t1 σ H QB := h
theorem i_and (h : t1 σ H fun c H1 => if c = true then t2 σ H1 QB else QB false H1) : tAnd t1 t2 σ H QB := h
theorem i_or (h : t1 σ H fun c H1 => if c = true then QB true H1 else t2 σ H1 QB) : tOr t1 t2 σ H QB := h
theorem i_notV (h : ta σ H fun x H1 => ∃ c, x = .bl c ∧ Q (.bl (!c)) H1) : tNotV ta σ H Q := h
theorem i_andV (h : ta σ H fun x H1 => ∃ c, x = .bl c ∧ if c = true then tb σ H1 Q else Q (.bl false) H1) : tAndV ta tb σ H Q := h
theorem i_orV (h : ta σ H fun x H1 => ∃ c, x = .bl c ∧ if c = true then Q (.bl true) H1 else tb σ H1 Q) : tOrV ta tb σ H Q := h
theorem i_ifE (h : tt σ H fun c H1 => if c = true then ta σ H1 Q else tb σ H1 Q) : tIf tt ta tb σ H Q := h
theorem i_nil (h : QL [] H) : tNil σ H QL := h
theorem i_cons (h : ta σ H fun x H1 => tl σ H1 fun xs H2 => QL (x :: xs) H2) : tCons ta tl σ H QL := h
theorem i_tup (h : tl σ H fun xs H1 => NEWT xs H1 Q) : tTup tl σ H Q := h
theorem i_lst (h : tl σ H fun xs H1 => NEWL xs H1 Q) : tLst tl σ H Q := h
theorem i_new {k : List V → HO} (L : Led H0 l H) (s : vs.length ≤ sizeLine) (h : ∀ p H2, H p = none → H0 p = none → Led H0 ((p, k vs) :: l) H2 → Q (.ref p) H2) : vs.length ≤ sizeLine ∧ ∀ p, H p = none → Q (.ref p) (upd H p (k vs)) :=
  ⟨s, fun p np => h p _ np (L.fresh np) (L.new np)⟩
theorem i_fresh {o : HO} (L : Led H0 l H) (h : ∀ p H2, H p = none → H0 p = none → Led H0 ((p, o) :: l) H2 → Q (.ref p) H2) : ∀ p, H p = none → Q (.ref p) (upd H p o) :=
  fun p np => h p _ np (L.fresh np) (L.new np)
theorem i_call {sp : Sp} {dvs : List V} {E : XK} (h : tl σ H fun vs H1 => sp (vs ++ dvs) H1 Q E) : tCall sp dvs E tl σ H Q := h
theorem i_callN {sp : Sp} {m : Nat} {gV : List V → List V → List V} {E : XK} {tk : TA} (h : tl σ H fun vs H1 => tk σ H1 fun zs H2 => vs.length = n ∧ zs.length = m ∧ sp (gV vs zs) H2 Q E) : tCallN n m sp gV E tl tk σ H Q := h
theorem i_CB {r : List V → Hp → VK → Prop} (h : tl σ H fun vs H1 => r vs H1 Q) : tCB r tl σ H Q := h
theorem i_ixL (s : H p = some (.lst xs)) (a : atI xs i = some v) (h : Q v H) : rIxL K (.ref p) (.int i) H Q := ⟨p, xs, i, v, rfl, rfl, .inl (.inl s), a, h⟩
theorem i_ixLS (s : SqL K H p xs) (a : atI xs i = some v) (h : Q v H) : rIxL K (.ref p) (.int i) H Q := ⟨p, xs, i, v, rfl, rfl, s, a, h⟩
theorem i_ixT (s : H p = some (.tup xs)) (a : atI xs i = some v) (h : Q v H) : rIxT K (.ref p) (.int i) H Q := ⟨p, xs, i, v, rfl, rfl, .inl (.inl s), a, h⟩
theorem i_ixTS (s : SqT K H p xs) (a : atI xs i = some v) (h : Q v H) : rIxT K (.ref p) (.int i) H Q := ⟨p, xs, i, v, rfl, rfl, s, a, h⟩
theorem i_ifd {c A B : Prop} [Decidable c] (h1 : c → A) (h2 : ¬ c → B) : if decide c = true then A else B := by
  by_cases h : c
  · rw [if_pos (by simpa using h)]; exact h1 h
  · rw [if_neg (by simpa using h)]; exact h2 h
theorem i_ifnd {c A B : Prop} [Decidable c] (h1 : ¬ c → A) (h2 : c → B) : if (!decide c) = true then A else B := by
  by_cases h : c
  · rw [if_neg (by simpa using h)]; exact h2 h
  · rw [if_pos (by simpa using h)]; exact h1 h
theorem i_ifb {b : Bool} {A B : Prop} (h1 : b = true → A) (h2 : b = false → B) : if b = true then A else B := by
  cases b with
  | true => exact h1 rfl
  | false => exact h2 rfl
theorem i_ift {b : Bool} {A B : Prop} (e : b = true) (h : A) : if b = true then A else B := by rw [if_pos e]; exact h
theorem i_iff {b : Bool} {A B : Prop} (e : b = false) (h : B) : if b = true then A else B := by rw [if_neg (by simp [e])]; exact h
end

theorem atI_lt {α : Type} {xs : List α} {i : Int} (d : α) (h0 : 0 ≤ i) (h1 : i < xs.length) : atI xs i = some (xs.getD i.toNat d) := by
  obtain ⟨j, rfl⟩ : ∃ j : Nat, i = (j : Int) := ⟨i.toNat, by omega⟩
  refine atI_nat ?_
  rw [Int.toNat_natCast, List.getD_eq_getElem?_getD, List.getElem?_eq_getElem (by omega)]
  rfl
/-- an item of a list whose items all are such -/
theorem atI_all {α : Type} {xs : List α} {i : Int} (P : α → Prop) (hP : ∀ x ∈ xs, P x) (h0 : 0 ≤ i) (h1 : i < xs.length) : ∃ v, atI xs i = some v ∧ P v := by
  obtain ⟨j, rfl⟩ : ∃ j : Nat, i = (j : Int) := ⟨i.toNat, by omega⟩
  have hj : j < xs.length := by omega
  exact ⟨xs[j], atI_nat (List.getElem?_eq_getElem hj), hP _ (List.getElem_mem hj)⟩
end G

namespace G
open PySem PySem.Spec PyProof.Rows L2
/-! ### a def of the top -/
structure DefAt (K : PySem.W.Frag) (mg : Str → Option Value) (x : Str) (st : Stmt) (f : Addr) (fd : FuncData) (ps : List Str) : Prop where
  F : Fun K x x st f fd
  m : mg x = some (.ref f)
  b : Binds K fd ps []
def pickU (ix : List Nat) (us ws : List Value) : List Value := ix.map fun i => (us ++ ws).getD i .none
def pickV (ix : List Nat) (vs zs : List V) : List V := ix.map fun i => (vs ++ zs).getD i .non
theorem rel_getD : ∀ {vs : List V} {us : List Value} (i : Nat), Vals vs us → L2.RelV (vs.getD i .non) (us.getD i .none)
  | _, _, _, .nil => by simp [L2.RelV]
  | _, _, 0, .cons r _ => r
  | _, _, i + 1, .cons _ t => rel_getD i t
theorem rel_pick {vs zs : List V} {us ws : List Value} (r : Vals vs us) (rz : Vals zs ws) : ∀ ix : List Nat, Vals (pickV ix vs zs) (pickU ix us ws)
  | [] => .nil
  | i :: ix => .cons (rel_getD i (r.append rz)) (rel_pick r rz ix)
end G
namespace L2
open PySem PySem.Spec PyProof.Rows
theorem Fun.kbn {K : PySem.W.Frag} {x qual : Str} {st : Stmt} {f : Addr} {fd : FuncData} {ps : List Str} (F : Fun K x qual st f fd) (n : Nat) (ks : List Str) (ix : List Nat)
    (h : ∀ (kV doc pm : Value) (an : Option Addr) (cdv ct : Value) (us ws : List Value), us.length = n → ws.length = ks.length → bindArgs (PySem.W.fnOf x qual (defArgs st) (defBody st) (defScope st) .none kV doc pm an cdv ct) ⟨us, ks.zip ws⟩ = pure (ps.zip (G.pickU ix us ws))) :
    KBn K fd ps n ks (G.pickU ix) (G.pickV ix) := by
  obtain ⟨oc, od, kV, doc, pm, an, cdv, ct, osl, rfl, lk, hcd⟩ := F.ex
  exact ⟨fun s us ws _ h1 h2 => .of_eq (h kV doc pm an cdv ct us ws h1 h2), fun r rz => G.rel_pick r rz ix⟩
end L2
namespace G
open PySem PySem.Spec PyProof.Rows L2
section
variable {X : Cx} {CX : CXT} {k n : Nat} {f : Addr} {fd : FuncData} {ps ks : List Str} {sp : Sp} {E : XK} {x : Str} {p pos : Pos} {kws : List Keyword} {tk : TA} {g : List Value → List Value → List Value} {gV : List V → List V → List V}
/-- f(k = v, ..), keywords alone -/
theorem pe_callN0 (F : FnOk X.prog X.w X.K X.mg X.base CX k f fd ps sp) (hr : Room k X.A) (hg : Gl X x) (hm : X.mg x = some (.ref f)) (hk : PySem.W.keepIn X.K (.ref f) = true) (hb : KBn X.K fd ps 0 ks g gV) (hx : Passes CX X E)
    (hkw : PK X kws tk) (hall : (backToKw pos (keywordEach kws X.env)).all (·.1.isSome) = true := by rfl) (hks : (backToKw pos (keywordEach kws X.env)).filterMap (·.1) = ks := by rfl)
    (hdb : (x == ("__debug__" : Str)) = false := by decide)
    (hpl : ((backTo pos (starEach [] X.env)).any (·.1) || (backToKw pos (keywordEach kws X.env)).any (·.1.isNone)) = false := by rfl) :
    PE X (.Call (.Name x p) [] kws pos) (tCallN 0 ks.length sp gV E tNil tk) := by
  refine ⟨fun pins s σ H Q I h => ?_⟩
  refine wpAny_Call_Name_kw (ld_glob I hg hm ?_ hdb)
  refine PySem.W.callWith_KW0 (h₀ := X.base) I.ok.mod.kin hk hall ?_ hpl
  refine thn (hkw.run pos pins s σ H _ I h) fun ws s2 ⟨zs, H2, I2, rz, l1, l2, q2⟩ => ⟨I2.kIn, ?_⟩
  rw [hks]
  exact run_fnN F hr hb hx I2 .nil rz l1 l2 q2
end
/-! ### list(range(a, b, c)) -/
def PRg3 (X : Cx) (e : Expr) (t : L2.St → Hp → (Int → Int → Int → Hp → Prop) → Prop) : Prop :=
  ∀ (pins : List (Addr × Obj)) (s : Shared) (σ : L2.St) (H : Hp) (Q : Int → Int → Int → Hp → Prop), Inv X pins σ H s → t σ H Q →
    wpAny (model X.prog X.w) X.A (eval e X.env) (fun x s' => ∃ r a b c t u v H', x = .ref r ∧ IsRange s'.heap r a b c t u v ∧ Inv X pins σ H' s' ∧ Q a b c H') X.xe s
end G
namespace G
open PySem PySem.Spec PyProof.Rows L2
section
variable {X : Cx} {a b c e : Expr} {ta tb tc : TE} {te : L2.St → Hp → (Int → Int → Int → Hp → Prop) → Prop}
/-- what a range with a step asks -/
def RgOk3 (a b c : Int) (n : Nat) : Prop := c ≠ 0 ∧ c.natAbs.log2 < 9000 ∧ Builtin.Range.small a b c = true ∧ Builtin.Range.rangeSize a b c = n ∧ n ≤ 2 ^ 24
def tRg3 (ta tb tc : TE) : L2.St → Hp → (Int → Int → Int → Hp → Prop) → Prop := fun σ H Q => ta σ H fun x H1 => tb σ H1 fun y H2 => tc σ H2 fun z H3 => ∃ i j k, x = .int i ∧ y = .int j ∧ z = .int k ∧ (k ≠ 0 ∧ k.natAbs.log2 < 9000) ∧ Q i j k H3
theorem prg_3 {p pos : Pos} (hg : Gl X "range") (hm : X.mg "range" = none) (ha : PE X a ta) (hb : PE X b tb) (hc : PE X c tc) (na : starEach [a, b, c] X.env = (false, eval a X.env) :: starEach [b, c] X.env := by rfl)
    (nb : starEach [b, c] X.env = (false, eval b X.env) :: starEach [c] X.env := by rfl) (nc : starEach [c] X.env = (false, eval c X.env) :: starEach [] X.env := by rfl) (hp : (backTo pos (starEach [b, c] X.env)).any (·.1) = false := by rfl) (hp2 : (backTo pos (starEach [c] X.env)).any (·.1) = false := by rfl) : PRg3 X (.Call (.Name "range" p) [a, b, c] [] pos) (tRg3 ta tb tc) := by
  intro pins s σ H Q I h
  have hA : PA X [a, b, c] (tCons ta (tCons tb (tCons tc tNil))) := pa_cons ha (pa_cons hb (pa_cons hc pa_nil nc) nb) na
  refine Call_ (ld_blt I hg hm boot_range (PyProof.Rows.callWith_type1 (thn (hA.run pos pins s σ H (fun vs H3 => ∃ i j k, vs = [.int i, .int j, .int k] ∧ (k ≠ 0 ∧ k.natAbs.log2 < 9000) ∧ Q i j k H3) I ?_) fun us s1 ⟨vs, H1, I1, r1, q1⟩ => ?_) na hp))
  · show ta σ H _
    have h2 : ta σ H fun x H1 => tb σ H1 fun y H2 => tc σ H2 fun z H3 => ∃ i j k, x = .int i ∧ y = .int j ∧ z = .int k ∧ (k ≠ 0 ∧ k.natAbs.log2 < 9000) ∧ Q i j k H3 := h
    have e : (fun x H1 => tb σ H1 fun y H2 => tc σ H2 fun z H3 => ∃ i j k, [x, y, z] = [V.int i, .int j, .int k] ∧ (k ≠ 0 ∧ k.natAbs.log2 < 9000) ∧ Q i j k H3)
        = (fun x H1 => tb σ H1 fun y H2 => tc σ H2 fun z H3 => ∃ i j k, x = .int i ∧ y = .int j ∧ z = .int k ∧ (k ≠ 0 ∧ k.natAbs.log2 < 9000) ∧ Q i j k H3) := by
      funext x H1
      congr 1
      funext y H2
      congr 1
      funext z H3
      simp [and_assoc]
    show ta σ H (fun x H1 => tb σ H1 fun y H2 => tc σ H2 fun z H3 => ∃ i j k, [x, y, z] = [V.int i, .int j, .int k] ∧ (k ≠ 0 ∧ k.natAbs.log2 < 9000) ∧ Q i j k H3)
    rw [e]
    exact h2
  · obtain ⟨i, j, k, ev, ⟨c0, c1⟩, q⟩ := q1
    subst ev
    cases r1 with
    | cons r rr =>
      cases rr with
      | cons r' rr =>
        cases rr with
        | cons r'' rr =>
          cases rr
          obtain ⟨t, rfl⟩ := r
          obtain ⟨t', rfl⟩ := r'
          obtain ⟨t'', rfl⟩ := r''
          refine call_range_3 c0 ?_ (.inl (PyProof.noPylong_of_log2 c1))
          exact ⟨_, i, j, k, _, _, _, H1, rfl, IsRange.new _ _ _ _ _ _ _, I1.kept fun b u e => Heap.get?_push_of_some _ e, q⟩
/-- a, a + c, .. -/
def rgV3 (a c : Int) (n : Nat) : List V := (List.range n).map fun i => V.int (a + (i : Nat) * c)
theorem vals_rg3 {a c : Int} {n : Nat} {acc : Array Value} (h : ItemsOf (fun i v => ∃ t, v = .int (a + i * c) t) acc n) : Vals (rgV3 a c n) acc.toList := by
  have e : acc.toList.length = n := by rw [Array.length_toList]; exact h.1
  unfold rgV3
  rw [← e]
  refine vals_of_get acc.toList _ fun j u hj => ?_
  obtain ⟨t, rfl⟩ := h.2 j u (by rw [← hj, Array.getElem?_toList])
  exact ⟨t, rfl⟩
def tLstRg3 (te : L2.St → Hp → (Int → Int → Int → Hp → Prop) → Prop) : TE := fun σ H Q => te σ H fun a b c H1 => ∃ n, Builtin.Range.small a b c = true ∧ Builtin.Range.rangeSize a b c = (n : Nat) ∧ n ≤ 2 ^ 24 ∧ ∀ q, H1 q = none → Q (.ref q) (upd H1 q (.lst (rgV3 a c n)))
theorem pe_listRg3 {p pos : Pos} (hc : X.calm = true) (hg : Gl X "list") (hm : X.mg "list" = none) (he : PRg3 X e te) (na : starEach [e] X.env = (false, eval e X.env) :: starEach [] X.env := by rfl) : PE X (.Call (.Name "list" p) [e] [] pos) (tLstRg3 te) := by
  refine ⟨fun pins s σ H Q I h => ?_⟩
  refine Call_ (ld_blt I hg hm boot_list (PyProof.Rows.callWith_type1 (args_cons (thn (he pins s σ H _ I h) fun x s1 ⟨r, a, b, c, t, u, v, H1, ex, hr, I1, q⟩ => args_nil ?_) na) na))
  subst ex
  obtain ⟨n, sm, sz, b5, q⟩ := q
  refine call_list_range (n := n) (I1.ok.hd hc) hr sm sz b5 fun h' tk acc c' hk e' hi => ?_
  refine ⟨.ref s1.heap.objs.size, upd H1 s1.heap.objs.size (.lst (rgV3 a c n)), I1.laid hk (Nat.le_refl _) (show ObjOk X.prog X.w _ _ _ (.lst (rgV3 a c n)) from ⟨?_, acc.toList, c', vals_rg3 hi, ?_⟩), rfl, q _ (I1.hok.fresh (Nat.le_refl _))⟩
  · unfold rgV3
    rw [List.length_map, List.length_range, sizeLine_eq]
    exact b5
  · rw [Array.toArray_toList]; exact e'
end
end G

namespace G
open PySem PySem.Spec PyProof.Rows L2
section
variable {H H0 : Hp} {Q : VK} {vs : List V} {l : List (Addr × HO)}
theorem sz {n : Nat} (h : Nat.ble n sizeLine = true) : n ≤ sizeLine := Nat.le_of_ble_eq_true h
theorem i_newL (L : Led H0 l H) (s : vs.length ≤ sizeLine) (h : ∀ p H2, H p = none → H0 p = none → Led H0 ((p, .lst vs) :: l) H2 → Q (.ref p) H2) : NEWL vs H Q :=
  ⟨s, fun p np => h p _ np (L.fresh np) (L.new np)⟩
theorem i_newT (L : Led H0 l H) (s : vs.length ≤ sizeLine) (h : ∀ p H2, H p = none → H0 p = none → Led H0 ((p, .tup vs) :: l) H2 → Q (.ref p) H2) : NEWT vs H Q :=
  ⟨s, fun p np => h p _ np (L.fresh np) (L.new np)⟩
end
end G

namespace G
open PySem PySem.Spec PyProof.Rows L2
/-! ### data -/
def Lay (n : Nat) (d : PyData) : Prop := d.canLay0 = true ∧ d.depth ≤ n
theorem Lay.int (n : Nat) (i : Int) : Lay n (.int i) := ⟨by simp [PyData.canLay0], by simp [PyData.depth]⟩
theorem Lay.bool (n : Nat) (i : Bool) : Lay n (.bool i) := ⟨by simp [PyData.canLay0], by simp [PyData.depth]⟩
theorem Lay.none (n : Nat) : Lay n .none := ⟨by simp [PyData.canLay0], by simp [PyData.depth]⟩
theorem lay_all {n : Nat} : ∀ {ds : List PyData}, (∀ d ∈ ds, Lay n d) → PyData.canLayAll0 ds = true ∧ PyData.depthAll ds ≤ n
  | [], _ => ⟨by simp [PyData.canLayAll0], by simp [PyData.depthAll]⟩
  | d :: ds, h => by
    obtain ⟨a, b⟩ := lay_all fun x hx => h x (List.mem_cons_of_mem _ hx)
    obtain ⟨c, e⟩ := h d (List.mem_cons_self ..)
    refine ⟨by simp [PyData.canLayAll0, a, c], ?_⟩
    simp only [PyData.depthAll]
    exact Nat.max_le.mpr ⟨e, b⟩
theorem Lay.list {n : Nat} {ds : List PyData} (h : ∀ d ∈ ds, Lay n d) : Lay (n + 1) (.list ds) := by
  obtain ⟨a, b⟩ := lay_all h
  exact ⟨by simp [PyData.canLay0, a], by simp only [PyData.depth]; omega⟩
theorem Lay.tuple {n : Nat} {ds : List PyData} (h : ∀ d ∈ ds, Lay n d) : Lay (n + 1) (.tuple ds) := by
  obtain ⟨a, b⟩ := lay_all h
  exact ⟨by simp [PyData.canLay0, a], by simp only [PyData.depth]; omega⟩
theorem Lay.shaped {n : Nat} {d : PyData} (h : Lay n d) (hn : n ≤ 64 := by decide) : SeqAt.shaped d = true := by
  unfold SeqAt.shaped
  rw [h.1, decide_eq_true (Nat.le_trans h.2 hn)]
  rfl
theorem Lay.ints (xs : List Int) : Lay 1 (.list (xs.map PyData.int)) := Lay.list fun d hd => by
  obtain ⟨i, _, rfl⟩ := List.mem_map.mp hd
  exact Lay.int 0 i
theorem DpAll.ints {K : PySem.W.Frag} {H : Hp} : ∀ xs : List Int, DpAll K H (xs.map V.int) (xs.map PyData.int)
  | [] => .nil
  | _ :: xs => .cons (.int _) (DpAll.ints xs)
theorem Dp.ints {K : PySem.W.Frag} {H : Hp} {p : Addr} {xs : List Int} (h : H p = some (.lst (xs.map V.int))) : Dp K H (.ref p) (.list (xs.map PyData.int)) := .lst (.inl (.inl h)) (DpAll.ints xs)
section
variable {K : PySem.W.Frag} {H : Hp} {Q : VK} {v w : V} {d : PyData} {n : Nat}
theorem i_neSame (h1 : Dp K H v d) (h2 : Dp K H w d) (l : Lay n d) (hn : n ≤ 64) (h : Q (.bl false) H) : rNeD K v w H Q :=
  ⟨d, d, h1, h2, l.shaped hn, l.shaped hn, by rw [SeqAt.eqv_refl d l.1]; exact h⟩
theorem i_eqSame (h1 : Dp K H v d) (h2 : Dp K H w d) (l : Lay n d) (hn : n ≤ 64) (h : Q (.bl true) H) : rEqD K v w H Q :=
  ⟨d, d, h1, h2, l.shaped hn, l.shaped hn, by rw [SeqAt.eqv_refl d l.1]; exact h⟩
theorem i_isi {t u : String} {b : Bool} (ty : TyX K H v (.type t)) (k : kitB t u = some b) (h : Q (.bl b) H) : rIsi K [v, .ty u] H Q :=
  ⟨v, .ty u, .type t, .type u, b, rfl, .ty u, ty, kit_ty k, h⟩
end
/-! ### stores and appends by the ledger -/
section
variable {H0 H : Hp} {Q : Hp → Prop} {QV : VK} {l : List (Addr × HO)} {p : Addr} {xs : List V} {i : Int} {j : Nat} {v : V} {q1 q2 q3 q4 : Addr × HO} {K : PySem.W.Frag} {D : Ends} {σ : L2.St}
theorem i_gsub {to ti : TE} {t : TSet} {QS : L2.St → Hp → Prop} (h : to σ H fun o H1 => ti σ H1 fun i H2 => t o i v H2 fun H3 => QS σ H3) : gSub to ti t v σ H QS := h
theorem i_setL (s : H p = some (.lst xs)) (e : ixN xs.length i = some j) (h : Q (upd H p (.lst (xs.set j v)))) : rSetL (.ref p) (.int i) v H Q := ⟨p, xs, i, j, rfl, rfl, s, e, h⟩
theorem i_setL0 (L : Led H0 ((p, .lst xs) :: l) H) (e : ixN xs.length i = some j) (h : ∀ H2, Led H0 ((p, .lst (xs.set j v)) :: l) H2 → Q H2) : rSetL (.ref p) (.int i) v H Q := i_setL L.at0 e (h _ L.set0)
theorem i_setL1 (L : Led H0 (q1 :: (p, .lst xs) :: l) H) (e : ixN xs.length i = some j) (h : ∀ H2, Led H0 (q1 :: (p, .lst (xs.set j v)) :: l) H2 → Q H2) : rSetL (.ref p) (.int i) v H Q := i_setL L.at1 e (h _ L.set1)
theorem i_setL2 (L : Led H0 (q1 :: q2 :: (p, .lst xs) :: l) H) (e : ixN xs.length i = some j) (h : ∀ H2, Led H0 (q1 :: q2 :: (p, .lst (xs.set j v)) :: l) H2 → Q H2) : rSetL (.ref p) (.int i) v H Q := i_setL L.at2 e (h _ L.set2)
theorem i_bm {r : V → List V → Hp → VK → Prop} {T : String} {to : TE} {t : TA} (h : to σ H fun x H1 => tyV K T x H1 ∧ t σ H1 fun xs H2 => r x xs H2 QV) : tBM K T r to t σ H QV := h
theorem i_bm0 {r : V → List V → Hp → VK → Prop} {T : String} {to : TE} (h : to σ H fun x H1 => tyV K T x H1 ∧ r x [] H1 QV) : tBM0 K T r to σ H QV := h
theorem i_tyL {R : Prop} (s : H p = some (.lst xs)) (h : R) : tyV K "list" (.ref p) H ∧ R := ⟨.inl ⟨rfl, _, .inl (.inl s)⟩, h⟩
theorem i_app (s : H p = some (.lst xs)) (e : xs.length < sizeLine) (h : QV .non (upd H p (.lst (xs ++ [v])))) : rAppend (.ref p) [v] H QV := ⟨p, xs, v, rfl, rfl, s, e, h⟩
theorem i_app0 (L : Led H0 ((p, .lst xs) :: l) H) (e : xs.length < sizeLine) (h : ∀ H2, Led H0 ((p, .lst (xs ++ [v])) :: l) H2 → QV .non H2) : rAppend (.ref p) [v] H QV := i_app L.at0 e (h _ L.set0)
theorem i_app1 (L : Led H0 (q1 :: (p, .lst xs) :: l) H) (e : xs.length < sizeLine) (h : ∀ H2, Led H0 (q1 :: (p, .lst (xs ++ [v])) :: l) H2 → QV .non H2) : rAppend (.ref p) [v] H QV := i_app L.at1 e (h _ L.set1)
theorem i_app2 (L : Led H0 (q1 :: q2 :: (p, .lst xs) :: l) H) (e : xs.length < sizeLine) (h : ∀ H2, Led H0 (q1 :: q2 :: (p, .lst (xs ++ [v])) :: l) H2 → QV .non H2) : rAppend (.ref p) [v] H QV := i_app L.at2 e (h _ L.set2)
theorem i_app3 (L : Led H0 (q1 :: q2 :: q3 :: (p, .lst xs) :: l) H) (e : xs.length < sizeLine) (h : ∀ H2, Led H0 (q1 :: q2 :: q3 :: (p, .lst (xs ++ [v])) :: l) H2 → QV .non H2) : rAppend (.ref p) [v] H QV := i_app L.at3 e (h _ L.set3)
theorem i_slL {lo hi : Option Int} (L : Led H0 l H) (s : SqL K H p xs) (h : ∀ a H2, H a = none → H0 a = none → Led H0 ((a, .lst (cutV xs lo hi)) :: l) H2 → QV (.ref a) H2) : rSlL K (.ref p) lo hi H QV :=
  ⟨p, xs, rfl, s, fun a na => h a _ na (L.fresh na) (L.new na)⟩
theorem i_sl {r : V → Option Int → Option Int → Hp → VK → Prop} {te : TE} {tl th : TO} (h : te σ H fun x H1 => tl σ H1 fun l H2 => th σ H2 fun u H3 => r x l u H3 QV) : tSl r te tl th σ H QV := h
theorem i_noPart {QO : Option Int → Hp → Prop} (h : QO none H) : tNoPart σ H QO := h
theorem i_part {t : TE} {QO : Option Int → Hp → Prop} (h : t σ H fun x H1 => ∃ i, x = .int i ∧ QO (some i) H1) : tPart t σ H QO := h
theorem i_isInt {R : Int → Prop} (h : R i) : ∃ k, V.int i = .int k ∧ R k := ⟨i, rfl, h⟩
end
end G

namespace G
open PySem PySem.Spec PyProof.Rows L2
/-! ### loops -/
def FOR (J : It) (g : TG) (tb : TS) (D : Ends) (σ : L2.St) (H : Hp) : Prop := ∃ W : Nat → Nat → L2.St → Hp → Prop, (∃ m, W 0 m σ H) ∧ ∀ i m σ H, W i m σ H →
      (J.stop i H ∧ D.nx σ H) ∨ (J.go i H ∧ ∃ N : L2.St → Hp → Prop, (∀ σ' H', N σ' H' → ∃ m', m' < m ∧ W (i + 1) m' σ' H') ∧ ∀ x H', J.yld i H x H' → g x σ H' fun σ2 H2 => tb { D with nx := N, ct := N, bk := D.nx } σ2 H2)
section
variable {wi : TI} {g : TG} {tb : TS} {c : TT} {D : Ends} {σ : L2.St} {H : Hp} {tl : TA} {te : TE} {R : It → Hp → Prop} {K : PySem.W.Frag} {a : Addr} {xs : List V} {i j : Int}
theorem i_for (h : wi σ H fun J H1 => FOR J g tb D σ H1) : tFor wi g tb D σ H := h
theorem i_rng1 (h : tl σ H fun vs H1 => ∃ j : Int, vs = [.int j] ∧ -(2 ^ 62) ≤ j ∧ j < 2 ^ 62 ∧ R (Itr 0 j.toNat) H1) : iRng1 tl σ H R := h
theorem i_rng2 (h : tl σ H fun vs H1 => ∃ i j : Int, vs = [.int i, .int j] ∧ (-(2 ^ 62) ≤ i ∧ i < 2 ^ 62 ∧ -(2 ^ 62) ≤ j ∧ j < 2 ^ 62) ∧ R (Itr i (j - i).toNat) H1) : iRng2 tl σ H R := h
theorem i_rng1v {P : Int → Prop} (b : -(2 ^ 62) ≤ j ∧ j < 2 ^ 62) (h : P j) : ∃ j' : Int, [V.int j] = [.int j'] ∧ -(2 ^ 62) ≤ j' ∧ j' < 2 ^ 62 ∧ P j' := ⟨j, rfl, b.1, b.2, h⟩
theorem i_rng2v {P : Int → Int → Prop} (b : -(2 ^ 62) ≤ i ∧ i < 2 ^ 62 ∧ -(2 ^ 62) ≤ j ∧ j < 2 ^ 62) (h : P i j) : ∃ i' j' : Int, [V.int i, V.int j] = [.int i', .int j'] ∧ (-(2 ^ 62) ≤ i' ∧ i' < 2 ^ 62 ∧ -(2 ^ 62) ≤ j' ∧ j' < 2 ^ 62) ∧ P i' j' := ⟨i, j, rfl, b, h⟩
theorem i_list (h : te σ H fun x H1 => ∃ a, x = .ref a ∧ (∃ xs, SqL K H1 a xs) ∧ R (Itl K a) H1) : iList K te σ H R := h
theorem i_listv {P : Addr → Prop} (s : SqL K H a xs) (h : P a) : ∃ a', V.ref a = .ref a' ∧ (∃ xs, SqL K H a' xs) ∧ P a' := ⟨a, rfl, ⟨xs, s⟩, h⟩
theorem i_listt (h : te σ H fun x H1 => ∃ a, x = .ref a ∧ (∃ xs, SqT K H1 a xs) ∧ R (Itt K a) H1) : iTup K te σ H R := h
theorem i_listtv {P : Addr → Prop} (s : SqT K H a xs) (h : P a) : ∃ a', V.ref a = .ref a' ∧ (∃ xs, SqT K H a' xs) ∧ P a' := ⟨a, rfl, ⟨xs, s⟩, h⟩
theorem FOR.range {n : Nat} (Pv : Nat → L2.St → Hp → Prop) (h0 : Pv 0 σ H)
    (hs : ∀ i σ H, i < n → Pv i σ H → g (.int (i : Nat)) σ H fun σ2 H2 => tb { D with nx := Pv (i + 1), ct := Pv (i + 1), bk := D.nx } σ2 H2) (hd : ∀ σ H, Pv n σ H → D.nx σ H) : FOR (Itr 0 n) g tb D σ H :=
  for_range (lo := 0) Pv h0 (fun i σ H hi p => by
    have e : (0 : Int) + (i : Nat) = (i : Nat) := Int.zero_add _
    rw [e]
    exact hs i σ H hi p) hd
theorem FOR.rangeL {lo : Int} {n : Nat} (Pv : Nat → L2.St → Hp → Prop) (h0 : Pv 0 σ H)
    (hs : ∀ i σ H, i < n → Pv i σ H → g (.int (lo + (i : Nat))) σ H fun σ2 H2 => tb { D with nx := Pv (i + 1), ct := Pv (i + 1), bk := D.nx } σ2 H2) (hd : ∀ σ H, Pv n σ H → D.nx σ H) : FOR (Itr lo n) g tb D σ H :=
  for_range (lo := lo) Pv h0 hs hd
theorem FOR.list (Pv : Nat → L2.St → Hp → Prop) (h0 : Pv 0 σ H) (hl : ∀ i σ H, i ≤ xs.length → Pv i σ H → SqL K H a xs)
    (hs : ∀ i x σ H, xs[i]? = some x → Pv i σ H → g x σ H fun σ2 H2 => tb { D with nx := Pv (i + 1), ct := Pv (i + 1), bk := D.nx } σ2 H2) (hd : ∀ σ H, Pv xs.length σ H → D.nx σ H) : FOR (Itl K a) g tb D σ H :=
  for_list (K := K) (a := a) (xs := xs) Pv h0 hl hs hd
theorem FOR.tup (Pv : Nat → L2.St → Hp → Prop) (h0 : Pv 0 σ H) (hl : ∀ i σ H, i ≤ xs.length → Pv i σ H → SqT K H a xs)
    (hs : ∀ i x σ H, xs[i]? = some x → Pv i σ H → g x σ H fun σ2 H2 => tb { D with nx := Pv (i + 1), ct := Pv (i + 1), bk := D.nx } σ2 H2) (hd : ∀ σ H, Pv xs.length σ H → D.nx σ H) : FOR (Itt K a) g tb D σ H :=
  for_tup (K := K) (a := a) (xs := xs) Pv h0 hl hs hd
theorem i_while (W : Nat → L2.St → Hp → Prop) (m : Nat) (h0 : W m σ H) (hs : ∀ m σ H, W m σ H → c σ H fun b H1 => if b = true then ∃ N : L2.St → Hp → Prop, (∀ σ' H', N σ' H' → ∃ m', m' < m ∧ W m' σ' H') ∧ tb { D with nx := N, ct := N, bk := D.nx } σ H1 else D.nx σ H1) : tWhile c tb D σ H := ⟨W, ⟨m, h0⟩, hs⟩
theorem i_turn {W : Nat → L2.St → Hp → Prop} {m : Nat} {B : (L2.St → Hp → Prop) → Prop} (h : B (fun σ' H' => ∃ m', m' < m ∧ W m' σ' H')) :
    ∃ N : L2.St → Hp → Prop, (∀ σ' H', N σ' H' → ∃ m', m' < m ∧ W m' σ' H') ∧ B N := ⟨_, fun _ _ h => h, h⟩
theorem map_get {α : Type} {f : α → V} {ns : List α} {i : Nat} {v : V} (h : (ns.map f)[i]? = some v) : ∃ n, ns[i]? = some n ∧ v = f n := by
  rw [List.getElem?_map] at h
  cases e : ns[i]? with
  | none => rw [e] at h; cases h
  | some n => rw [e] at h; exact ⟨n, rfl, (Option.some.inj h).symm⟩
end
end G

namespace G
open PySem PySem.Spec PyProof.Rows L2
theorem i_pow {H : Hp} {Q : VK} {i j z : Int} (c : CPow i j) (e : i ^ j.toNat = z) (h : Q (.int z) H) : rI CPow (fun i j => V.int (i ^ j.toNat)) (.int i) (.int j) H Q := ⟨i, j, rfl, rfl, c, by rw [← e] at h; exact h⟩
end G
namespace G
open PySem PySem.Spec PyProof.Rows L2
section
variable {K : PySem.W.Frag} {H : Hp} {Q : VK} {p : Addr} {xs : List V} {i : Int}
theorem all_nil {P : V → Prop} : ∀ x ∈ ([] : List V), P x := fun x hx => by cases hx
theorem all_cons {P : V → Prop} {y : V} {ys : List V} (h : P y) (t : ∀ x ∈ ys, P x) : ∀ x ∈ y :: ys, P x := fun x hx => by
  rcases List.mem_cons.mp hx with rfl | hx
  · exact h
  · exact t x hx
theorem i_ixP (P : V → Prop) (s : H p = some (.lst xs)) (hP : ∀ x ∈ xs, P x) (h0 : 0 ≤ i ∧ i < xs.length) (h : ∀ v, P v → Q v H) : rIxL K (.ref p) (.int i) H Q := by
  obtain ⟨v, e, pv⟩ := atI_all P hP h0.1 h0.2
  exact i_ixL s e (h v pv)
theorem i_ixB (lo hi : Int) (s : H p = some (.lst xs)) (hP : ∀ x ∈ xs, ∃ z, x = V.int z ∧ lo ≤ z ∧ z ≤ hi) (h0 : 0 ≤ i ∧ i < xs.length) (h : ∀ z, lo ≤ z → z ≤ hi → Q (.int z) H) : rIxL K (.ref p) (.int i) H Q :=
  i_ixP _ s hP h0 fun v ⟨z, e, a, b⟩ => by rw [e]; exact h z a b
end
end G

namespace G
open PySem PySem.Spec PyProof.Rows L2
section
variable {H H0 : Hp} {Q : VK} {l : List (Addr × HO)} {σ : L2.St}
/-- list(range(i, j, k)) -/
def LRG (i j k : Int) (H : Hp) (Q : VK) : Prop := ∃ n, Builtin.Range.small i j k = true ∧ Builtin.Range.rangeSize i j k = (n : Nat) ∧ n ≤ 2 ^ 24 ∧ ∀ q, H q = none → Q (.ref q) (upd H q (.lst (rgV3 i k n)))
theorem i_listRg3 {te : L2.St → Hp → (Int → Int → Int → Hp → Prop) → Prop} (h : te σ H fun a b c H1 => LRG a b c H1 Q) : tLstRg3 te σ H Q := h
theorem i_rg3 {ta tb tc : TE} {R : Int → Int → Int → Hp → Prop} (h : ta σ H fun x H1 => tb σ H1 fun y H2 => tc σ H2 fun z H3 => ∃ i j k, x = .int i ∧ y = .int j ∧ z = .int k ∧ (k ≠ 0 ∧ k.natAbs.log2 < 9000) ∧ R i j k H3) : tRg3 ta tb tc σ H R := h
theorem i_rg3v {P : Int → Int → Int → Prop} {i j k : Int} (b : k ≠ 0 ∧ k.natAbs.log2 < 9000) (h : P i j k) : ∃ i' j' k', V.int i = .int i' ∧ V.int j = .int j' ∧ V.int k = .int k' ∧ (k' ≠ 0 ∧ k'.natAbs.log2 < 9000) ∧ P i' j' k' := ⟨i, j, k, rfl, rfl, rfl, b, h⟩
theorem small_up {a b c : Int} (h : 0 < c) (ha : -(2 ^ 61) ≤ a) (ha' : a < 2 ^ 61) (hb : -(2 ^ 61) ≤ b) (hb' : b < 2 ^ 61) (hc : c < 2 ^ 61) (n0 : 0 ≤ Builtin.Range.rangeSize a b c) (n1 : Builtin.Range.rangeSize a b c < 2 ^ 61) : Builtin.Range.small a b c = true := by
  unfold Builtin.Range.small
  generalize Builtin.Range.rangeSize a b c = n at n0 n1 ⊢
  simp only [Builtin.Range.rangeFitsLong, Bool.and_eq_true, Bool.or_eq_true, decide_eq_true_eq, beq_iff_eq, if_pos h, gt_iff_lt]
  omega
theorem i_LRG {i j k : Int} (L : Led H0 l H) (n : Nat) (hs : Builtin.Range.small i j k = true) (hn : Builtin.Range.rangeSize i j k = (n : Nat)) (hb : n ≤ 2 ^ 24) (h : ∀ p H2, H p = none → H0 p = none → Led H0 ((p, .lst (rgV3 i k n)) :: l) H2 → Q (.ref p) H2) : LRG i j k H Q :=
  ⟨n, hs, hn, hb, fun p np => h p _ np (L.fresh np) (L.new np)⟩
end
end G
namespace G
open PySem PySem.Spec PyProof.Rows L2
/-- all but one stands -/
def But (a : Addr) (H H' : Hp) : Prop := ∀ b o, H b = some o → b ≠ a → H' b = some o
section
variable {H0 H H1 H2 : Hp} {a p : Addr} {l : List (Addr × HO)} {o : HO} {m : Int}
theorem But.trans (x : But a H H1) (y : But a H1 H2) : But a H H2 := fun b o e n => y b o (x b o e n) n
theorem But.of (x : Same H H1) : But a H H1 := fun b o e _ => x b o e
theorem But.refl : But a H H := fun _ _ e _ => e
def AllNew (H0 : Hp) : List (Addr × HO) → Prop
  | [] => True
  | q :: l => H0 q.1 = none ∧ AllNew H0 l
theorem AllNew.mem : ∀ {l : List (Addr × HO)}, AllNew H0 l → ∀ q ∈ l, H0 q.1 = none
  | _ :: _, h, q, hq => by
    rcases List.mem_cons.mp hq with rfl | hq
    · exact h.1
    · exact h.2.mem q hq
theorem Led.toS (L : Led H0 l H) (n : AllNew H0 l) : Same H0 H := fun a o e => L.old a o e fun q hq h => by
  have := n.mem q hq
  rw [← h, e] at this
  cases this
end
end G
namespace G
open PySem PySem.Spec PyProof.Rows L2
section
variable {K : PySem.W.Frag} {H : Hp} {Q : VK} {v w : V} {d : PyData} {n : Nat}
theorem i_neS (h1 : Dp K H v d) (h2 : Dp K H w d) (s : SeqAt.shaped d = true) (h : Q (.bl false) H) : rNeD K v w H Q :=
  ⟨d, d, h1, h2, s, s, by rw [SeqAt.eqv_refl d (SeqAt.canLay_of_shaped s)]; exact h⟩
theorem i_eqS (h1 : Dp K H v d) (h2 : Dp K H w d) (s : SeqAt.shaped d = true) (h : Q (.bl true) H) : rEqD K v w H Q :=
  ⟨d, d, h1, h2, s, s, by rw [SeqAt.eqv_refl d (SeqAt.canLay_of_shaped s)]; exact h⟩
end
end G
namespace G
open PySem PySem.Spec PyProof.Rows L2
theorem kb_int_int : kitB "int" "int" = some true := by decide +kernel
theorem kb_int_bool : kitB "int" "bool" = some false := by decide +kernel
theorem kb_bool_bool : kitB "bool" "bool" = some true := by decide +kernel
theorem kb_bool_int : kitB "bool" "int" = some true := by decide +kernel
theorem kb_list_list : kitB "list" "list" = some true := by decide +kernel
theorem kb_tuple_tuple : kitB "tuple" "tuple" = some true := by decide +kernel
theorem kb_list_tuple : kitB "list" "tuple" = some false := by decide +kernel
theorem kb_tuple_list : kitB "tuple" "list" = some false := by decide +kernel
theorem kb_str_str : kitB "str" "str" = some true := by decide +kernel
section
variable {K : PySem.W.Frag} {H : Hp} {Q : VK} {i : Int} {b : Bool} {p : Addr} {xs : List V}
theorem i_isi_ii (h : Q (.bl true) H) : rIsi K [.int i, .ty "int"] H Q := i_isi (.base (.int _)) kb_int_int h
theorem i_isi_ib (h : Q (.bl false) H) : rIsi K [.int i, .ty "bool"] H Q := i_isi (.base (.int _)) kb_int_bool h
theorem i_isi_bb (h : Q (.bl true) H) : rIsi K [.bl b, .ty "bool"] H Q := i_isi (.base (.bl _)) kb_bool_bool h
theorem i_isi_ll (s : H p = some (.lst xs)) (h : Q (.bl true) H) : rIsi K [.ref p, .ty "list"] H Q := i_isi (.base (.lst s)) kb_list_list h
theorem i_isi_tt (s : H p = some (.tup xs)) (h : Q (.bl true) H) : rIsi K [.ref p, .ty "tuple"] H Q := i_isi (.base (.tup s)) kb_tuple_tuple h
end
end G
namespace G
open PySem PySem.Spec PyProof.Rows L2
section
variable {K : PySem.W.Frag} {H H0 : Hp} {Q : VK} {p q a : Addr} {xs ys : List V} {l : List (Addr × HO)} {P : Addr → Prop} {lo hi : Option Int}
theorem i_listv0 (s : H a = some (.lst xs)) (h : P a) : ∃ a', V.ref a = .ref a' ∧ (∃ xs, SqL K H a' xs) ∧ P a' := ⟨a, rfl, ⟨xs, .inl (.inl s)⟩, h⟩
theorem i_listtv0 (s : H a = some (.tup xs)) (h : P a) : ∃ a', V.ref a = .ref a' ∧ (∃ xs, SqT K H a' xs) ∧ P a' := ⟨a, rfl, ⟨xs, .inl (.inl s)⟩, h⟩
theorem i_cat (L : Led H0 l H) (h1 : H p = some (.lst xs)) (h2 : H q = some (.lst ys)) (z : xs.length + ys.length ≤ sizeLine) (h : ∀ a H2, H a = none → H0 a = none → Led H0 ((a, .lst (xs ++ ys)) :: l) H2 → Q (.ref a) H2) : rCat (.ref p) (.ref q) H Q :=
  ⟨p, q, xs, ys, rfl, rfl, h1, h2, z, fun a na => h a _ na (L.fresh na) (L.new na)⟩
theorem i_slL0 (L : Led H0 l H) (s : H p = some (.lst xs)) (h : ∀ a H2, H a = none → H0 a = none → Led H0 ((a, .lst (cutV xs lo hi)) :: l) H2 → Q (.ref a) H2) : rSlL K (.ref p) lo hi H Q :=
  ⟨p, xs, rfl, .inl (.inl s), fun a na => h a _ na (L.fresh na) (L.new na)⟩
end
end G
namespace G
open PySem PySem.Spec PyProof.Rows L2
theorem cutV_mem {xs : List V} {lo hi : Option Int} {x : V} (h : x ∈ cutV xs lo hi) : x ∈ xs := by
  unfold cutV at h
  exact List.mem_of_mem_drop (List.mem_of_mem_take h)
theorem cut_int {ns : List Int} {lo hi : Option Int} {i : Nat} {x : V} {zs : List Int} (h : (cutV (ns.map V.int) lo hi ++ zs.map V.int)[i]? = some x) : ∃ n, x = .int n := by
  have := List.mem_of_getElem? h
  rcases List.mem_append.mp this with h | h
  · obtain ⟨n, _, e⟩ := List.mem_map.mp (cutV_mem h)
    exact ⟨n, e.symm⟩
  · obtain ⟨n, _, e⟩ := List.mem_map.mp h
    exact ⟨n, e.symm⟩
end G

/-! set(x) of a list of ints -/
namespace GS
open PySem PySem.Spec PyProof.Rows L2
section
variable {P : Program} {w : World} {A : Around} {E : Value → Shared → Prop} {s : Shared}
/-- the empty set that set.__new__ makes -/
abbrev mt (w : World) : Obj := { cls := .type "set", dict := none, data := .set #[] 0 (.fresh 0 0 (!w.params.followText "set-order")) }
/-- what is asked of set.__init__'s end -/
abbrev InitEnd (P : Program) (w : World) (A : Around) (E : Value → Shared → Prop) (Q : Shared → Prop) : Fin → Shared → Prop := fun fin s' => match fin with
  | .done f => wants (fun r s₂ => r = .none ∧ Q s₂) E (.ok f) s'
  | .again c => c.quiet = true ∧ codeAny (model P w) A c (wants (fun r s₂ => r = .none ∧ Q s₂) E) s'
set_option maxHeartbeats 8000000 in
theorem set_call {a : Value} {Q : Value → Shared → Prop}
    (hI : wpAny (model P w) A.in1.in1 (Builtin.«set.__init__» ⟨[.ref s.heap.objs.size, a], []⟩) (InitEnd P w A.in1 E (Q (.ref s.heap.objs.size))) (fun e s' => wants (fun r s₂ => r = .none ∧ Q (.ref s.heap.objs.size) s₂) E (.error e) s') { s with heap := s.heap.push (mt w) }) :
    wpAny (model P w) A (call (.type "set") [a]) Q E s := by
  have cs := F.called_set
  obtain ⟨c, tl, hmro⟩ := cs.mro
  have m1 := cs.made; have m2 := cs.sub; have m3 := cs.notType; have m4 := cs.canCreate; have m5 := F.typeCall_set_1 a
  apply wpAny_call; apply codeAny_of_tree
  show wpAny _ _ (callAny (.type "set") _) _ _ _
  apply wpAny_pure
  refine ⟨Code.quiet_builtin _ (by decide +kernel), ?_⟩
  apply codeAny_builtin F.entry_type_call; rw [Around.under_plain (weight_type_call_type "set" [a] []) rfl]
  repeat (any_goals (first | assumption | wp_step))
  refine codeAny_mono (code_set_led1 a (E := E) (Q₁ := fun obj z => obj = .ref s.heap.objs.size ∧ z = { s with heap := s.heap.push (mt w) }) ⟨rfl, rfl⟩) ?_
  rintro (e | fl) z hz
  · exact hz
  · cases fl with
    | ret obj =>
      obtain ⟨rfl, rfl⟩ := hz
      have hS : (s.heap.push (mt w)).get? s.heap.objs.size = some (mt w) := Heap.get?_push_size _ rfl
      have hT : Shared.TypeIs { s with heap := s.heap.push (mt w) } (.ref s.heap.objs.size) "set" := ⟨_, hS, rfl⟩
      have i1 := cs.init.lookup; have i2 := cs.init.bind (.ref s.heap.objs.size)
      repeat (any_goals (first | assumption | wp_step))
      refine codeAny_mono (codeAny_call_builtin cs.init.plain F.entry_set_init (check_set_init_1 hT hI)) ?_
      rintro (e | f2) z2 h2
      · exact h2
      · cases f2 with
        | ret r =>
          obtain ⟨rfl, hq⟩ := h2
          repeat (any_goals (first | assumption | wp_step))
        | _ => exact h2.elim
    | _ => exact hz.elim
set_option maxHeartbeats 8000000 in
theorem set_list {l : Addr} {items : Array Value} (ns : List Int) {Q : Value → Shared → Prop} (hh : A.handled = none) (hl : s.heap.IsList l items) (hit : IntsAre items.toList ns) (hb : ns.length + 1 < scanBound)
    (h : ∀ (h' : Heap) (tk c : Nat), SetR w h' s.heap.objs.size (fun j => decide (j ∈ ns)) c → c ≤ ns.length → (∀ b o, s.heap.get? b = some o → h'.get? b = some o) → Q (.ref s.heap.objs.size) { s with heap := h', toks := tk }) :
    wpAny (model P w) A (call (.type "set") [.ref l]) Q E s := by
  have sz : items.size = ns.length := by
    have q := IntsAre.length hit
    simpa using q
  refine set_call ?_
  obtain ⟨ol, hol, hcl, nl, hdl⟩ := hl
  obtain ⟨oc, od, odt, osl⟩ := ol
  dsimp only at hcl hdl
  subst hcl hdl
  have hlS : l < s.heap.objs.size := Heap.lt_size hol
  have o1 : (s.heap.push (mt w)).get? l = some { cls := .type "list", dict := od, data := .seq items nl, slots := osl } := Heap.get?_push_of_some _ hol
  have hS : (s.heap.push (mt w)).get? s.heap.objs.size = some (mt w) := Heap.get?_push_size _ rfl
  have b1 := F.sub_list_set; have b2 := F.sub_list_frozenset
  have b3 : (Value.type "list" == Value.type "dict") = false := by decide
  have l1 : (s.heap.push (mt w)).IsList l items := ⟨_, o1, rfl, nl, rfl⟩
  have z1 : (s.heap.push (mt w)).objs.size = s.heap.objs.size + 1 := Heap.size_push ..
  unfold Builtin.«set.__init__» noKeywords Builtin.Frozenset.updateFrom
  generalize hPI : pyIter = PI
  wp_walk
  subst hPI
  refine wpAny_pyIter_list l1 ?_
  apply wpAny_bind; apply wpAny_runValue
  have hne : l ≠ (s.heap.push (mt w)).objs.size := by rw [z1]; exact Nat.ne_of_lt (Nat.lt_succ_of_lt hlS)
  have nin : s.heap.objs.size ∉ [(s.heap.push (mt w)).objs.size, l] := by
    rw [z1]; simp only [List.mem_cons, List.not_mem_nil, or_false, not_or]
    exact ⟨Nat.ne_of_lt (Nat.lt_succ_self _), Nat.ne_of_gt hlS⟩
  have vals : ∀ (i : Nat) (v : Value), items[i]? = some v → ∃ k t, ns[i]? = some k ∧ v = .int k t := fun i v hv => by
    have hi : i < ns.length := by rw [← sz]; exact (Array.getElem?_eq_some_iff.mp hv).1
    obtain ⟨t, e⟩ := PyProof.Rows.IntsAre.int_at hit i v (by rw [Array.getElem?_toList]; exact hv)
    have ei : ns.getD i 0 = ns[i] := by rw [List.getD_eq_getElem?_getD, List.getElem?_eq_getElem hi]; rfl
    exact ⟨ns[i], t, List.getElem?_eq_getElem hi, by rw [e, ei]⟩
  have hh3 : A.in1.in1.in1.handled = none := by simp [hh]
  refine set_update_ints ((Walks.list hh3 _ l hne items).toS) s.heap.objs.size nin ns sz hb vals (items.size - 0) 0 _ (by omega) (Nat.zero_le _) ⟨⟨_, Heap.get?_push_size _ rfl, rfl, rfl⟩, l1.push _⟩ ⟨0, Nat.le_refl 0, setR_new_at (Heap.get?_push_of_some _ hS)⟩ ?_
  rintro ⟨h2, g2, d2, t2, os2⟩ c hm hc hR
  have e1 : g2 = s.gens := hm.gens
  have e2 : d2 = s.drawn := hm.drawn
  have e3 : os2 = s.os := hm.os
  subst e1 e2 e3
  show wpAny _ _ _ _ _ _
  apply wpAny_pure
  show wpAny _ _ (ret Value.none) _ _ _
  rw [sz] at hc
  refine wpAny_pure ⟨rfl, h h2 t2 c hR hc fun b o e => ?_⟩
  have hb0 : b < s.heap.objs.size := Heap.lt_size e
  refine hm.heap b o ?_ (Heap.get?_push_of_some _ (Heap.get?_push_of_some _ e))
  rw [z1]
  simp only [List.mem_cons, List.not_mem_nil, or_false, not_or]
  exact ⟨Nat.ne_of_lt hb0, Nat.ne_of_lt (Nat.lt_succ_of_lt hb0)⟩
/-! ### over the layer -/
/-- set(xs), a list of ints: a new set -/
def rSetLI (K : PySem.W.Frag) (w : World) : List V → Hp → VK → Prop := fun vs H Q => ∃ (a : Addr) (ns : List Int), vs = [V.ref a] ∧ SqL K H a (ns.map V.int) ∧ ns.length + 1 < scanBound ∧
  ∀ (p : Addr) (c : Nat), H p = none → c ≤ ns.length → Q (.ref p) (upd H p (SetO w p (fun j => decide (j ∈ ns)) c))
theorem cr_setLI {X : Cx} (hc : X.calm = true) : CallR X (.type "set") (rSetLI X.K X.w) := by
  intro pins s σ H vs us Q I r h
  obtain ⟨a, ns, rfl, hs, hb, q⟩ := h
  rw [Vals.ref1 r]
  obtain ⟨its, rv, hl, hz⟩ := I.list hs
  refine set_list ns (I.ok.hd hc) hl.isList (by simpa using ints_of_vals rv) hb fun h' tk c R hcn k => ?_
  have hn : H s.heap.objs.size = none := I.hok.fresh (Nat.le_refl _)
  exact ⟨.ref s.heap.objs.size, _, I.laid k (Nat.le_refl _) (setO_new R), rfl, q _ c hn hcn⟩
end
end GS

namespace G
open PySem PySem.Spec PyProof.Rows L2

/-! ### a heap F of things that stay, and a ledger of things that change -/
structure LF (F : Hp) (l : List (Addr × HO)) (H : Hp) : Prop where
  same : Same F H
  at_ : ∀ (i : Nat) (a : Addr) (o : HO), l[i]? = some (a, o) → H a = some o
  new : ∀ q ∈ l, F q.1 = none
  nd : (l.map (·.1)).Nodup
def cut (H : Hp) (a : Addr) : Hp := fun b => if b = a then none else H b
theorem cut_same {H : Hp} {a : Addr} : cut H a a = none := by unfold cut; rw [if_pos rfl]
theorem cut_ne {H : Hp} {a b : Addr} (h : b ≠ a) : cut H a b = H b := by unfold cut; rw [if_neg h]
theorem cut_le {H : Hp} {a : Addr} : Same (cut H a) H := fun b o e => by
  by_cases h : b = a
  · subst h
    rw [cut_same] at e
    cases e
  · rwa [cut_ne h] at e
theorem cut_mono {H H' : Hp} {a : Addr} (k : But a H H') : Same (cut H a) H' := fun b o e => by
  by_cases h : b = a
  · subst h
    rw [cut_same] at e
    cases e
  · rw [cut_ne h] at e
    exact k b o e h
theorem same_upd {H : Hp} {p : Addr} {o : HO} (n : H p = none) : Same H (upd H p o) := fun b u e => by
  rw [upd_ne (ne_of_none e n)]
  exact e
section
variable {F F' H H' : Hp} {l : List (Addr × HO)} {p a : Addr} {o o' u : HO} {q q1 q2 q3 q4 q5 : Addr × HO}
theorem LF.nil : LF H [] H := ⟨Same.refl H, fun i a o h => by simp at h, fun q h => (by cases h), List.nodup_nil⟩
theorem LF.one (e : H a = some o) : LF (cut H a) [(a, o)] H := by
  refine ⟨cut_le, fun i b u h => ?_, fun q h => ?_, by simp⟩
  · match i, h with
    | 0, h =>
      cases h
      exact e
    | i + 1, h => simp at h
  · rcases List.mem_cons.mp h with rfl | h
    · exact cut_same
    · cases h
theorem LF.free (L : LF F l H) (n : H p = none) : F p = none := L.same.free n
theorem LF.notin (L : LF F l H) (n : H p = none) : ∀ q ∈ l, p ≠ q.1 := fun q hq e => by
  obtain ⟨i, hi, hq⟩ := List.mem_iff_getElem.mp hq
  have h := L.at_ i q.1 q.2 (by rw [List.getElem?_eq_getElem hi, hq])
  rw [← e, n] at h
  cases h
theorem nd_cons (nd : (l.map (·.1)).Nodup) (n : ∀ q ∈ l, p ≠ q.1) : (((p, o) :: l).map (·.1)).Nodup := by
  rw [List.map_cons, List.nodup_cons]
  refine ⟨fun hm => ?_, nd⟩
  obtain ⟨q, hq, e⟩ := List.mem_map.mp hm
  exact n q hq e.symm
/-- a new thing that may change -/
theorem LF.new' (L : LF F l H) (s : Same H H') (n : H p = none) (e : H' p = some o) : LF F ((p, o) :: l) H' := by
  refine ⟨L.same.trans s, fun i a u h => ?_, fun q hq => ?_, nd_cons L.nd (L.notin n)⟩
  · cases i with
    | zero =>
      simp at h
      obtain ⟨rfl, rfl⟩ := h
      exact e
    | succ i => exact s _ _ (L.at_ i a u (by simpa using h))
  · rcases List.mem_cons.mp hq with rfl | hq
    · exact L.free n
    · exact L.new q hq
theorem LF.add (L : LF F l H) (n : H p = none) : LF F ((p, o) :: l) (upd H p o) := L.new' (same_upd n) n upd_same
/-- a new thing that stays -/
theorem LF.grow' (L : LF F l H) (s : Same H H') (n : H p = none) (e : H' p = some o) : LF (upd F p o) l H' := by
  refine ⟨fun b u eb => ?_, fun i a u h => s _ _ (L.at_ i a u h), fun q hq => ?_, L.nd⟩
  · by_cases hb : b = p
    · subst hb
      rw [upd_same] at eb
      cases eb
      exact e
    · rw [upd_ne hb] at eb
      exact s _ _ (L.same b u eb)
  · rw [upd_ne (L.notin n q hq).symm]
    exact L.new q hq
theorem LF.grow (L : LF F l H) (n : H p = none) : LF (upd F p o) l (upd H p o) := L.grow' (same_upd n) n upd_same
/-- what a call made and left is known -/
theorem LF.step (L : LF F l H) (s : Same H H') : LF F l H' := ⟨L.same.trans s, fun i a o h => s _ _ (L.at_ i a o h), L.new, L.nd⟩
/-- the first of the ledger stays from now on -/
theorem LF.frz (L : LF F ((p, o) :: l) H) : LF (upd F p o) l H := by
  have nd := L.nd
  rw [List.map_cons, List.nodup_cons] at nd
  refine ⟨fun b u eb => ?_, fun i a u h => L.at_ (i + 1) a u (by simpa using h), fun q hq => ?_, nd.2⟩
  · by_cases hb : b = p
    · subst hb
      rw [upd_same] at eb
      cases eb
      exact L.at_ 0 b o rfl
    · rw [upd_ne hb] at eb
      exact L.same b u eb
  · rw [upd_ne (fun e => nd.1 (by rw [← e]; exact List.mem_map.mpr ⟨q, hq, rfl⟩))]
    exact L.new q (List.mem_cons_of_mem _ hq)
theorem LF.tl (L : LF F ((p, o) :: l) H) : LF F l H := by
  have nd := L.nd
  rw [List.map_cons, List.nodup_cons] at nd
  exact ⟨L.same, fun i a u h => L.at_ (i + 1) a u (by simpa using h), fun q hq => L.new q (List.mem_cons_of_mem _ hq), nd.2⟩
theorem LF.swap (L : LF F (q :: q1 :: l) H) : LF F (q1 :: q :: l) H := by
  have nd := L.nd
  rw [List.map_cons, List.map_cons, List.nodup_cons, List.nodup_cons] at nd
  refine ⟨L.same, fun i a u h => ?_, fun x hx => L.new x ?_, ?_⟩
  · match i, h with
    | 0, h => exact L.at_ 1 a u h
    | 1, h => exact L.at_ 0 a u h
    | i + 2, h => exact L.at_ (i + 2) a u h
  · rcases List.mem_cons.mp hx with rfl | hx
    · exact List.mem_cons_of_mem _ (List.mem_cons_self ..)
    · rcases List.mem_cons.mp hx with rfl | hx
      · exact List.mem_cons_self ..
      · exact List.mem_cons_of_mem _ (List.mem_cons_of_mem _ hx)
  · rw [List.map_cons, List.map_cons, List.nodup_cons, List.nodup_cons]
    refine ⟨fun h => ?_, fun h => nd.1 (List.mem_cons_of_mem _ h), nd.2.2⟩
    rcases List.mem_cons.mp h with h | h
    · exact nd.1 (by rw [h]; exact List.mem_cons_self ..)
    · exact nd.2.1 h
theorem LF.tl1 (L : LF F (q :: q1 :: l) H) : LF F (q :: l) H := L.swap.tl
/-- less stays -/
theorem LF.less (L : LF F l H) (s : Same F' F) : LF F' l H := ⟨s.trans L.same, L.at_, fun q hq => s.free (L.new q hq), L.nd⟩
theorem LF.mut (L : LF F l H) (i : Nat) (hi : l[i]? = some (p, o)) (k : But p H H') (e : H' p = some o') : LF F (l.set i (p, o')) H' := by
  have il := (List.getElem?_eq_some_iff.mp hi).1
  have hp : F p = none := L.new (p, o) (List.mem_of_getElem? hi)
  have nm : (l.set i (p, o')).map (·.1) = l.map (·.1) := by
    rw [List.map_set]
    apply List.ext_getElem?
    intro j
    by_cases hj : i = j
    · subst hj
      rw [List.getElem?_set_self (by simpa using il), List.getElem?_map, hi]
      rfl
    · rw [List.getElem?_set_ne hj]
  refine ⟨fun b u eb => k b u (L.same b u eb) (ne_of_none eb hp), fun j a u h => ?_, fun q hq => ?_, by rw [nm]; exact L.nd⟩
  · by_cases hj : i = j
    · subst hj
      rw [List.getElem?_set_self il] at h
      cases h
      exact e
    · rw [List.getElem?_set_ne hj] at h
      refine k a u (L.at_ j a u h) fun ea => hj ?_
      have h1 : (l.map (·.1))[i]? = some p := by rw [List.getElem?_map, hi]; rfl
      have h2 : (l.map (·.1))[j]? = some p := by rw [List.getElem?_map, h, ea]; rfl
      exact (List.getElem?_inj (by simpa using il) L.nd).mp (h1.trans h2.symm)
  · have : q.1 ∈ (l.set i (p, o')).map (·.1) := List.mem_map.mpr ⟨q, hq, rfl⟩
    rw [nm] at this
    obtain ⟨q', hq', e'⟩ := List.mem_map.mp this
    rw [← e']
    exact L.new q' hq'
theorem LF.set (L : LF F l H) (i : Nat) (hi : l[i]? = some (p, o)) : LF F (l.set i (p, o')) (upd H p o') :=
  L.mut i hi (fun b u e n => by rw [upd_ne n]; exact e) upd_same
theorem LF.at0 (L : LF F ((p, o) :: l) H) : H p = some o := L.at_ 0 p o rfl
theorem LF.at1 (L : LF F (q :: (p, o) :: l) H) : H p = some o := L.at_ 1 p o rfl
theorem LF.at2 (L : LF F (q :: q1 :: (p, o) :: l) H) : H p = some o := L.at_ 2 p o rfl
theorem LF.at3 (L : LF F (q :: q1 :: q2 :: (p, o) :: l) H) : H p = some o := L.at_ 3 p o rfl
theorem LF.at4 (L : LF F (q :: q1 :: q2 :: q3 :: (p, o) :: l) H) : H p = some o := L.at_ 4 p o rfl
theorem LF.at5 (L : LF F (q :: q1 :: q2 :: q3 :: q4 :: (p, o) :: l) H) : H p = some o := L.at_ 5 p o rfl
theorem LF.atF (L : LF F l H) (e : F p = some o) : H p = some o := L.same p o e
theorem LF.set0 (L : LF F ((p, o) :: l) H) : LF F ((p, o') :: l) (upd H p o') := L.set 0 rfl
theorem LF.set1 (L : LF F (q :: (p, o) :: l) H) : LF F (q :: (p, o') :: l) (upd H p o') := L.set 1 rfl
theorem LF.set2 (L : LF F (q :: q1 :: (p, o) :: l) H) : LF F (q :: q1 :: (p, o') :: l) (upd H p o') := L.set 2 rfl
theorem LF.set3 (L : LF F (q :: q1 :: q2 :: (p, o) :: l) H) : LF F (q :: q1 :: q2 :: (p, o') :: l) (upd H p o') := L.set 3 rfl
theorem LF.set4 (L : LF F (q :: q1 :: q2 :: q3 :: (p, o) :: l) H) : LF F (q :: q1 :: q2 :: q3 :: (p, o') :: l) (upd H p o') := L.set 4 rfl
theorem LF.mut0 (L : LF F ((p, o) :: l) H) (k : But p H H') (e : H' p = some o') : LF F ((p, o') :: l) H' := L.mut 0 rfl k e
theorem LF.mut1 (L : LF F (q :: (p, o) :: l) H) (k : But p H H') (e : H' p = some o') : LF F (q :: (p, o') :: l) H' := L.mut 1 rfl k e
theorem LF.mut2 (L : LF F (q :: q1 :: (p, o) :: l) H) (k : But p H H') (e : H' p = some o') : LF F (q :: q1 :: (p, o') :: l) H' := L.mut 2 rfl k e
theorem LF.mut3 (L : LF F (q :: q1 :: q2 :: (p, o) :: l) H) (k : But p H H') (e : H' p = some o') : LF F (q :: q1 :: q2 :: (p, o') :: l) H' := L.mut 3 rfl k e
theorem LF.ne01 (L : LF F ((p, o) :: (a, u) :: l) H) : p ≠ a := fun e => by
  have := L.nd
  rw [List.map_cons, List.map_cons, List.nodup_cons] at this
  exact this.1 (by rw [e]; exact List.mem_cons_self ..)
/-- behind: all but one stands -/
theorem LF.but (L : LF F l H') (s : Same (cut H a) F) : But a H H' := fun b o e n => L.same b o (s b o (by rw [cut_ne n]; exact e))
end

/-! ### data stays -/
mutual
theorem Dp.mono {K : PySem.W.Frag} {F H : Hp} (s : Same F H) : ∀ (d : PyData) (v : V), Dp K F v d → Dp K H v d
  | .none, _, h => by cases h; exact .non
  | .bool b, _, h => by cases h; exact .bl b
  | .int i, _, h => by cases h; exact .int i
  | .str x, _, h => by cases h; exact .str x
  | .list ds, _, h => by
    cases h with
    | lst hs ha => exact .lst (s.seq hs) (DpAll.mono s ds _ ha)
  | .tuple ds, _, h => by
    cases h with
    | tup hs ha =>
      refine .tup ?_ (DpAll.mono s ds _ ha)
      rcases hs with (hs | ⟨o, hs⟩) | hs
      · exact .inl (.inl (s _ _ hs))
      · exact .inl (.inr ⟨o, s _ _ hs⟩)
      · exact .inr hs
  | .dict _, _, h => by cases h
theorem DpAll.mono {K : PySem.W.Frag} {F H : Hp} (s : Same F H) : ∀ (ds : List PyData) (vs : List V), DpAll K F vs ds → DpAll K H vs ds
  | [], _, h => by cases h; exact .nil
  | d :: ds, _, h => by
    cases h with
    | cons h1 h2 => exact .cons (Dp.mono s d _ h1) (DpAll.mono s ds _ h2)
end
theorem Same.tup {K : PySem.W.Frag} {H H' : Hp} {a : Addr} {xs : List V} (s : Same H H') (h : SqT K H a xs) : SqT K H' a xs := by
  rcases h with (h | ⟨o, h⟩) | h
  · exact .inl (.inl (s _ _ h))
  · exact .inl (.inr ⟨o, s _ _ h⟩)
  · exact .inr h
section
variable {K : PySem.W.Frag} {H : Hp} {v : V} {vs ws : List V} {d : PyData} {ds es : List PyData}
theorem DpAll.len : ∀ {vs : List V} {ds : List PyData}, DpAll K H vs ds → vs.length = ds.length
  | _, _, .nil => rfl
  | _, _, .cons _ t => congrArg Nat.succ (DpAll.len t)
theorem DpAll.app : ∀ {vs : List V} {ds : List PyData}, DpAll K H vs ds → DpAll K H ws es → DpAll K H (vs ++ ws) (ds ++ es)
  | _, _, .nil, b => b
  | _, _, .cons h t, b => .cons h (DpAll.app t b)
theorem DpAll.one (h : Dp K H v d) : DpAll K H [v] [d] := .cons h .nil
theorem DpAll.get : ∀ {vs : List V} {ds : List PyData} {i : Nat} {v : V}, DpAll K H vs ds → vs[i]? = some v → ∃ d, ds[i]? = some d ∧ Dp K H v d
  | _, _, 0, _, .cons h _, e => by cases e; exact ⟨_, rfl, h⟩
  | _, _, i + 1, _, .cons _ t, e => DpAll.get (i := i) t e
  | _, _, _, _, .nil, e => by simp at e
theorem DpAll.getD : ∀ {vs : List V} {ds : List PyData} {i : Nat} {d : PyData}, DpAll K H vs ds → ds[i]? = some d → ∃ v, vs[i]? = some v ∧ Dp K H v d
  | _, _, 0, _, .cons h _, e => by cases e; exact ⟨_, rfl, h⟩
  | _, _, i + 1, _, .cons _ t, e => DpAll.getD (i := i) t e
  | _, _, _, _, .nil, e => by simp at e
theorem DpAll.take : ∀ {vs : List V} {ds : List PyData} (n : Nat), DpAll K H vs ds → DpAll K H (vs.take n) (ds.take n)
  | _, _, 0, _ => .nil
  | _, _, _ + 1, .nil => .nil
  | _, _, n + 1, .cons h t => .cons h (DpAll.take n t)
theorem DpAll.drop : ∀ {vs : List V} {ds : List PyData} (n : Nat), DpAll K H vs ds → DpAll K H (vs.drop n) (ds.drop n)
  | _, _, 0, h => h
  | _, _, _ + 1, .nil => .nil
  | _, _, n + 1, .cons _ t => DpAll.drop n t
theorem Dp.list_inv {v : V} (h : Dp K H v (.list ds)) : ∃ a xs, v = .ref a ∧ SqL K H a xs ∧ DpAll K H xs ds := by
  cases h with
  | lst hs ha => exact ⟨_, _, rfl, hs, ha⟩
theorem Dp.tup_inv {v : V} (h : Dp K H v (.tuple ds)) : ∃ a xs, v = .ref a ∧ SqT K H a xs ∧ DpAll K H xs ds := by
  cases h with
  | tup hs ha => exact ⟨_, _, rfl, hs, ha⟩
theorem DpAll.ints_inv : ∀ {vs : List V} {ns : List Int}, DpAll K H vs (ns.map PyData.int) → vs = ns.map V.int
  | _, [], h => by cases h; rfl
  | _, n :: ns, h => by
    cases h with
    | cons h t =>
      cases h
      rw [DpAll.ints_inv t]
      rfl
end

/-! ### steps with F and the ledger -/
section
variable {F H : Hp} {Q : VK} {vs xs ys : List V} {l : List (Addr × HO)} {p q : Addr} {v : V} {i : Int} {j : Nat} {K : PySem.W.Frag} {lo hi : Option Int} {q1 q2 q3 q4 : Addr × HO} {QH : Hp → Prop}
theorem j_newL (L : LF F l H) (s : vs.length ≤ sizeLine) (h : ∀ p H2, H p = none → LF F ((p, .lst vs) :: l) H2 → Q (.ref p) H2) : NEWL vs H Q :=
  ⟨s, fun p np => h p _ np (L.add np)⟩
theorem j_newT (L : LF F l H) (s : vs.length ≤ sizeLine) (h : ∀ p F2 H2, H p = none → Same F F2 → F2 p = some (.tup vs) → LF F2 l H2 → Q (.ref p) H2) : NEWT vs H Q :=
  ⟨s, fun p np => h p _ _ np (same_upd (L.free np)) upd_same (L.grow np)⟩
theorem j_cat (L : LF F l H) (h1 : H p = some (.lst xs)) (h2 : H q = some (.lst ys)) (z : xs.length + ys.length ≤ sizeLine) (h : ∀ a H2, H a = none → LF F ((a, .lst (xs ++ ys)) :: l) H2 → Q (.ref a) H2) : rCat (.ref p) (.ref q) H Q :=
  ⟨p, q, xs, ys, rfl, rfl, h1, h2, z, fun a na => h a _ na (L.add na)⟩
theorem j_slL (L : LF F l H) (s : SqL K H p xs) (h : ∀ a H2, H a = none → LF F ((a, .lst (cutV xs lo hi)) :: l) H2 → Q (.ref a) H2) : rSlL K (.ref p) lo hi H Q :=
  ⟨p, xs, rfl, s, fun a na => h a _ na (L.add na)⟩
theorem j_slL0 (L : LF F l H) (s : H p = some (.lst xs)) (h : ∀ a H2, H a = none → LF F ((a, .lst (cutV xs lo hi)) :: l) H2 → Q (.ref a) H2) : rSlL K (.ref p) lo hi H Q := j_slL L (.inl (.inl s)) h
theorem j_slT (L : LF F l H) (s : SqT K H p xs) (w : ¬ (HT.sIx xs.length 0 lo = 0 ∧ HT.sIx xs.length xs.length hi = xs.length)) (h : ∀ a F2 H2, H a = none → Same F F2 → F2 a = some (.tup (cutV xs lo hi)) → LF F2 l H2 → Q (.ref a) H2) : rSlT K (.ref p) lo hi H Q :=
  ⟨p, xs, rfl, s, w, fun a na => h a _ _ na (same_upd (L.free na)) upd_same (L.grow na)⟩
theorem j_setL0 (L : LF F ((p, .lst xs) :: l) H) (e : ixN xs.length i = some j) (h : ∀ H2, LF F ((p, .lst (xs.set j v)) :: l) H2 → QH H2) : rSetL (.ref p) (.int i) v H QH := i_setL L.at0 e (h _ L.set0)
theorem j_setL1 (L : LF F (q1 :: (p, .lst xs) :: l) H) (e : ixN xs.length i = some j) (h : ∀ H2, LF F (q1 :: (p, .lst (xs.set j v)) :: l) H2 → QH H2) : rSetL (.ref p) (.int i) v H QH := i_setL L.at1 e (h _ L.set1)
theorem j_setL2 (L : LF F (q1 :: q2 :: (p, .lst xs) :: l) H) (e : ixN xs.length i = some j) (h : ∀ H2, LF F (q1 :: q2 :: (p, .lst (xs.set j v)) :: l) H2 → QH H2) : rSetL (.ref p) (.int i) v H QH := i_setL L.at2 e (h _ L.set2)
theorem j_app0 (L : LF F ((p, .lst xs) :: l) H) (e : xs.length < sizeLine) (h : ∀ H2, LF F ((p, .lst (xs ++ [v])) :: l) H2 → Q .non H2) : rAppend (.ref p) [v] H Q := i_app L.at0 e (h _ L.set0)
theorem j_app1 (L : LF F (q1 :: (p, .lst xs) :: l) H) (e : xs.length < sizeLine) (h : ∀ H2, LF F (q1 :: (p, .lst (xs ++ [v])) :: l) H2 → Q .non H2) : rAppend (.ref p) [v] H Q := i_app L.at1 e (h _ L.set1)
theorem j_app2 (L : LF F (q1 :: q2 :: (p, .lst xs) :: l) H) (e : xs.length < sizeLine) (h : ∀ H2, LF F (q1 :: q2 :: (p, .lst (xs ++ [v])) :: l) H2 → Q .non H2) : rAppend (.ref p) [v] H Q := i_app L.at2 e (h _ L.set2)
theorem j_app3 (L : LF F (q1 :: q2 :: q3 :: (p, .lst xs) :: l) H) (e : xs.length < sizeLine) (h : ∀ H2, LF F (q1 :: q2 :: q3 :: (p, .lst (xs ++ [v])) :: l) H2 → Q .non H2) : rAppend (.ref p) [v] H Q := i_app L.at3 e (h _ L.set3)
/-- list(xs) -/
theorem j_listOf (L : LF F l H) (s : SqL K H p xs ∨ SqT K H p xs) (h : ∀ a H2, H a = none → LF F ((a, .lst xs) :: l) H2 → Q (.ref a) H2) :
    ∃ p' ys, [V.ref p] = [.ref p'] ∧ (SqL K H p' ys ∨ SqT K H p' ys) ∧ ∀ l, H l = none → Q (.ref l) (upd H l (.lst ys)) := ⟨p, xs, rfl, s, fun a na => h a _ na (L.add na)⟩
end

/-! ### comprehensions -/
def LCN (J : It) (g : TG) (tt : TT) (te : TE) (vs : List Nat) (σ : L2.St) (H1 : Hp) (Q : VK) : Prop := ∀ D, H1 D = none → ∃ W : Nat → Nat → Hp → Prop, (∃ m, W 0 m (upd H1 D (.lst []))) ∧ ∀ i m H, W i m H →
  (J.stop i H ∧ Q (.ref D) H) ∨ (J.go i H ∧ ∃ Nx : Hp → Prop, (∀ H', Nx H' → ∃ m', m' < m ∧ W (i + 1) m' H') ∧ ∀ x H', J.yld i H x H' → g x (wipe σ vs) H' fun σ2 H2 => wipe σ2 vs = wipe σ vs ∧ tt σ2 H2 fun b H3 =>
    if b = true then te σ2 H3 fun y H4 => ∃ acc, H4 D = some (.lst acc) ∧ acc.length < sizeLine ∧ Nx (upd H4 D (.lst (acc ++ [y]))) else Nx H3)
theorem i_lc {wi : TI} {g : TG} {tt : TT} {te : TE} {vs : List Nat} {σ : L2.St} {H : Hp} {Q : VK} (h : wi σ H fun J H1 => LCN J g tt te vs σ H1 Q) : tLc wi g tt te vs σ H Q := h
/-- between two turns of a comprehension -/
def LCP (K : PySem.W.Frag) (D : Addr) (F : Hp) (Z : Nat → List (Addr × HO) → Prop) (f : Nat → Option PyData) (i : Nat) (H : Hp) : Prop :=
  ∃ acc F2 l2, Same F F2 ∧ Z i l2 ∧ LF F2 ((D, .lst acc) :: l2) H ∧ DpAll K F2 acc ((List.range i).filterMap f)
/-- where an item y was reckoned -/
def LCY (K : PySem.W.Frag) (D : Addr) (F : Hp) (Z : Nat → List (Addr × HO) → Prop) (f : Nat → Option PyData) (i : Nat) (y : V) (H : Hp) : Prop :=
  ∃ acc, H D = some (.lst acc) ∧ acc.length < sizeLine ∧ LCP K D F Z f (i + 1) (upd H D (.lst (acc ++ [y])))
section
variable {K : PySem.W.Frag} {D : Addr} {F F1 F2 H : Hp} {Z : Nat → List (Addr × HO) → Prop} {f : Nat → Option PyData} {i : Nat} {y : V} {acc : List V} {l2 : List (Addr × HO)} {d : PyData}
theorem range_fm : (List.range (i + 1)).filterMap f = (List.range i).filterMap f ++ (f i).toList := by
  rw [List.range_succ, List.filterMap_append]
  cases hf : f i <;> simp [hf]
theorem LCY.of (dp : DpAll K F1 acc ((List.range i).filterMap f)) (s : Same F F1) (hi : i < 16000000) (s2 : Same F1 F2) (z2 : Z (i + 1) l2) (L2 : LF F2 ((D, .lst acc) :: l2) H) (e : f i = some d) (hd : Dp K F2 y d) : LCY K D F Z f i y H := by
  refine ⟨acc, L2.at0, ?_, acc ++ [y], F2, l2, s.trans s2, z2, L2.set0, ?_⟩
  · rw [DpAll.len dp]
    refine Nat.lt_of_le_of_lt (List.length_filterMap_le _ _) ?_
    rw [List.length_range, sizeLine_eq]
    omega
  · rw [range_fm, e]
    exact DpAll.app (DpAll.mono s2 _ _ dp) (DpAll.one hd)
theorem LCP.no (dp : DpAll K F1 acc ((List.range i).filterMap f)) (s : Same F F1) (s2 : Same F1 F2) (z2 : Z (i + 1) l2) (L2 : LF F2 ((D, .lst acc) :: l2) H) (e : f i = none) : LCP K D F Z f (i + 1) H := by
  refine ⟨acc, F2, l2, s.trans s2, z2, L2, ?_⟩
  rw [range_fm, e]
  simpa using DpAll.mono s2 _ _ dp
end
theorem LCN.data {K : PySem.W.Frag} {J : It} {n : Nat} {Gd : Hp → Prop} {Y : Nat → Hp → V → Hp → Prop} (w : Walk J n Gd Y) {g : TG} {tt : TT} {te : TE} {vs : List Nat} {σ : L2.St} {F H1 : Hp} {Q : VK} {l : List (Addr × HO)} (L : LF F l H1)
    (Z : Nat → List (Addr × HO) → Prop) (f : Nat → Option PyData) (hn : n ≤ 16000000) (z0 : Z 0 l)
    (hG : ∀ i D acc F2 l2 H, Same F F2 → Z i l2 → LF F2 ((D, .lst acc) :: l2) H → Gd H)
    (hs : ∀ i x D acc F1 l1 H H', i < n → Same F F1 → Z i l1 → LF F1 ((D, .lst acc) :: l1) H → DpAll K F1 acc ((List.range i).filterMap f) → Y i H x H' → g x (wipe σ vs) H' fun σ2 H2 => wipe σ2 vs = wipe σ vs ∧ tt σ2 H2 fun b H3 =>
      if b = true then te σ2 H3 fun y H4 => LCY K D F Z f i y H4 else LCP K D F Z f (i + 1) H3)
    (hd : ∀ D acc F2 l2 H2, H1 D = none → F D = none → Same F F2 → Z n l2 → LF F2 ((D, .lst acc) :: l2) H2 → DpAll K F2 acc ((List.range n).filterMap f) → Q (.ref D) H2) : LCN J g tt te vs σ H1 Q := by
  intro D nD
  refine lc_it w (Qd := fun H => Q (.ref D) H) (LCP K D F Z f) ⟨[], F, l, Same.refl F, z0, L.add nD, .nil⟩ ?_ ?_ ?_
  · rintro i H hi ⟨acc, F2, l2, s, z, L2, _⟩
    exact hG i D acc F2 l2 H s z L2
  · rintro i x H H' hi ⟨acc, F1, l1, s, z, L1, dp⟩ y
    exact hs i x D acc F1 l1 H H' hi s z L1 dp y
  · rintro H ⟨acc, F2, l2, s, z, L2, dp⟩
    exact hd D acc F2 l2 H nD (L.free nD) s z L2 dp
theorem filterMap_range {α β : Type} (xs : List α) (f : α → Option β) : (List.range xs.length).filterMap (fun i => xs[i]?.bind f) = xs.filterMap f := by
  induction xs with
  | nil => rfl
  | cons x xs ih =>
    rw [List.length_cons, List.range_succ_eq_map, List.filterMap_cons, List.filterMap_map]
    have e : ((fun i => (x :: xs)[i]?.bind f) ∘ Nat.succ) = fun i => xs[i]?.bind f := by
      funext i
      simp
    rw [e, ih]
    cases h : f x <;> simp [h]
end G

namespace L2
theorem Room.u65 {k : Nat} {A : PySem.Around} (r : Room k A) : A.units + 65 < PySem.cLine := by have := r.un; omega
end L2
namespace G
open PySem PySem.Spec PyProof.Rows L2
/-- the dict that an expression gives, locked from then on -/
def tFrz (te : TE) : TE := fun σ H Q => te σ H fun x H1 => ∃ d u, x = .ref d ∧ H1 d = some u ∧ Mut (some u) ∧ ∀ od, Q x (upd H1 d (.frz od u))
theorem pe_frz {X : Cx} {e : Expr} {te : TE} (he : PE X e te) : PE X e (tFrz te) := by
  refine ⟨fun pins s σ H Q I h => ?_⟩
  refine thn (he.run pins s σ H _ I h) fun v s1 q => ?_
  obtain ⟨x, H1, I1, rx, d, u, ex, hd, mu, q⟩ := q
  obtain ⟨od, I2⟩ := I1.lock hd mu
  exact ⟨x, _, I2, rx, q od⟩
section
variable {F H : Hp} {Q : VK} {l : List (Addr × HO)} {σ : L2.St} {p d : Addr} {kvs : List (Key × V)} {v : V} {k : Key} {q1 q2 q3 : Addr × HO} {D : Ends} {td ty tv te : TE} {K : PySem.W.Frag} {n : Int}
theorem i_yes {QB : Bool → Hp → Prop} (h : QB true H) : tYes σ H QB := h
theorem i_frz (h : te σ H fun x H1 => ∃ d u, x = .ref d ∧ H1 d = some u ∧ Mut (some u) ∧ ∀ od, Q x (upd H1 d (.frz od u))) : tFrz te σ H Q := h
theorem j_dnewK (L : LF F l H) (h : ∀ p H2, H p = none → LF F ((p, .dK []) :: l) H2 → Q (.ref p) H2) : tDNewK σ H Q := fun p np => h p _ np (L.add np)
theorem i_dput (h : tv σ H fun v H1 => td σ H1 fun x H2 => ty σ H2 fun y H3 => ∃ a H4, x = .ref a ∧ DPut H3 a y v H4 ∧ D.nx σ H4) : sDPut td ty tv D σ H := h
theorem j_dput0 {P : Hp → Prop} (L : LF F ((d, .dK kvs) :: l) H) (z : kvs.length < sizeLine) (h : ∀ H2, LF F ((d, .dK (putK kvs (.inl n) v)) :: l) H2 → P H2) : ∃ a H4, V.ref d = .ref a ∧ DPut H a (.int n) v H4 ∧ P H4 :=
  ⟨d, _, rfl, .inl ⟨kvs, .inl n, L.at0, rfl, z, rfl⟩, h _ L.set0⟩
theorem j_dput1 {P : Hp → Prop} (L : LF F (q1 :: (d, .dK kvs) :: l) H) (z : kvs.length < sizeLine) (h : ∀ H2, LF F (q1 :: (d, .dK (putK kvs (.inl n) v)) :: l) H2 → P H2) : ∃ a H4, V.ref d = .ref a ∧ DPut H a (.int n) v H4 ∧ P H4 :=
  ⟨d, _, rfl, .inl ⟨kvs, .inl n, L.at1, rfl, z, rfl⟩, h _ L.set1⟩
theorem i_dget (h : td σ H fun x H1 => ty σ H1 fun y H2 => ∃ a v, x = .ref a ∧ DGet H2 a y (some v) ∧ Q v H2) : tDGet td ty σ H Q := h
theorem j_dgetI {P : V → Prop} (s : H d = some (.dK kvs)) (e : valV kvs (Sum.inl n) = some v) (h : P v) : ∃ a v', V.ref d = .ref a ∧ DGet H a (.int n) (some v') ∧ P v' :=
  ⟨d, v, rfl, by have := DGet.k (k := Sum.inl n) s; rw [e] at this; exact this, h⟩
theorem i_itItems {R : It → Hp → Prop} (h : td σ H fun x H1 => ∃ d o kvs, x = .ref d ∧ H1 d = some (.frz o (.dK kvs)) ∧ R (Iti d o kvs) H1) : iItems td σ H R := h
theorem i_aug {i : Nat} {ti : TIp} {x : V} (e : σ[i]? = some (some x)) (h : te σ H fun y H1 => ti x y H1 fun z H2 => D.nx (σ.set i (some z)) H2) : tAug i te ti D σ H := ⟨x, e, h⟩
theorem i_ipI {f : Int → Int → Int} {i j : Int} (h : Q (.int (f i j)) H) : ipI f (.int i) (.int j) H Q := ⟨i, j, rfl, rfl, h⟩
theorem i_par {i j : Nat} {ta : TA} (h : ta σ H fun vs H1 => ∃ v w, vs = [v, w] ∧ D.nx ((σ.set i (some v)).set j (some w)) H1) : tPar i j ta D σ H := h
theorem i_parv {v w : V} {P : V → V → Prop} (h : P v w) : ∃ v' w', [v, w] = [v', w'] ∧ P v' w' := ⟨v, w, rfl, h⟩
theorem i_par3 {i j k : Nat} {ta : TA} (h : ta σ H fun vs H1 => ∃ u v w, vs = [u, v, w] ∧ D.nx (((σ.set i (some u)).set j (some v)).set k (some w)) H1) : tPar3 i j k ta D σ H := h
theorem i_par3v {u v w : V} {P : V → V → V → Prop} (h : P u v w) : ∃ u' v' w', [u, v, w] = [u', v', w'] ∧ P u' v' w' := ⟨u, v, w, rfl, h⟩
theorem i_gtup {nn : Nat} {t : TGs} {QS : L2.St → Hp → Prop} {xs : List V} {a : Addr} (s : SqT K H a xs) (hl : xs.length = nn) (h : t xs σ H QS) : gTup K nn t (.ref a) σ H QS := ⟨a, xs, rfl, s, hl, h⟩
theorem i_gunl {nn : Nat} {t : TGs} {QS : L2.St → Hp → Prop} {xs : List V} {a : Addr} (s : SqL K H a xs) (hl : xs.length = nn) (h : t xs σ H QS) : gUnl K nn t (.ref a) σ H QS := ⟨a, xs, rfl, s, hl, h⟩
theorem i_gcons {t : TG} {u : TGs} {QS : L2.St → Hp → Prop} {v : V} {r : List V} (h : t v σ H fun σ' H' => u r σ' H' QS) : gCons t u (v :: r) σ H QS := ⟨v, r, rfl, h⟩
theorem i_gnil {QS : L2.St → Hp → Prop} (h : QS σ H) : gNil [] σ H QS := ⟨rfl, h⟩
theorem i_notN {H : Hp} (h : Q (.bl (!decide (v = .non))) H) : (fun (x y : V) (H : Hp) (Q : VK) => y = .non ∧ Q (.bl (!decide (x = .non))) H) v .non H Q := ⟨rfl, h⟩
end
end G

namespace G
open PySem PySem.Spec PyProof.Rows L2
def rLen (K : PySem.W.Frag) : List V → Hp → VK → Prop := fun xs H Q => ∃ p ys, xs = [.ref p] ∧ (SqL K H p ys ∨ SqT K H p ys) ∧ Q (.int ys.length) H
def rListOf (K : PySem.W.Frag) : List V → Hp → VK → Prop := fun xs H Q => ∃ p ys, xs = [.ref p] ∧ (SqL K H p ys ∨ SqT K H p ys) ∧ ∀ l, H l = none → Q (.ref l) (upd H l (.lst ys))
def rSortedDI : List V → Hp → VK → Prop := fun xs H Q => ∃ (a : Addr) (kvs : List (Key × V)) (ks : List Int), xs = [.ref a] ∧ Rd H a (.dK kvs) ∧ kvs.map (·.1) = ks.map Sum.inl ∧ ks.length < 64 ∧
    ∀ (ys : List Int) (p : Addr), ys.Perm ks → ys.Pairwise (· ≤ ·) → H p = none → Q (.ref p) (upd H p (.lst (ys.map V.int)))
section
variable {X : Cx}
theorem c_len : CallR X (.builtin "len") (rLen X.K) := call_len_seq
theorem c_listOf : CallR X (.type "list") (rListOf X.K) := call_list_of
theorem c_sortedDI (h : X.calm = true) : CallR X (.builtin "sorted") rSortedDI := call_sortedDI h
end
section
variable {F H : Hp} {Q : VK} {l : List (Addr × HO)} {a : Addr} {xs : List V} {K : PySem.W.Frag} {w : World} {ns : List Int} {S : Int → Bool} {c : Nat} {kvs : List (Key × V)} {ks : List Int}
theorem i_len (s : SqL K H a xs) (h : Q (.int xs.length) H) : rLen K [.ref a] H Q := ⟨a, xs, rfl, .inl s, h⟩
theorem i_len0 (s : H a = some (.lst xs)) (h : Q (.int xs.length) H) : rLen K [.ref a] H Q := ⟨a, xs, rfl, .inl (.inl (.inl s)), h⟩
theorem i_lenT0 (s : H a = some (.tup xs)) (h : Q (.int xs.length) H) : rLen K [.ref a] H Q := ⟨a, xs, rfl, .inr (.inl (.inl s)), h⟩
theorem i_lenT (s : SqT K H a xs) (h : Q (.int xs.length) H) : rLen K [.ref a] H Q := ⟨a, xs, rfl, .inr s, h⟩
theorem j_listOf' (L : LF F l H) (s : SqL K H a xs) (h : ∀ p H2, H p = none → LF F ((p, .lst xs) :: l) H2 → Q (.ref p) H2) : rListOf K [.ref a] H Q := ⟨a, xs, rfl, .inl s, fun p np => h p _ np (L.add np)⟩
theorem j_listOf0 (L : LF F l H) (s : H a = some (.lst xs)) (h : ∀ p H2, H p = none → LF F ((p, .lst xs) :: l) H2 → Q (.ref p) H2) : rListOf K [.ref a] H Q := j_listOf' L (.inl (.inl s)) h
/-- sorted(set(xs)): the members, rising -/
theorem j_setLI (L : LF F l H) (s : SqL K H a (ns.map V.int)) (z : ns.length + 1 < scanBound) (h : ∀ p H2 c, H p = none → c ≤ ns.length → H2 p = some (SetO w p (fun j => decide (j ∈ ns)) c) → LF F ((p, SetO w p (fun j => decide (j ∈ ns)) c) :: l) H2 → Q (.ref p) H2) : GS.rSetLI K w [.ref a] H Q :=
  ⟨a, ns, rfl, s, z, fun p c np hc => h p _ c np hc upd_same (L.add np)⟩
theorem j_sortedSet (L : LF F l H) (s : H a = some (SetO w a S c)) (z : c < 64) (h : ∀ (ns : List Int) p H2, ns.Pairwise (· < ·) → (∀ k : Int, k ∈ ns ↔ S k = true) → ns.length = c → H p = none → LF F ((p, .lst (ns.map V.int)) :: l) H2 → Q (.ref p) H2) : rSortedSet w [.ref a] H Q :=
  ⟨a, S, c, rfl, s, z, fun ns p h1 h2 h3 np => h ns p _ h1 h2 h3 np (L.add np)⟩
theorem j_sortedDI (L : LF F l H) (s : H a = some (.dK kvs)) (e : kvs.map (·.1) = ks.map Sum.inl) (z : ks.length < 64) (h : ∀ (ys : List Int) p H2, ys.Perm ks → ys.Pairwise (· ≤ ·) → H p = none → LF F ((p, .lst (ys.map V.int)) :: l) H2 → Q (.ref p) H2) : rSortedDI [.ref a] H Q :=
  ⟨a, kvs, ks, rfl, .inl s, e, z, fun ys p h1 h2 np => h ys p _ h1 h2 np (L.add np)⟩
end
end G
namespace G
open PySem PySem.Spec PyProof.Rows L2
/-! ### rules whose reading names K: for use within a comprehension -/
section
variable {X : Cx} {K : PySem.W.Frag}
theorem k_ix_list (h : X.K = K) : IxR X (rIxL K) := h ▸ ix_list
theorem k_ix_tup (h : X.K = K) : IxR X (rIxT K) := h ▸ ix_tup
theorem k_eqD (h : X.K = K) (hu : X.A.units + 64 < cLine) : OpR X (compareOp .Eq) (rEqD K) := h ▸ op_eqD hu
theorem k_neD (h : X.K = K) (hu : X.A.units + 64 < cLine) : OpR X (compareOp .NotEq) (rNeD K) := h ▸ op_neD hu
theorem k_inD (h : X.K = K) (hu : X.A.units + 65 < cLine) : OpR X (compareOp .In) (rInD K) := h ▸ op_inD hu
theorem k_notInD (h : X.K = K) (hu : X.A.units + 65 < cLine) : OpR X (compareOp .NotIn) (rNotInD K) := h ▸ op_notInD hu
theorem k_leT (h : X.K = K) (hu : X.A.units < cLine) : OpR X (compareOp .LtE) (rLeT K) := h ▸ op_leT hu
theorem k_ltT (h : X.K = K) (hu : X.A.units < cLine) : OpR X (compareOp .Lt) (rLtT K) := h ▸ op_ltT hu
theorem k_in_seq (h : X.K = K) : OpR X (compareOp .In) (rIn K false) := h ▸ op_in_seq
theorem k_notIn_seq (h : X.K = K) : OpR X (compareOp .NotIn) (rIn K true) := h ▸ op_notIn_seq
theorem k_sl_list (h : X.K = K) : SlR X (rSlL K) := h ▸ sl_list
theorem k_sl_tup (h : X.K = K) : SlR X (rSlT K) := h ▸ sl_tup
theorem k_len (h : X.K = K) : CallR X (.builtin "len") (rLen K) := h ▸ c_len
theorem k_listOf (h : X.K = K) : CallR X (.type "list") (rListOf K) := h ▸ c_listOf
theorem k_isi (h : X.K = K) : CallR X (.builtin "isinstance") (rIsi K) := h ▸ call_isi
theorem k_pi_list {tg l : Expr} {tl : TE} (h : X.K = K) (hl : PE X l tl) : PI X tg l (iList K tl) := h ▸ pi_list hl
theorem k_pg_tup {es : List Expr} {k : Nat} {t : TGs} {n : Nat} {pos : Pos} (h : X.K = K) (hc : X.calm = true) (ht : PGs X es t)
    (hn : (assignEach es X.env).length = n := by rfl) (hst : (assignEach es X.env).findIdx? (·.1) = none := by rfl) : PG X (.Tuple es k pos) (gTup K n t) := h ▸ pg_tup hc ht hn hst
end
end G

namespace Z
open PySem PySem.Spec PyProof.Rows L2 G
/-! ### data -/
inductive D where
  | non | bl (b : Bool) | int (i : Int) | str (x : Str) | ty (n : String)
  | lst (l : List D) | tup (l : List D) | obj (C : Addr) (ns : List Str) (l : List D) | dct (ks : List Key) (l : List D) | ro (l : List D)
/-- more is known: new things, and dicts that are locked -/
def Le (F F' : Hp) : Prop := ∀ a o, F a = some o → F' a = some o ∨ ((∃ kvs, o = .dK kvs) ∧ ∃ od, F' a = some (.frz od o))
theorem Le.of {F F' : Hp} (s : Same F F') : Le F F' := fun a o e => .inl (s a o e)
theorem Le.refl (F : Hp) : Le F F := fun a o e => .inl e
theorem Le.trans {F F1 F2 : Hp} (s : Le F F1) (u : Le F1 F2) : Le F F2 := fun a o e => by
  rcases s a o e with h | ⟨⟨kvs, rfl⟩, od, h⟩
  · exact u a o h
  · rcases u a _ h with h | ⟨⟨kvs', h'⟩, _⟩
    · exact .inr ⟨⟨kvs, rfl⟩, od, h⟩
    · cases h'
theorem Le.free {F F' : Hp} {p : Addr} (s : Le F F') (n : F' p = none) : F p = none := by
  cases e : F p with
  | none => rfl
  | some o =>
    rcases s p o e with h | ⟨_, od, h⟩
    · rw [n] at h; cases h
    · rw [n] at h; cases h
theorem Le.rdL {F F' : Hp} {a : Addr} {xs : List V} (s : Le F F') (h : Rd F a (.lst xs)) : Rd F' a (.lst xs) := by
  rcases h with h | ⟨o, h⟩
  · rcases s a _ h with h | ⟨⟨_, h'⟩, _⟩
    · exact .inl h
    · cases h'
  · rcases s a _ h with h | ⟨⟨_, h'⟩, _⟩
    · exact .inr ⟨o, h⟩
    · cases h'
theorem Le.rdT {F F' : Hp} {a : Addr} {xs : List V} (s : Le F F') (h : Rd F a (.tup xs)) : Rd F' a (.tup xs) := by
  rcases h with h | ⟨o, h⟩
  · rcases s a _ h with h | ⟨⟨_, h'⟩, _⟩
    · exact .inl h
    · cases h'
  · rcases s a _ h with h | ⟨⟨_, h'⟩, _⟩
    · exact .inr ⟨o, h⟩
    · cases h'
theorem Le.rdK {F F' : Hp} {a : Addr} {kvs : List (Key × V)} (s : Le F F') (h : Rd F a (.dK kvs)) : Rd F' a (.dK kvs) := by
  rcases h with h | ⟨o, h⟩
  · rcases s a _ h with h | ⟨_, od, h⟩
    · exact .inl h
    · exact .inr ⟨od, h⟩
  · rcases s a _ h with h | ⟨⟨_, h'⟩, _⟩
    · exact .inr ⟨o, h⟩
    · cases h'
theorem Le.ins {F F' : Hp} {a C dx : Addr} {fs : List (Str × V)} (s : Le F F') (h : F a = some (.ins C dx fs)) : F' a = some (.ins C dx fs) := by
  rcases s a _ h with h | ⟨⟨_, h'⟩, _⟩
  · exact h
  · cases h'
theorem Le.lst {F F' : Hp} {a : Addr} {xs : List V} (s : Le F F') (h : F a = some (.lst xs)) : F' a = some (.lst xs) := by
  rcases s a _ h with h | ⟨⟨_, h'⟩, _⟩
  · exact h
  · cases h'
theorem Le.own {F F' : Hp} {a b : Addr} (s : Le F F') (h : F a = some (.own b)) : F' a = some (.own b) := by
  rcases s a _ h with h | ⟨⟨_, h'⟩, _⟩
  · exact h
  · cases h'
theorem Le.seq {K : PySem.W.Frag} {F F' : Hp} {a : Addr} {xs : List V} (s : Le F F') (h : SqL K F a xs) : SqL K F' a xs := by
  rcases h with h | h
  · exact .inl (s.rdL h)
  · exact .inr h
theorem Le.tup {K : PySem.W.Frag} {F F' : Hp} {a : Addr} {xs : List V} (s : Le F F') (h : SqT K F a xs) : SqT K F' a xs := by
  rcases h with h | h
  · exact .inl (s.rdT h)
  · exact .inr h
mutual
inductive Rp (K : PySem.W.Frag) (F : Hp) : V → D → Prop
  | non : Rp K F .non .non
  | bl (b : Bool) : Rp K F (.bl b) (.bl b)
  | int (i : Int) : Rp K F (.int i) (.int i)
  | str (x : Str) : Rp K F (.str x) (.str x)
  | ty (n : String) : Rp K F (.ty n) (.ty n)
  | lst {a : Addr} {vs : List V} {ds : List D} : F a = some (.lst vs) → RpL K F vs ds → Rp K F (.ref a) (.lst ds)
  | ro {a : Addr} {vs : List V} {ds : List D} : SqL K F a vs → RpL K F vs ds → Rp K F (.ref a) (.ro ds)
  | tup {a : Addr} {vs : List V} {ds : List D} : SqT K F a vs → RpL K F vs ds → Rp K F (.ref a) (.tup ds)
  | obj {a C dx : Addr} {fs : List (Str × V)} {ns : List Str} {ds : List D} : F a = some (.ins C dx fs) → F dx = some (.own a) → fs.map (·.1) = ns → RpL K F (fs.map (·.2)) ds → Rp K F (.ref a) (.obj C ns ds)
  | dct {a : Addr} {kvs : List (Key × V)} {ks : List Key} {ds : List D} : Rd F a (.dK kvs) → kvs.map (·.1) = ks → RpL K F (kvs.map (·.2)) ds → Rp K F (.ref a) (.dct ks ds)
inductive RpL (K : PySem.W.Frag) (F : Hp) : List V → List D → Prop
  | nil : RpL K F [] []
  | cons {v : V} {d : D} {vs : List V} {ds : List D} : Rp K F v d → RpL K F vs ds → RpL K F (v :: vs) (d :: ds)
end
mutual
theorem Rp.mono {K : PySem.W.Frag} {F H : Hp} (s : Le F H) : ∀ (d : D) (v : V), Rp K F v d → Rp K H v d
  | .non, _, h => by cases h; exact .non
  | .bl b, _, h => by cases h; exact .bl b
  | .int i, _, h => by cases h; exact .int i
  | .str x, _, h => by cases h; exact .str x
  | .ty x, _, h => by cases h; exact .ty x
  | .lst ds, _, h => by
    cases h with
    | lst hs ha => exact .lst (s.lst hs) (RpL.mono s ds _ ha)
  | .ro ds, _, h => by
    cases h with
    | ro hs ha => exact .ro (s.seq hs) (RpL.mono s ds _ ha)
  | .tup ds, _, h => by
    cases h with
    | tup hs ha => exact .tup (s.tup hs) (RpL.mono s ds _ ha)
  | .obj C ns ds, _, h => by
    cases h with
    | obj h1 h2 h3 ha => exact .obj (s.ins h1) (s.own h2) h3 (RpL.mono s ds _ ha)
  | .dct ks ds, _, h => by
    cases h with
    | dct h1 h3 ha => exact .dct (s.rdK h1) h3 (RpL.mono s ds _ ha)
theorem RpL.mono {K : PySem.W.Frag} {F H : Hp} (s : Le F H) : ∀ (ds : List D) (vs : List V), RpL K F vs ds → RpL K H vs ds
  | [], _, h => by cases h; exact .nil
  | d :: ds, _, h => by
    cases h with
    | cons h1 h2 => exact .cons (Rp.mono s d _ h1) (RpL.mono s ds _ h2)
end
section
variable {K : PySem.W.Frag} {H F : Hp} {v : V} {vs ws : List V} {d : D} {ds es : List D}
theorem RpL.len : ∀ {vs : List V} {ds : List D}, RpL K H vs ds → vs.length = ds.length
  | _, _, .nil => rfl
  | _, _, .cons _ t => congrArg Nat.succ (RpL.len t)
theorem RpL.app : ∀ {vs : List V} {ds : List D}, RpL K H vs ds → RpL K H ws es → RpL K H (vs ++ ws) (ds ++ es)
  | _, _, .nil, b => b
  | _, _, .cons h t, b => .cons h (RpL.app t b)
theorem RpL.one (h : Rp K H v d) : RpL K H [v] [d] := .cons h .nil
theorem RpL.get : ∀ {vs : List V} {ds : List D} {i : Nat} {v : V}, RpL K H vs ds → vs[i]? = some v → ∃ d, ds[i]? = some d ∧ Rp K H v d
  | _, _, 0, _, .cons h _, e => by cases e; exact ⟨_, rfl, h⟩
  | _, _, i + 1, _, .cons _ t, e => RpL.get (i := i) t e
  | _, _, _, _, .nil, e => by simp at e
theorem RpL.getD : ∀ {vs : List V} {ds : List D} {i : Nat} {d : D}, RpL K H vs ds → ds[i]? = some d → ∃ v, vs[i]? = some v ∧ Rp K H v d
  | _, _, 0, _, .cons h _, e => by cases e; exact ⟨_, rfl, h⟩
  | _, _, i + 1, _, .cons _ t, e => RpL.getD (i := i) t e
  | _, _, _, _, .nil, e => by simp at e
theorem RpL.take : ∀ {vs : List V} {ds : List D} (n : Nat), RpL K H vs ds → RpL K H (vs.take n) (ds.take n)
  | _, _, 0, _ => .nil
  | _, _, _ + 1, .nil => .nil
  | _, _, n + 1, .cons h t => .cons h (RpL.take n t)
theorem RpL.drop : ∀ {vs : List V} {ds : List D} (n : Nat), RpL K H vs ds → RpL K H (vs.drop n) (ds.drop n)
  | _, _, 0, h => h
  | _, _, _ + 1, .nil => .nil
  | _, _, n + 1, .cons _ t => RpL.drop n t
theorem RpL.set : ∀ {vs : List V} {ds : List D} (n : Nat), RpL K H vs ds → Rp K H v d → RpL K H (vs.set n v) (ds.set n d)
  | _, _, _, .nil, _ => .nil
  | _, _, 0, .cons _ t, h => .cons h t
  | _, _, n + 1, .cons h t, h' => .cons h (RpL.set n t h')
end
/-! ### a variable's thing -/
inductive T where
  | fr (d : D) | ls (l : List D) | dk (l : List (Key × D)) | ob (C : Addr) (ns : List Str) (l : List D)
abbrev DS := List (Option T)
inductive O where
  | tm (t : T) | sl (i : Nat)
def T.toD : T → Option D
  | .fr d => some d
  | .ls ds => some (.lst ds)
  | .ob C ns ds => some (.obj C ns ds)
  | .dk l => some (.dct (l.map (·.1)) (l.map (·.2)))
def TRel (K : PySem.W.Frag) (F M : Hp) (v : V) : T → List Addr → Prop
  | .fr d, as => as = [] ∧ Rp K F v d
  | .ls ds, as => ∃ p vs, v = .ref p ∧ as = [p] ∧ M p = some (.lst vs) ∧ RpL K F vs ds
  | .dk l, as => ∃ p kvs, v = .ref p ∧ as = [p] ∧ M p = some (.dK kvs) ∧ kvs.map (·.1) = l.map (·.1) ∧ RpL K F (kvs.map (·.2)) (l.map (·.2))
  | .ob C ns ds, as => ∃ p dx fs, v = .ref p ∧ as = [p, dx] ∧ p ≠ dx ∧ M p = some (.ins C dx fs) ∧ M dx = some (.own p) ∧ fs.map (·.1) = ns ∧ RpL K F (fs.map (·.2)) ds
abbrev Cell := Option V × Option T
inductive CR (K : PySem.W.Frag) (F M : Hp) : List Cell → List Addr → Prop
  | nil : CR K F M [] []
  | un {o : Option V} {cs : List Cell} {as : List Addr} : CR K F M cs as → CR K F M ((o, none) :: cs) as
  | som {v : V} {t : T} {cs : List Cell} {bs as : List Addr} : TRel K F M v t bs → CR K F M cs as → CR K F M ((some v, some t) :: cs) (bs ++ as)
structure Sep (F R M H : Hp) : Prop where
  f : Same F H
  r : Same R H
  m : Same M H
  fr : ∀ a, F a = none ∨ R a = none
  fm : ∀ a, F a = none ∨ M a = none
  rm : ∀ a, R a = none ∨ M a = none
def Rep (K : PySem.W.Frag) (J : List (Nat × V)) (F R : Hp) (tmp : List Cell) (st : DS) (σ : L2.St) (H : Hp) : Prop :=
  st.length = σ.length ∧ (∀ j ∈ J, σ[j.1]? = some (some j.2)) ∧ ∃ M as, Sep F R M H ∧ CR K F M (tmp ++ σ.zip st) as ∧ as.Nodup
section
variable {K : PySem.W.Frag} {J : List (Nat × V)} {F F' R M M' H H' : Hp} {v : V} {t : T} {as bs : List Addr} {cs c1 c2 : List Cell} {c : Cell} {p : Addr} {o o' : HO}
theorem TRel.monoF (s : Le F F') (h : TRel K F M v t as) : TRel K F' M v t as := by
  cases t with
  | fr d => exact ⟨h.1, Rp.mono s _ _ h.2⟩
  | ls ds => obtain ⟨p, vs, h1, h2, h3, h4⟩ := h; exact ⟨p, vs, h1, h2, h3, RpL.mono s _ _ h4⟩
  | dk l => obtain ⟨p, vs, h1, h2, h3, h4, h5⟩ := h; exact ⟨p, vs, h1, h2, h3, h4, RpL.mono s _ _ h5⟩
  | ob C ns ds => obtain ⟨p, dx, fs, h1, h2, h3, h4, h5, h6, h7⟩ := h; exact ⟨p, dx, fs, h1, h2, h3, h4, h5, h6, RpL.mono s _ _ h7⟩
theorem TRel.frame (s : ∀ a ∈ as, ∀ o, M a = some o → M' a = some o) (h : TRel K F M v t as) : TRel K F M' v t as := by
  cases t with
  | fr d => exact h
  | ls ds => obtain ⟨p, vs, h1, rfl, h3, h4⟩ := h; exact ⟨p, vs, h1, rfl, s p (by simp) _ h3, h4⟩
  | dk l => obtain ⟨p, vs, h1, rfl, h3, h4, h5⟩ := h; exact ⟨p, vs, h1, rfl, s p (by simp) _ h3, h4, h5⟩
  | ob C ns ds => obtain ⟨p, dx, fs, h1, rfl, h3, h4, h5, h6, h7⟩ := h; exact ⟨p, dx, fs, h1, rfl, h3, s p (by simp) _ h4, s dx (by simp) _ h5, h6, h7⟩
theorem TRel.has (h : TRel K F M v t as) : ∀ a ∈ as, ∃ o, M a = some o := by
  cases t with
  | fr d => rw [h.1]; simp
  | ls ds =>
    obtain ⟨p, vs, h1, rfl, h3, h4⟩ := h
    intro a ha
    have : a = p := by simpa using ha
    exact ⟨_, this ▸ h3⟩
  | dk l =>
    obtain ⟨p, vs, h1, rfl, h3, h4, h5⟩ := h
    intro a ha
    have : a = p := by simpa using ha
    exact ⟨_, this ▸ h3⟩
  | ob C ns ds =>
    obtain ⟨p, dx, fs, h1, rfl, h3, h4, h5, h6, h7⟩ := h
    intro a ha
    have : a = p ∨ a = dx := by simpa using ha
    rcases this with rfl | rfl
    · exact ⟨_, h4⟩
    · exact ⟨_, h5⟩
theorem CR.monoF (s : Le F F') (h : CR K F M cs as) : CR K F' M cs as := by
  induction h with
  | nil => exact .nil
  | un _ ih => exact .un ih
  | som h _ ih => exact .som (h.monoF s) ih
theorem CR.frame (s : ∀ a ∈ as, ∀ o, M a = some o → M' a = some o) (h : CR K F M cs as) : CR K F M' cs as := by
  induction h with
  | nil => exact .nil
  | un _ ih => exact .un (ih s)
  | som h _ ih => exact .som (h.frame fun a ha => s a (List.mem_append_left _ ha)) (ih fun a ha => s a (List.mem_append_right _ ha))
theorem CR.has (h : CR K F M cs as) : ∀ a ∈ as, ∃ o, M a = some o := by
  induction h with
  | nil => simp
  | un _ ih => exact ih
  | som h _ ih =>
    intro a ha
    rcases List.mem_append.mp ha with ha | ha
    · exact h.has a ha
    · exact ih a ha
theorem CR.app (h1 : CR K F M c1 as) (h2 : CR K F M c2 bs) : CR K F M (c1 ++ c2) (as ++ bs) := by
  induction h1 with
  | nil => exact h2
  | un _ ih => exact .un ih
  | som h _ ih => rw [List.append_assoc]; exact .som h ih
theorem CR.split : ∀ {c1 : List Cell} {as : List Addr}, CR K F M (c1 ++ c2) as → ∃ a1 a2, as = a1 ++ a2 ∧ CR K F M c1 a1 ∧ CR K F M c2 a2
  | [], as, h => ⟨[], as, rfl, .nil, h⟩
  | (o, none) :: c1, as, h => by
    cases h with
    | un h =>
      obtain ⟨a1, a2, e, h1, h2⟩ := CR.split h
      exact ⟨a1, a2, e, .un h1, h2⟩
  | (o, some t) :: c1, as, h => by
    cases h with
    | som hb h =>
      obtain ⟨a1, a2, rfl, h1, h2⟩ := CR.split h
      exact ⟨_, a2, (List.append_assoc ..).symm, .som hb h1, h2⟩
theorem CR.inv (h : CR K F M ((some v, some t) :: cs) as) : ∃ b a2, as = b ++ a2 ∧ TRel K F M v t b ∧ CR K F M cs a2 := by
  cases h with
  | som h1 h2 => exact ⟨_, _, rfl, h1, h2⟩
theorem CR.inv1 (h : CR K F M ((some v, some t) :: cs) as) : True := True.intro
/-! Sep -/
theorem Sep.freeF (S : Sep F R M H) (n : H p = none) : F p = none := S.f.free n
theorem Sep.freeR (S : Sep F R M H) (n : H p = none) : R p = none := S.r.free n
theorem Sep.freeM (S : Sep F R M H) (n : H p = none) : M p = none := S.m.free n
theorem Sep.grow (S : Sep F R M H) (s : Same H H') : Sep F R M H' := ⟨S.f.trans s, S.r.trans s, S.m.trans s, S.fr, S.fm, S.rm⟩
theorem same_upd2 {A H : Hp} (s : Same A H) : Same (upd A p o) (upd H p o) := fun b u e => by
  by_cases h : b = p
  · subst h; rw [upd_same] at e ⊢; exact e
  · rw [upd_ne h] at e ⊢; exact s b u e
theorem same_updR {A H : Hp} (s : Same A H) (n : A p = none) : Same A (upd H p o) := fun b u e => by
  rw [upd_ne (ne_of_none e n)]
  exact s b u e
theorem Sep.allocF (S : Sep F R M H) (n : H p = none) : Sep (upd F p o) R M (upd H p o) := by
  refine ⟨same_upd2 S.f, same_updR S.r (S.freeR n), same_updR S.m (S.freeM n), fun a => ?_, fun a => ?_, S.rm⟩
  · by_cases h : a = p
    · exact .inr (h ▸ S.freeR n)
    · rw [upd_ne h]; exact S.fr a
  · by_cases h : a = p
    · exact .inr (h ▸ S.freeM n)
    · rw [upd_ne h]; exact S.fm a
theorem Sep.allocM (S : Sep F R M H) (n : H p = none) : Sep F R (upd M p o) (upd H p o) := by
  refine ⟨same_updR S.f (S.freeF n), same_updR S.r (S.freeR n), same_upd2 S.m, S.fr, fun a => ?_, fun a => ?_⟩
  · by_cases h : a = p
    · exact .inl (h ▸ S.freeF n)
    · rw [upd_ne h]; exact S.fm a
  · by_cases h : a = p
    · exact .inl (h ▸ S.freeR n)
    · rw [upd_ne h]; exact S.rm a
theorem Sep.noF (S : Sep F R M H) (e : M p = some o) : F p = none := by
  rcases S.fm p with h | h
  · exact h
  · rw [h] at e; cases e
theorem Sep.noR (S : Sep F R M H) (e : M p = some o) : R p = none := by
  rcases S.rm p with h | h
  · exact h
  · rw [h] at e; cases e
theorem Sep.mut (S : Sep F R M H) (e : M p = some o) : Sep F R (upd M p o') (upd H p o') := by
  refine ⟨same_updR S.f (S.noF e), same_updR S.r (S.noR e), same_upd2 S.m, S.fr, fun a => ?_, fun a => ?_⟩
  · by_cases h : a = p
    · exact .inl (h ▸ S.noF e)
    · rw [upd_ne h]; exact S.fm a
  · by_cases h : a = p
    · exact .inl (h ▸ S.noR e)
    · rw [upd_ne h]; exact S.rm a
theorem Sep.frz (S : Sep F R M H) (e : M p = some o) : Sep (upd F p o) R (cut M p) H := by
  refine ⟨fun b u h => ?_, S.r, cut_le.trans S.m, fun a => ?_, fun a => ?_, fun a => ?_⟩
  · by_cases hb : b = p
    · subst hb; rw [upd_same] at h; cases h; exact S.m _ _ e
    · rw [upd_ne hb] at h; exact S.f _ _ h
  · by_cases h : a = p
    · exact .inr (h ▸ S.noR e)
    · rw [upd_ne h]; exact S.fr a
  · by_cases h : a = p
    · exact .inr (h ▸ cut_same)
    · rw [upd_ne h, cut_ne h]; exact S.fm a
  · by_cases h : a = p
    · exact .inr (h ▸ cut_same)
    · rw [cut_ne h]; exact S.rm a
theorem same_updF (n : F p = none) : Le F (upd F p o) := .of (same_updR (Same.refl F) n)
/-- what is a thing's own is frozen -/
theorem TRel.frz {d : D} (S : Sep F R M H) (h : TRel K F M v t as) (e : t.toD = some d) : ∃ F' M', Le F F' ∧ Sep F' R M' H ∧ Rp K F' v d ∧ ∀ a, a ∉ as → M' a = M a := by
  cases t with
  | fr d' => cases e; exact ⟨F, M, Le.refl F, S, h.2, fun _ _ => rfl⟩
  | ls ds =>
    cases e
    obtain ⟨p, vs, rfl, rfl, h3, h4⟩ := h
    refine ⟨_, _, same_updF (S.noF h3), S.frz h3, .lst upd_same (RpL.mono (same_updF (S.noF h3)) _ _ h4), fun a ha => cut_ne (by simpa using ha)⟩
  | dk l =>
    cases e
    obtain ⟨p, vs, rfl, rfl, h3, h5, h4⟩ := h
    refine ⟨_, _, same_updF (S.noF h3), S.frz h3, .dct (.inl upd_same) h5 (RpL.mono (same_updF (S.noF h3)) _ _ h4), fun a ha => cut_ne (by simpa using ha)⟩
  | ob C ns ds =>
    cases e
    obtain ⟨p, dx, fs, rfl, rfl, h3, h4, h5, h6, h7⟩ := h
    have S1 := S.frz h4
    have h5' : cut M p dx = some (.own p) := by rw [cut_ne h3.symm]; exact h5
    have n1 := S.noF h4
    have n2 := S1.noF h5'
    refine ⟨_, _, (same_updF n1).trans (same_updF n2), S1.frz h5', .obj (C := C) (dx := dx) (fs := fs) ?_ upd_same h6 (RpL.mono ((same_updF n1).trans (same_updF n2)) _ _ h7), fun a ha => ?_⟩
    · rw [upd_ne h3]; exact upd_same
    · have : a ≠ p ∧ a ≠ dx := by simpa using ha
      rw [cut_ne this.2, cut_ne this.1]
end
end Z

namespace Z
open PySem PySem.Spec PyProof.Rows L2 G
/-! ### cells over a heap -/
def RC (K : PySem.W.Frag) (F R : Hp) (cs : List Cell) (H : Hp) : Prop := ∃ M as, Sep F R M H ∧ CR K F M cs as ∧ as.Nodup
section
variable {K : PySem.W.Frag} {J : List (Nat × V)} {F F' R M M' H H' : Hp} {v : V} {t t' : T} {as bs : List Addr} {cs c1 c2 tmp : List Cell} {c : Cell} {p : Addr} {o o' : HO} {d : D} {vs : List V} {ds : List D} {σ : L2.St} {st : DS} {x : Option V} {y : Option T}
theorem CR.perm (h : c1.Perm c2) : ∀ {as : List Addr}, CR K F M c1 as → ∃ bs, as.Perm bs ∧ CR K F M c2 bs := by
  induction h with
  | nil => intro as h; exact ⟨as, .refl _, h⟩
  | cons x _ ih =>
    intro as h
    cases h with
    | un h =>
      obtain ⟨bs, p, h⟩ := ih h
      exact ⟨bs, p, .un h⟩
    | som h1 h =>
      obtain ⟨bs, p, h⟩ := ih h
      exact ⟨_, List.Perm.append_left _ p, .som h1 h⟩
  | swap x y l =>
    intro as h
    cases h with
    | un h =>
      cases h with
      | un h => exact ⟨_, .refl _, .un (.un h)⟩
      | som h1 h => exact ⟨_, .refl _, .som h1 (.un h)⟩
    | som h1 h =>
      cases h with
      | un h => exact ⟨_, .refl _, .un (.som h1 h)⟩
      | som h2 h =>
        refine ⟨_, ?_, .som h2 (.som h1 h)⟩
        rw [← List.append_assoc, ← List.append_assoc]
        exact List.Perm.append_right _ List.perm_append_comm
  | trans _ _ ih1 ih2 =>
    intro as h
    obtain ⟨bs, p, h⟩ := ih1 h
    obtain ⟨ds, q, h⟩ := ih2 h
    exact ⟨ds, p.trans q, h⟩
theorem RC.perm (h : RC K F R c1 H) (p : c1.Perm c2) : RC K F R c2 H := by
  obtain ⟨M, as, S, C, n⟩ := h
  obtain ⟨bs, q, C⟩ := C.perm p
  exact ⟨M, bs, S, C, q.nodup_iff.mp n⟩
theorem RC.drop (h : RC K F R (c :: cs) H) : RC K F R cs H := by
  obtain ⟨M, as, S, C, n⟩ := h
  cases C with
  | un C => exact ⟨M, _, S, C, n⟩
  | som _ C => exact ⟨M, _, S, C, (List.nodup_append.mp n).2.1⟩
theorem RC.un (h : RC K F R cs H) : RC K F R ((x, none) :: cs) H := by
  obtain ⟨M, as, S, C, n⟩ := h
  exact ⟨M, as, S, .un C, n⟩
theorem RC.add (h : RC K F R cs H) (r : Rp K F v d) : RC K F R ((some v, some (.fr d)) :: cs) H := by
  obtain ⟨M, as, S, C, n⟩ := h
  exact ⟨M, [] ++ as, S, .som ⟨rfl, r⟩ C, n⟩
theorem RC.get (h : RC K F R ((some v, some (.fr d)) :: cs) H) : Rp K F v d := by
  obtain ⟨M, as, S, C, n⟩ := h
  cases C with
  | som h _ => exact h.2
theorem RC.isv (h : RC K F R ((x, some t) :: cs) H) : ∃ v, x = some v := by
  obtain ⟨M, as, S, C, n⟩ := h
  cases C with
  | som h _ => exact ⟨_, rfl⟩
theorem RC.grow (h : RC K F R cs H) (s : Same H H') : RC K F R cs H' := by
  obtain ⟨M, as, S, C, n⟩ := h
  exact ⟨M, as, S.grow s, C, n⟩
theorem RC.fH (h : RC K F R cs H) : Same F H := by
  obtain ⟨M, as, S, C, n⟩ := h
  exact S.f
theorem RC.allocF (h : RC K F R cs H) (n : H p = none) : RC K (upd F p o) R cs (upd H p o) := by
  obtain ⟨M, as, S, C, nd⟩ := h
  exact ⟨M, as, S.allocF n, C.monoF (same_updF (S.freeF n)), nd⟩
theorem RC.own (h : RC K F R cs H) (n : H p = none) (r : RpL K F vs ds) : RC K F R ((some (.ref p), some (.ls ds)) :: cs) (upd H p (.lst vs)) := by
  obtain ⟨M, as, S, C, nd⟩ := h
  have nM := S.freeM n
  refine ⟨upd M p (.lst vs), [p] ++ as, S.allocM n, .som ⟨p, vs, rfl, rfl, upd_same, r⟩ (C.frame fun a ha o e => ?_), ?_⟩
  · rw [upd_ne (ne_of_none e nM)]; exact e
  · rw [List.singleton_append, List.nodup_cons]
    refine ⟨fun hp => ?_, nd⟩
    obtain ⟨u, hu⟩ := C.has p hp
    rw [nM] at hu
    cases hu
theorem RC.ownD {kvs : List (Key × V)} {l : List (Key × D)} (h : RC K F R cs H) (n : H p = none) (hk : kvs.map (·.1) = l.map (·.1)) (r : RpL K F (kvs.map (·.2)) (l.map (·.2))) : RC K F R ((some (.ref p), some (.dk l)) :: cs) (upd H p (.dK kvs)) := by
  obtain ⟨M, as, S, C, nd⟩ := h
  have nM := S.freeM n
  refine ⟨upd M p (.dK kvs), [p] ++ as, S.allocM n, .som ⟨p, kvs, rfl, rfl, upd_same, hk, r⟩ (C.frame fun a ha o e => ?_), ?_⟩
  · rw [upd_ne (ne_of_none e nM)]; exact e
  · rw [List.singleton_append, List.nodup_cons]
    refine ⟨fun hp => ?_, nd⟩
    obtain ⟨u, hu⟩ := C.has p hp
    rw [nM] at hu
    cases hu
/-- the list of a cell, to be written -/
theorem RC.mut (h : RC K F R ((some v, some (.ls ds)) :: cs) H) : ∃ p vs, v = .ref p ∧ H p = some (.lst vs) ∧ RpL K F vs ds ∧ ∀ vs' ds', RpL K F vs' ds' → RC K F R ((some v, some (.ls ds')) :: cs) (upd H p (.lst vs')) := by
  obtain ⟨M, as, S, C, nd⟩ := h
  cases C with
  | som h C =>
    obtain ⟨p, vs, rfl, rfl, h3, h4⟩ := h
    refine ⟨p, vs, rfl, S.m _ _ h3, h4, fun vs' ds' r => ⟨upd M p (.lst vs'), _, S.mut h3, .som ⟨p, vs', rfl, rfl, upd_same, r⟩ (C.frame fun a ha o e => ?_), nd⟩⟩
    rw [List.singleton_append, List.nodup_cons] at nd
    rw [upd_ne fun z => nd.1 (by rw [← z]; exact ha)]
    exact e
theorem RC.mutD {l : List (Key × D)} (h : RC K F R ((some v, some (.dk l)) :: cs) H) : ∃ p kvs, v = .ref p ∧ H p = some (.dK kvs) ∧ kvs.map (·.1) = l.map (·.1) ∧ RpL K F (kvs.map (·.2)) (l.map (·.2)) ∧
    ∀ kvs' l', kvs'.map (·.1) = l'.map (·.1) → RpL K F (kvs'.map (·.2)) (l'.map (·.2)) → RC K F R ((some v, some (.dk l')) :: cs) (upd H p (.dK kvs')) := by
  obtain ⟨M, as, S, C, nd⟩ := h
  cases C with
  | som h C =>
    obtain ⟨p, vs, rfl, rfl, h3, h5, h4⟩ := h
    refine ⟨p, vs, rfl, S.m _ _ h3, h5, h4, fun vs' l' hk r => ⟨upd M p (.dK vs'), _, S.mut h3, .som ⟨p, vs', rfl, rfl, upd_same, hk, r⟩ (C.frame fun a ha o e => ?_), nd⟩⟩
    rw [List.singleton_append, List.nodup_cons] at nd
    rw [upd_ne fun z => nd.1 (by rw [← z]; exact ha)]
    exact e
/-- the dict of a cell is locked, and stays from then on -/
theorem RC.lock {l : List (Key × D)} (h : RC K F R ((some v, some (.dk l)) :: cs) H) : ∃ p kvs, v = .ref p ∧ H p = some (.dK kvs) ∧ kvs.map (·.1) = l.map (·.1) ∧ ∀ od, ∃ F', Le F F' ∧ F' p = some (.frz od (.dK kvs)) ∧ RpL K F' (kvs.map (·.2)) (l.map (·.2)) ∧
    RC K F' R ((some v, some (.fr (.dct (l.map (·.1)) (l.map (·.2))))) :: cs) (upd H p (.frz od (.dK kvs))) := by
  obtain ⟨M, as, S, C, nd⟩ := h
  cases C with
  | som h C =>
    obtain ⟨p, vs, rfl, rfl, h3, h5, h4⟩ := h
    refine ⟨p, vs, rfl, S.m _ _ h3, h5, fun od => ?_⟩
    have S1 := (S.mut (o' := .frz od (.dK vs)) h3).frz upd_same
    have s1 := same_updF (o := .frz od (.dK vs)) (S.noF h3)
    rw [List.singleton_append, List.nodup_cons] at nd
    refine ⟨upd F p (.frz od (.dK vs)), s1, upd_same, RpL.mono s1 _ _ h4, _, _, S1, .som (bs := []) ⟨rfl, .dct (.inr ⟨od, upd_same⟩) h5 (RpL.mono s1 _ _ h4)⟩ ((C.monoF s1).frame fun a ha o e => ?_), by simpa using nd.2⟩
    have ne : a ≠ p := fun z => nd.1 (by rw [← z]; exact ha)
    rw [cut_ne ne, upd_ne ne]
    exact e
theorem RC.frz (h : RC K F R ((some v, some t) :: cs) H) (e : t.toD = some d) : ∃ F', Le F F' ∧ RC K F' R ((some v, some (.fr d)) :: cs) H ∧ Rp K F' v d := by
  obtain ⟨M, as, S, C, nd⟩ := h
  cases C with
  | som h C =>
    obtain ⟨F', M', s, S', r, k⟩ := h.frz S e
    rw [List.nodup_append] at nd
    refine ⟨F', s, ⟨M', [] ++ _, S', .som ⟨rfl, r⟩ ((C.monoF s).frame fun a ha o e => ?_), by simpa using nd.2.1⟩, r⟩
    rw [k a fun hb => nd.2.2 a hb a ha rfl]
    exact e
/-! ### the variables -/
theorem zip_set {α β : Type} : ∀ (l : List α) (m : List β) (i : Nat) (a : α) (b : β), (l.set i a).zip (m.set i b) = (l.zip m).set i (a, b)
  | [], _, _, _, _ => by simp
  | _ :: _, [], _, _, _ => by simp
  | x :: l, y :: m, 0, a, b => rfl
  | x :: l, y :: m, i + 1, a, b => by
    rw [List.set_cons_succ, List.set_cons_succ, List.zip_cons_cons, List.zip_cons_cons, List.set_cons_succ, zip_set]
theorem perm_get {α : Type} {a : α} : ∀ {l : List α} {i : Nat}, l[i]? = some a → l.Perm (a :: l.eraseIdx i)
  | [], _, h => by simp at h
  | x :: l, 0, h => by cases h; exact .refl _
  | x :: l, i + 1, h => by
    rw [List.eraseIdx_cons_succ]
    exact (List.Perm.cons x (perm_get (l := l) (i := i) (by simpa using h))).trans (.swap _ _ _)
theorem perm_set {α : Type} {l : List α} {i : Nat} {a : α} (h : i < l.length) : (l.set i a).Perm (a :: l.eraseIdx i) := by
  have h1 : (l.set i a)[i]? = some a := by simp [h]
  have := perm_get h1
  rwa [List.eraseIdx_set_eq] at this
theorem Rep.rc (h : Rep K J F R tmp st σ H) : RC K F R (tmp ++ σ.zip st) H := h.2.2
theorem Rep.of (h : Rep K J F R tmp st σ H) (c : RC K F' R c1 H') (e : c1 = c2 ++ σ.zip st) : Rep K J F' R c2 st σ H' := by
  subst e
  exact ⟨h.1, h.2.1, c⟩
/-- the i-th variable in view -/
theorem Rep.foc {i : Nat} (h : Rep K J F R tmp st σ H) (e : st[i]? = some y) : ∃ x, σ[i]? = some x ∧ RC K F R ((x, y) :: (tmp ++ (σ.zip st).eraseIdx i)) H ∧
    ∀ F' H' x' y', RC K F' R ((x', y') :: (tmp ++ (σ.zip st).eraseIdx i)) H' → (∀ j ∈ J, j.1 ≠ i) → Rep K J F' R tmp (st.set i y') (σ.set i x') H' := by
  obtain ⟨hl, hJ, rc⟩ := h
  obtain ⟨hi, rfl⟩ := List.getElem?_eq_some_iff.mp e
  have hi' : i < σ.length := by omega
  have ez : (σ.zip st)[i]? = some (σ[i], st[i]) := by
    rw [List.getElem?_zip_eq_some]
    exact ⟨List.getElem?_eq_getElem hi', List.getElem?_eq_getElem hi⟩
  refine ⟨σ[i], List.getElem?_eq_getElem hi', RC.perm rc ?_, fun F' H' x' y' c hj => ⟨by simp [hl], fun j hj' => ?_, c.perm ?_⟩⟩
  · exact (List.Perm.append_left tmp (perm_get ez)).trans List.perm_middle
  · rw [List.getElem?_set_ne (hj j hj').symm]
    exact hJ j hj'
  · rw [zip_set]
    refine List.perm_middle.symm.trans (List.Perm.append_left tmp (perm_set ?_).symm)
    rw [List.length_zip]
    omega
theorem set_self {α : Type} {l : List α} {i : Nat} {a : α} (h : l[i]? = some a) : l.set i a = l := by
  obtain ⟨hi, rfl⟩ := List.getElem?_eq_some_iff.mp h
  exact List.set_getElem_self hi
/-- the i-th variable's thing becomes another one, the variable stays -/
theorem Rep.foc2 {i : Nat} (h : Rep K J F R tmp st σ H) (e : st[i]? = some y) : ∃ x, σ[i]? = some x ∧ RC K F R ((x, y) :: (tmp ++ (σ.zip st).eraseIdx i)) H ∧
    ∀ F' H' y', RC K F' R ((x, y') :: (tmp ++ (σ.zip st).eraseIdx i)) H' → Rep K J F' R tmp (st.set i y') σ H' := by
  obtain ⟨x, ex, c, k⟩ := h.foc e
  refine ⟨x, ex, c, fun F' H' y' c' => ?_⟩
  obtain ⟨hl, hJ, rc⟩ := h
  obtain ⟨hi, rfl⟩ := List.getElem?_eq_some_iff.mp e
  refine ⟨by simp [hl], hJ, c'.perm ?_⟩
  have e2 : σ.zip (st.set i y') = (σ.zip st).set i (x, y') := by
    rw [← zip_set, set_self ex]
  rw [e2]
  refine List.perm_middle.symm.trans (List.Perm.append_left tmp (perm_set ?_).symm)
  rw [List.length_zip]
  omega
theorem Rep.perm (h : Rep K J F R c1 st σ H) (p : c1.Perm c2) : Rep K J F R c2 st σ H := ⟨h.1, h.2.1, RC.perm h.2.2 (p.append_right _)⟩
theorem Rep.drop (h : Rep K J F R (c :: tmp) st σ H) : Rep K J F R tmp st σ H := ⟨h.1, h.2.1, RC.drop h.2.2⟩
theorem Rep.dropL : ∀ {c1 : List Cell}, Rep K J F R (c1 ++ tmp) st σ H → Rep K J F R tmp st σ H
  | [], h => h
  | _ :: _, h => Rep.dropL (Rep.drop h)
theorem Rep.grow (h : Rep K J F R tmp st σ H) (s : Same H H') : Rep K J F R tmp st σ H' := ⟨h.1, h.2.1, RC.grow h.2.2 s⟩
theorem Rep.add (h : Rep K J F R tmp st σ H) (r : Rp K F v d) : Rep K J F R ((some v, some (.fr d)) :: tmp) st σ H := ⟨h.1, h.2.1, RC.add h.2.2 r⟩
theorem Rep.allocF (h : Rep K J F R tmp st σ H) (n : H p = none) : Rep K J (upd F p o) R tmp st σ (upd H p o) := ⟨h.1, h.2.1, RC.allocF h.2.2 n⟩
theorem Rep.own (h : Rep K J F R tmp st σ H) (n : H p = none) (r : RpL K F vs ds) : Rep K J F R ((some (.ref p), some (.ls ds)) :: tmp) st σ (upd H p (.lst vs)) := ⟨h.1, h.2.1, RC.own h.2.2 n r⟩
theorem Rep.ownD {kvs : List (Key × V)} {l : List (Key × D)} (h : Rep K J F R tmp st σ H) (n : H p = none) (hk : kvs.map (·.1) = l.map (·.1)) (r : RpL K F (kvs.map (·.2)) (l.map (·.2))) : Rep K J F R ((some (.ref p), some (.dk l)) :: tmp) st σ (upd H p (.dK kvs)) := ⟨h.1, h.2.1, RC.ownD h.2.2 n hk r⟩
theorem Rep.fH (h : Rep K J F R tmp st σ H) : Same F H := RC.fH h.2.2
theorem Rep.freeF (h : Rep K J F R tmp st σ H) (n : H p = none) : F p = none := h.fH.free n
end
end Z

namespace Z
open PySem PySem.Spec PyProof.Rows L2 G
/-! ### data as the library's -/
mutual
def D.toP : D → PyData
  | .non => .none | .bl b => .bool b | .int i => .int i | .str x => .str x | .ty _ => .none
  | .lst ds => .list (D.toPL ds) | .tup ds => .tuple (D.toPL ds) | .obj _ _ _ => .none | .dct _ _ => .none | .ro _ => .none
def D.toPL : List D → List PyData
  | [] => [] | d :: ds => d.toP :: D.toPL ds
end
mutual
def D.pure : D → Bool
  | .non => true | .bl _ => true | .int _ => true | .str _ => true | .ty _ => false
  | .lst ds => D.pureL ds | .tup ds => D.pureL ds | .obj _ _ _ => false | .dct _ _ => false | .ro _ => false
def D.pureL : List D → Bool
  | [] => true | d :: ds => d.pure && D.pureL ds
end
mutual
theorem Rp.dp {K : PySem.W.Frag} {H : Hp} : ∀ (d : D) (v : V), d.pure = true → Rp K H v d → Dp K H v d.toP
  | .non, _, _, h => by cases h; exact .non
  | .bl b, _, _, h => by cases h; exact .bl b
  | .int i, _, _, h => by cases h; exact .int i
  | .str x, _, _, h => by cases h; exact .str x
  | .ty x, _, p, _ => by cases p
  | .obj _ _ _, _, p, _ => by cases p
  | .dct _ _, _, p, _ => by cases p
  | .ro _, _, p, _ => by cases p
  | .lst ds, _, p, h => by
    cases h with
    | lst hs ha => exact .lst (.inl (.inl hs)) (RpL.dp ds _ (by unfold D.pure at p; exact p) ha)
  | .tup ds, _, p, h => by
    cases h with
    | tup hs ha => exact .tup hs (RpL.dp ds _ (by unfold D.pure at p; exact p) ha)
theorem RpL.dp {K : PySem.W.Frag} {H : Hp} : ∀ (ds : List D) (vs : List V), D.pureL ds = true → RpL K H vs ds → DpAll K H vs (D.toPL ds)
  | [], _, _, h => by cases h; exact .nil
  | d :: ds, _, p, h => by
    cases h with
    | cons h1 h2 =>
      unfold D.pureL at p
      rw [Bool.and_eq_true] at p
      exact .cons (Rp.dp d _ p.1 h1) (RpL.dp ds _ p.2 h2)
end
/-! ### what the walk stops at -/
/-- a side condition -/
@[irreducible] def GRD (c : Prop) (Q : Prop) : Prop := c ∧ Q
theorem GRD.mk {c Q : Prop} (h : c) (q : Q) : GRD c Q := by unfold GRD; exact ⟨h, q⟩
theorem GRD.out {c Q : Prop} (h : GRD c Q) : c ∧ Q := by unfold GRD at h; exact h
/-- a branch -/
@[irreducible] def BR (c : Bool) (A B : Prop) : Prop := if c = true then A else B
theorem BR.t {A B : Prop} (h : A) : BR true A B := by unfold BR; exact h
theorem BR.f {A B : Prop} (h : B) : BR false A B := by unfold BR; exact h
theorem BR.nt {A B : Prop} (h : B) : BR (!true) A B := BR.f h
theorem BR.nf {A B : Prop} (h : A) : BR (!false) A B := BR.t h
theorem BR.yes {c : Bool} {A B : Prop} (e : c = true) (h : A) : BR c A B := by subst e; exact BR.t h
theorem BR.no {c : Bool} {A B : Prop} (e : c = false) (h : B) : BR c A B := by subst e; exact BR.f h
theorem BR.both {c : Bool} {A B : Prop} (h1 : c = true → A) (h2 : c = false → B) : BR c A B := by
  cases c with
  | true => exact BR.t (h1 rfl)
  | false => exact BR.f (h2 rfl)
theorem BR.dec {c A B : Prop} [Decidable c] (h1 : c → A) (h2 : ¬ c → B) : BR (decide c) A B := BR.both (fun h => h1 (of_decide_eq_true h)) (fun h => h2 (of_decide_eq_false h))
theorem BR.nd {c A B : Prop} [Decidable c] (h1 : ¬ c → A) (h2 : c → B) : BR (!decide c) A B := BR.both (fun h => h1 (by simpa using h)) (fun h => h2 (by simpa using h))
theorem BR.out {c : Bool} {A B : Prop} (h : BR c A B) : if c = true then A else B := by unfold BR at h; exact h
/-- an item -/
@[irreducible] def IX {α : Type} (l : List α) (i : Int) (Q : α → Prop) : Prop := ∃ d, atI l i = some d ∧ Q d
theorem IX.mk {α : Type} {l : List α} {i : Int} {Q : α → Prop} (d : α) (h : atI l i = some d) (q : Q d) : IX l i Q := by unfold IX; exact ⟨d, h, q⟩
theorem IX.out {α : Type} {l : List α} {i : Int} {Q : α → Prop} (h : IX l i Q) : ∃ d, atI l i = some d ∧ Q d := by unfold IX at h; exact h
/-! ### operands -/
def res (st : DS) : O → Option D
  | .tm t => t.toD
  | .sl i => match st[i]? with
    | some (some t) => t.toD
    | _ => none
def pend (v : V) : O → List Cell
  | .tm t => [(some v, some t)]
  | .sl _ => []
def OKO (σ : L2.St) (v : V) : O → Prop
  | .tm _ => True
  | .sl i => σ[i]? = some (some v)
def pendL : List V → List O → List Cell
  | v :: vs, o :: os => pend v o ++ pendL vs os
  | _, _ => []
inductive OKL (σ : L2.St) : List V → List O → Prop
  | nil : OKL σ [] []
  | cons {v : V} {o : O} {vs : List V} {os : List O} : OKO σ v o → OKL σ vs os → OKL σ (v :: vs) (o :: os)
def Rs (K : PySem.W.Frag) (F H : Hp) (v : V) : D → Prop
  | .lst ds => ∃ a vs, v = .ref a ∧ H a = some (.lst vs) ∧ RpL K F vs ds
  | .obj C ns ds => ∃ a dx fs, v = .ref a ∧ H a = some (.ins C dx fs) ∧ H dx = some (.own a) ∧ fs.map (·.1) = ns ∧ RpL K F (fs.map (·.2)) ds
  | .dct ks ds => ∃ a kvs, v = .ref a ∧ Rd H a (.dK kvs) ∧ kvs.map (·.1) = ks ∧ RpL K F (kvs.map (·.2)) ds
  | d => Rp K F v d
abbrev DE := DS → (O → DS → Prop) → Prop
abbrev DT := DS → (Bool → DS → Prop) → Prop
abbrev DA := DS → (List O → DS → Prop) → Prop
structure RE (K : PySem.W.Frag) (Jn : List Nat) (t : TE) (f : DE) : Prop where
  run : ∀ (J : List (Nat × V)) (F R : Hp) (tmp : List Cell) (st : DS) (σ : L2.St) (H : Hp) (Q : VK) (QD : O → DS → Prop), J.map (·.1) = Jn → Rep K J F R tmp st σ H → f st QD →
    (∀ o st' v F' H', Le F F' → Rep K J F' R (pend v o ++ tmp) st' σ H' → OKO σ v o → QD o st' → Q v H') → t σ H Q
structure RT (K : PySem.W.Frag) (Jn : List Nat) (t : TT) (f : DT) : Prop where
  run : ∀ (J : List (Nat × V)) (F R : Hp) (tmp : List Cell) (st : DS) (σ : L2.St) (H : Hp) (Q : Bool → Hp → Prop) (QD : Bool → DS → Prop), J.map (·.1) = Jn → Rep K J F R tmp st σ H → f st QD →
    (∀ b st' F' H', Le F F' → Rep K J F' R tmp st' σ H' → QD b st' → Q b H') → t σ H Q
structure RA (K : PySem.W.Frag) (Jn : List Nat) (t : TA) (f : DA) : Prop where
  run : ∀ (J : List (Nat × V)) (F R : Hp) (tmp : List Cell) (st : DS) (σ : L2.St) (H : Hp) (Q : List V → Hp → Prop) (QD : List O → DS → Prop), J.map (·.1) = Jn → Rep K J F R tmp st σ H → f st QD →
    (∀ os st' vs F' H', Le F F' → Rep K J F' R (pendL vs os ++ tmp) st' σ H' → OKL σ vs os → QD os st' → Q vs H') → t σ H Q
/-- an operator by its operands' data; what it gives is a thing of its own -/
structure RO (K : PySem.W.Frag) (r : R2) (f : D → D → (T → Prop) → Prop) : Prop where
  run : ∀ (J : List (Nat × V)) (F R : Hp) (tmp : List Cell) (st : DS) (σ : L2.St) (H : Hp) (x y : V) (dx dy : D) (Q : VK) (QD : T → Prop), Rep K J F R tmp st σ H → Rs K F H x dx → Rs K F H y dy → f dx dy QD →
    (∀ v t F' H', Le F F' → Rep K J F' R ((some v, some t) :: tmp) st σ H' → QD t → Q v H') → r x y H Q
structure RU (K : PySem.W.Frag) (r : V → Hp → VK → Prop) (f : D → (T → Prop) → Prop) : Prop where
  run : ∀ (J : List (Nat × V)) (F R : Hp) (tmp : List Cell) (st : DS) (σ : L2.St) (H : Hp) (x : V) (dx : D) (Q : VK) (QD : T → Prop), Rep K J F R tmp st σ H → Rs K F H x dx → f dx QD →
    (∀ v t F' H', Le F F' → Rep K J F' R ((some v, some t) :: tmp) st σ H' → QD t → Q v H') → r x H Q
section
variable {K : PySem.W.Frag} {J : List (Nat × V)} {F F' R M M' H H' : Hp} {v : V} {t t' : T} {as bs : List Addr} {cs c1 c2 tmp : List Cell} {c : Cell} {p : Addr} {d : D} {vs : List V} {ds : List D} {σ : L2.St} {st st' : DS} {o : O} {os : List O} {Jn : List Nat}
theorem Rs.of (s : Le F H) (h : Rp K F v d) : Rs K F H v d := by
  cases d with
  | lst ds => cases h with | lst h1 h2 => exact ⟨_, _, rfl, s.lst h1, h2⟩
  | obj C ns ds => cases h with | obj h1 h2 h3 h4 => exact ⟨_, _, _, rfl, s.ins h1, s.own h2, h3, h4⟩
  | dct ks ds => cases h with | dct h1 h2 h3 => exact ⟨_, _, rfl, s.rdK h1, h2, h3⟩
  | _ => exact h
theorem Rs.rp (s : Le F H) (h : Rs K F H v d) : Rp K H v d := by
  cases d with
  | lst ds => obtain ⟨a, vs, rfl, h1, h2⟩ := h; exact .lst h1 (RpL.mono s _ _ h2)
  | obj C ns ds => obtain ⟨a, dx, fs, rfl, h1, h2, h3, h4⟩ := h; exact .obj h1 h2 h3 (RpL.mono s _ _ h4)
  | dct ks ds => obtain ⟨a, kvs, rfl, h1, h2, h3⟩ := h; exact .dct h1 h2 (RpL.mono s _ _ h3)
  | _ => exact Rp.mono s _ _ h
theorem TRel.rs (S : Sep F R M H) (h : TRel K F M v t as) (e : t.toD = some d) : Rs K F H v d := by
  cases t with
  | fr d' => cases e; exact Rs.of (.of S.f) h.2
  | ls ds => cases e; obtain ⟨p, vs, h1, h2, h3, h4⟩ := h; exact ⟨p, vs, h1, S.m _ _ h3, h4⟩
  | dk l => cases e; obtain ⟨p, kvs, h1, h2, h3, h4, h5⟩ := h; exact ⟨p, kvs, h1, .inl (S.m _ _ h3), h4, h5⟩
  | ob C ns ds => cases e; obtain ⟨p, dx, fs, h1, h2, h3, h4, h5, h6, h7⟩ := h; exact ⟨p, dx, fs, h1, S.m _ _ h4, S.m _ _ h5, h6, h7⟩
theorem RC.rs (h : RC K F R ((some v, some t) :: cs) H) (e : t.toD = some d) : Rs K F H v d := by
  obtain ⟨M, as, S, C, nd⟩ := h
  cases C with
  | som h C => exact h.rs S e
/-- an operand's data -/
theorem Rep.rs (h : Rep K J F R (pend v o ++ tmp) st σ H) (ok : OKO σ v o) (e : res st o = some d) : Rs K F H v d := by
  cases o with
  | tm t => exact RC.rs h.rc e
  | sl i =>
    unfold res at e
    dsimp only at e
    cases e1 : st[i]? with
    | none => rw [e1] at e; cases e
    | some y =>
      rw [e1] at e
      cases y with
      | none => cases e
      | some t =>
        obtain ⟨x, ex, c, _⟩ := h.foc2 e1
        have ok : σ[i]? = some (some v) := ok
        rw [ok] at ex
        cases ex
        exact RC.rs c e
theorem Rep.keep1 (h : Rep K J F R (c :: (c1 ++ tmp)) st σ H) : Rep K J F R (c :: tmp) st σ H :=
  Rep.dropL (c1 := c1) (h.perm (by simpa using (List.perm_middle (l₁ := c1) (l₂ := tmp) (a := c)).symm))
/-! ### the readings -/
def dVar (i : Nat) : DE := fun st Q => match st[i]? with
  | some (some (.fr d)) => Q (.tm (.fr d)) st
  | some (some (.ls _)) => Q (.sl i) st
  | some (some (.dk _)) => Q (.sl i) st
  | some (some (.ob _ _ _)) => Q (.sl i) st
  | _ => False
theorem re_var (i : Nat) : RE K Jn (tVar i) (dVar i) := by
  refine ⟨fun J F R tmp st σ H Q QD hJ h q k => ?_⟩
  unfold dVar at q
  cases e1 : st[i]? with
  | none => rw [e1] at q; exact q.elim
  | some y =>
    rw [e1] at q
    cases y with
    | none => exact q.elim
    | some t =>
      obtain ⟨x, ex, c, _⟩ := h.foc2 e1
      obtain ⟨v, rfl⟩ := RC.isv c
      cases t with
      | fr d => exact ⟨v, ex, k (.tm (.fr d)) st v F H (Le.refl _) (h.add (RC.get c)) True.intro q⟩
      | ls ds => exact ⟨v, ex, k (.sl i) st v F H (Le.refl _) h ex q⟩
      | dk l => exact ⟨v, ex, k (.sl i) st v F H (Le.refl _) h ex q⟩
      | ob C ns ds => exact ⟨v, ex, k (.sl i) st v F H (Le.refl _) h ex q⟩
def dC (d : D) : DE := fun st Q => Q (.tm (.fr d)) st
theorem re_c (h : ∀ F, Rp K F v d) : RE K Jn (tC v) (dC d) := ⟨fun J F R tmp st σ H Q QD hJ hr q k => k (.tm (.fr d)) st v F H (Le.refl _) (hr.add (h F)) True.intro q⟩
theorem re_int (i : Int) : RE K Jn (tC (.int i)) (dC (.int i)) := re_c fun _ => .int i
theorem re_bl (b : Bool) : RE K Jn (tC (.bl b)) (dC (.bl b)) := re_c fun _ => .bl b
theorem re_str (x : Str) : RE K Jn (tC (.str x)) (dC (.str x)) := re_c fun _ => .str x
theorem re_non : RE K Jn (tC .non) (dC .non) := re_c fun _ => .non
theorem re_ty (n : String) : RE K Jn (tC (.ty n)) (dC (.ty n)) := re_c fun _ => .ty n
def dOp (rd : D → D → (T → Prop) → Prop) (fa fb : DE) : DE := fun st Q => fa st fun oa st1 => fb st1 fun ob st2 => match res st2 oa, res st2 ob with
  | some x, some y => rd x y fun t => Q (.tm t) st2
  | _, _ => False
theorem re_op {r : R2} {rd : D → D → (T → Prop) → Prop} {ta tb : TE} {fa fb : DE} (hr : RO K r rd) (ha : RE K Jn ta fa) (hb : RE K Jn tb fb) : RE K Jn (tOp r ta tb) (dOp rd fa fb) := by
  refine ⟨fun J F R tmp st σ H Q QD hJ h q k => ?_⟩
  refine ha.run J F R tmp st σ H _ _ hJ h q fun oa st1 x F1 H1 s1 h1 ok1 q1 => ?_
  refine hb.run J F1 R _ st1 σ H1 _ _ hJ h1 q1 fun ob st2 y F2 H2 s2 h2 ok2 q2 => ?_
  cases ea : res st2 oa with
  | none => rw [ea] at q2; exact q2.elim
  | some dx =>
    cases eb : res st2 ob with
    | none => rw [ea, eb] at q2; exact q2.elim
    | some dy =>
      rw [ea, eb] at q2
      refine hr.run J F2 R _ st2 σ H2 x y dx dy _ _ h2 (Rep.rs (Rep.dropL h2) ok1 ea) (h2.rs ok2 eb) q2 fun v t F3 H3 s3 h3 q3 => ?_
      exact k (.tm t) st2 v F3 H3 (s1.trans (s2.trans s3)) (Rep.keep1 (c1 := pend x oa) (Rep.keep1 (c1 := pend y ob) h3)) True.intro q3
def dUn (rd : D → (T → Prop) → Prop) (fa : DE) : DE := fun st Q => fa st fun oa st1 => match res st1 oa with
  | some x => rd x fun t => Q (.tm t) st1
  | _ => False
theorem re_un {r : V → Hp → VK → Prop} {rd : D → (T → Prop) → Prop} {ta : TE} {fa : DE} (hr : RU K r rd) (ha : RE K Jn ta fa) : RE K Jn (tUn r ta) (dUn rd fa) := by
  refine ⟨fun J F R tmp st σ H Q QD hJ h q k => ?_⟩
  refine ha.run J F R tmp st σ H _ _ hJ h q fun oa st1 x F1 H1 s1 h1 ok1 q1 => ?_
  cases ea : res st1 oa with
  | none => rw [ea] at q1; exact q1.elim
  | some dx =>
    rw [ea] at q1
    refine hr.run J F1 R _ st1 σ H1 x dx _ _ h1 (h1.rs ok1 ea) q1 fun v t F3 H3 s3 h3 q3 => ?_
    exact k (.tm t) st1 v F3 H3 (s1.trans s3) (Rep.keep1 (c1 := pend x oa) h3) True.intro q3
/-! ints -/
def dI (C : Int → Int → Prop) (g : Int → Int → D) : D → D → (T → Prop) → Prop := fun x y Q => match x, y with
  | .int i, .int j => GRD (C i j) (Q (.fr (g i j)))
  | _, _ => False
def dI0 (g : Int → Int → D) : D → D → (T → Prop) → Prop := fun x y Q => match x, y with
  | .int i, .int j => Q (.fr (g i j))
  | _, _ => False
def dU (g : Int → D) : D → (T → Prop) → Prop := fun x Q => match x with
  | .int i => Q (.fr (g i))
  | _ => False
theorem ro_I {C : Int → Int → Prop} {f : Int → Int → V} {g : Int → Int → D} (h : ∀ i j F, Rp K F (f i j) (g i j)) : RO K (rI C f) (dI C g) := by
  refine ⟨fun J F R tmp st σ H x y dx dy Q QD hr hx hy q k => ?_⟩
  cases dx <;> try exact q.elim
  cases dy <;> try exact q.elim
  cases hx; cases hy
  obtain ⟨c, q⟩ := GRD.out q
  exact ⟨_, _, rfl, rfl, c, k _ _ F H (Le.refl _) (hr.add (h _ _ F)) q⟩
theorem ro_I0 {f : Int → Int → V} {g : Int → Int → D} (h : ∀ i j F, Rp K F (f i j) (g i j)) : RO K (rI0 f) (dI0 g) := by
  refine ⟨fun J F R tmp st σ H x y dx dy Q QD hr hx hy q k => ?_⟩
  cases dx <;> try exact q.elim
  cases dy <;> try exact q.elim
  cases hx; cases hy
  exact ⟨_, _, rfl, rfl, k _ _ F H (Le.refl _) (hr.add (h _ _ F)) q⟩
theorem ru_U {f : Int → V} {g : Int → D} (h : ∀ i F, Rp K F (f i) (g i)) : RU K (rU f) (dU g) := by
  refine ⟨fun J F R tmp st σ H x dx Q QD hr hx q k => ?_⟩
  cases dx <;> try exact q.elim
  cases hx
  exact ⟨_, rfl, k _ _ F H (Le.refl _) (hr.add (h _ F)) q⟩
/-! == of plain values -/
def dEqS : D → D → (T → Prop) → Prop := fun x y Q => match x, y with
  | .int i, .int j => Q (.fr (.bl (decide (i = j))))
  | .str i, .str j => Q (.fr (.bl (decide (i = j))))
  | .bl i, .bl j => Q (.fr (.bl (decide (i = j))))
  | .non, .non => Q (.fr (.bl true))
  | .non, .int _ => Q (.fr (.bl false))
  | .int _, .non => Q (.fr (.bl false))
  | .non, .str _ => Q (.fr (.bl false))
  | .str _, .non => Q (.fr (.bl false))
  | _, _ => False
def dNeS : D → D → (T → Prop) → Prop := fun x y Q => match x, y with
  | .int i, .int j => Q (.fr (.bl (!decide (i = j))))
  | .str i, .str j => Q (.fr (.bl (!decide (i = j))))
  | .bl i, .bl j => Q (.fr (.bl (!decide (i = j))))
  | .non, .non => Q (.fr (.bl false))
  | .non, .int _ => Q (.fr (.bl true))
  | .int _, .non => Q (.fr (.bl true))
  | .non, .str _ => Q (.fr (.bl true))
  | .str _, .non => Q (.fr (.bl true))
  | _, _ => False
theorem ro_eq : RO K rEq dEqS := by
  refine ⟨fun J F R tmp st σ H x y dx dy Q QD hr hx hy q k => ?_⟩
  have fin : ∀ b : Bool, decide (x = y) = b → QD (.fr (.bl b)) → Q (.bl (decide (x = y))) H := fun b e q => by
    rw [e]; exact k _ _ F H (Le.refl _) (hr.add (.bl b)) q
  cases dx <;> cases dy <;> try exact q.elim
  all_goals (cases hx; cases hy; refine ⟨rfl, fin _ ?_ q⟩)
  all_goals simp
theorem ro_ne : RO K rNe dNeS := by
  refine ⟨fun J F R tmp st σ H x y dx dy Q QD hr hx hy q k => ?_⟩
  have fin : ∀ b : Bool, (!decide (x = y)) = b → QD (.fr (.bl b)) → Q (.bl (!decide (x = y))) H := fun b e q => by
    rw [e]; exact k _ _ F H (Le.refl _) (hr.add (.bl b)) q
  cases dx <;> cases dy <;> try exact q.elim
  all_goals (cases hx; cases hy; refine ⟨rfl, fin _ ?_ q⟩)
  all_goals simp
/-! == of data -/
def okD (d : D) : Bool := d.pure && SeqAt.shaped d.toP
def eqD (x y : D) : Bool := PyData.eqv x.toP y.toP
@[irreducible] def EQV (x y : D) (P : Bool → Prop) : Prop := (okD x = true ∧ okD y = true) ∧ P (eqD x y)
theorem EQV.mk {x y : D} {P : Bool → Prop} (h : okD x = true ∧ okD y = true) (q : P (eqD x y)) : EQV x y P := by unfold EQV; exact ⟨h, q⟩
theorem EQV.out {x y : D} {P : Bool → Prop} (h : EQV x y P) : (okD x = true ∧ okD y = true) ∧ P (eqD x y) := by unfold EQV at h; exact h
@[irreducible] def INV (x : D) (l : List D) (P : Bool → Prop) : Prop := (okD x = true ∧ okD (.lst l) = true) ∧ P (l.any fun z => eqD z x)
theorem INV.mk {x : D} {l : List D} {P : Bool → Prop} (h : okD x = true ∧ okD (.lst l) = true) (q : P (l.any fun z => eqD z x)) : INV x l P := by unfold INV; exact ⟨h, q⟩
theorem INV.out {x : D} {l : List D} {P : Bool → Prop} (h : INV x l P) : (okD x = true ∧ okD (.lst l) = true) ∧ P (l.any fun z => eqD z x) := by unfold INV at h; exact h
def dEqD : D → D → (T → Prop) → Prop := fun x y Q => EQV x y fun b => Q (.fr (.bl b))
def dNeD : D → D → (T → Prop) → Prop := fun x y Q => EQV x y fun b => Q (.fr (.bl (!b)))
theorem Rs.dp (s : Le F H) (h : Rs K F H v d) (o : okD d = true) : Dp K H v d.toP ∧ SeqAt.shaped d.toP = true := by
  unfold okD at o
  rw [Bool.and_eq_true] at o
  exact ⟨Rp.dp d v o.1 (h.rp s), o.2⟩
theorem ro_eqD : RO K (rEqD K) dEqD := by
  refine ⟨fun J F R tmp st σ H x y dx dy Q QD hr hx hy q k => ?_⟩
  obtain ⟨⟨o1, o2⟩, q⟩ := EQV.out q
  obtain ⟨h1, h2⟩ := hx.dp (.of hr.fH) o1
  obtain ⟨h3, h4⟩ := hy.dp (.of hr.fH) o2
  exact ⟨_, _, h1, h3, h2, h4, k _ _ F H (Le.refl _) (hr.add (.bl _)) q⟩
theorem ro_neD : RO K (rNeD K) dNeD := by
  refine ⟨fun J F R tmp st σ H x y dx dy Q QD hr hx hy q k => ?_⟩
  obtain ⟨⟨o1, o2⟩, q⟩ := EQV.out q
  obtain ⟨h1, h2⟩ := hx.dp (.of hr.fH) o1
  obtain ⟨h3, h4⟩ := hy.dp (.of hr.fH) o2
  exact ⟨_, _, h1, h3, h2, h4, k _ _ F H (Le.refl _) (hr.add (.bl _)) q⟩
/-! in, of data -/
def dInD : D → D → (T → Prop) → Prop := fun x y Q => match y with
  | .lst l => INV x l fun b => Q (.fr (.bl b))
  | _ => False
def dNotInD : D → D → (T → Prop) → Prop := fun x y Q => match y with
  | .lst l => INV x l fun b => Q (.fr (.bl (!b)))
  | _ => False
/-! is None -/
def D.isN : D → Bool
  | .non => true
  | _ => false
def dIsN : D → D → (T → Prop) → Prop := fun x y Q => match y with
  | .non => Q (.fr (.bl x.isN))
  | _ => False
def dNotN : D → D → (T → Prop) → Prop := fun x y Q => match y with
  | .non => Q (.fr (.bl (!x.isN)))
  | _ => False
theorem Rs.non_iff {x : V} {dx : D} (h : Rs K F H x dx) : decide (x = V.non) = dx.isN := by
  cases dx with
  | lst ds => obtain ⟨a, vs, rfl, _⟩ := h; rfl
  | obj C ns ds => obtain ⟨a, dx, fs, rfl, _⟩ := h; rfl
  | dct ks ds => obtain ⟨a, kvs, rfl, _⟩ := h; rfl
  | tup ds => cases h; rfl
  | ro ds => cases h; rfl
  | _ => cases h; rfl
abbrev rIsN : R2 := fun x y H Q => y = .non ∧ Q (.bl (decide (x = .non))) H
abbrev rNotN : R2 := fun x y H Q => y = .non ∧ Q (.bl (!decide (x = .non))) H
theorem ro_isN : RO K rIsN dIsN := by
  refine ⟨fun J F R tmp st σ H x y dx dy Q QD hr hx hy q k => ?_⟩
  cases dy <;> try exact q.elim
  cases hy
  refine ⟨rfl, ?_⟩
  rw [hx.non_iff]
  exact k _ _ F H (Le.refl _) (hr.add (.bl _)) q
theorem ro_notN : RO K rNotN dNotN := by
  refine ⟨fun J F R tmp st σ H x y dx dy Q QD hr hx hy q k => ?_⟩
  cases dy <;> try exact q.elim
  cases hy
  refine ⟨rfl, ?_⟩
  rw [hx.non_iff]
  exact k _ _ F H (Le.refl _) (hr.add (.bl _)) q
/-! ### tests -/
def dTest (f : DE) : DT := fun st Q => f st fun o st1 => match res st1 o with
  | some (.bl b) => Q b st1
  | _ => False
theorem dTest_run {t : TE} {f : DE} (h : RE K Jn t f) {tmp : List Cell} {st : DS} {σ : L2.St} {H : Hp} {Q : Bool → Hp → Prop} {QD : Bool → DS → Prop} (hJ : J.map (·.1) = Jn) (hr : Rep K J F R tmp st σ H) (q : dTest f st QD)
    (k : ∀ b st' F' H', Le F F' → Rep K J F' R tmp st' σ H' → QD b st' → Q b H') : t σ H fun x H' => ∃ k, x = .bl k ∧ Q k H' := by
  refine h.run J F R tmp st σ H _ _ hJ hr q fun o st1 v F1 H1 s1 h1 ok q1 => ?_
  cases e : res st1 o with
  | none => rw [e] at q1; exact q1.elim
  | some d =>
    rw [e] at q1
    cases d <;> try exact q1.elim
    have r := h1.rs ok e
    cases r
    exact ⟨_, rfl, k _ st1 F1 H1 s1 (Rep.dropL h1) q1⟩
theorem rt_test {t : TE} {f : DE} (h : RE K Jn t f) : RT K Jn (tTest t) (dTest f) := ⟨fun J F R tmp st σ H Q QD hJ hr q k => dTest_run h hJ hr q k⟩
theorem rt_B {t : TE} {f : DE} (h : RE K Jn t f) : RT K Jn (tB t) (dTest f) := ⟨fun J F R tmp st σ H Q QD hJ hr q k => dTest_run h hJ hr q k⟩
def dNot (f : DT) : DT := fun st Q => f st fun b st1 => Q (!b) st1
def dAnd (f g : DT) : DT := fun st Q => f st fun b st1 => BR b (g st1 Q) (Q false st1)
def dOr (f g : DT) : DT := fun st Q => f st fun b st1 => BR b (Q true st1) (g st1 Q)
theorem rt_not {t : TT} {f : DT} (h : RT K Jn t f) : RT K Jn (tNot t) (dNot f) :=
  ⟨fun J F R tmp st σ H Q QD hJ hr q k => h.run J F R tmp st σ H _ _ hJ hr q fun b st1 F1 H1 s1 h1 q1 => k _ st1 F1 H1 s1 h1 q1⟩
theorem rt_and {t u : TT} {f g : DT} (h : RT K Jn t f) (h' : RT K Jn u g) : RT K Jn (tAnd t u) (dAnd f g) := by
  refine ⟨fun J F R tmp st σ H Q QD hJ hr q k => h.run J F R tmp st σ H _ _ hJ hr q fun b st1 F1 H1 s1 h1 q1 => ?_⟩
  have q1 := BR.out q1
  cases b with
  | true => exact h'.run J F1 R tmp st1 σ H1 _ _ hJ h1 q1 fun b st2 F2 H2 s2 h2 q2 => k b st2 F2 H2 (s1.trans s2) h2 q2
  | false => exact k _ st1 F1 H1 s1 h1 q1
theorem rt_or {t u : TT} {f g : DT} (h : RT K Jn t f) (h' : RT K Jn u g) : RT K Jn (tOr t u) (dOr f g) := by
  refine ⟨fun J F R tmp st σ H Q QD hJ hr q k => h.run J F R tmp st σ H _ _ hJ hr q fun b st1 F1 H1 s1 h1 q1 => ?_⟩
  have q1 := BR.out q1
  cases b with
  | true => exact k _ st1 F1 H1 s1 h1 q1
  | false => exact h'.run J F1 R tmp st1 σ H1 _ _ hJ h1 q1 fun b st2 F2 H2 s2 h2 q2 => k b st2 F2 H2 (s1.trans s2) h2 q2
/-! truth of a value -/
def truD : D → Option Bool
  | .non => some false | .bl b => some b | .int i => some (i != 0) | .lst l => some (!l.isEmpty) | .tup l => some (!l.isEmpty) | _ => none
def dTruth (f : DE) : DT := fun st Q => f st fun o st1 => match res st1 o with
  | some d => match truD d with
    | some b => Q b st1
    | none => False
  | _ => False
theorem isEmpty_rp (h : RpL K F vs ds) : vs.isEmpty = ds.isEmpty := by cases h <;> rfl
theorem rt_truth {t : TE} {f : DE} (h : RE K Jn t f) : RT K Jn (fun σ H Q => t σ H fun x H' => ∃ k, TruV K x H' k ∧ Q k H') (dTruth f) := by
  refine ⟨fun J F R tmp st σ H Q QD hJ hr q k => h.run J F R tmp st σ H _ _ hJ hr q fun o st1 v F1 H1 s1 h1 ok q1 => ?_⟩
  cases e : res st1 o with
  | none => rw [e] at q1; exact q1.elim
  | some d =>
    rw [e] at q1
    have r := h1.rs ok e
    have fin : ∀ b, QD b st1 → Q b H1 := fun b q => k b st1 F1 H1 s1 (Rep.dropL h1) q
    cases d with
    | non => cases r; exact ⟨_, rfl, fin _ q1⟩
    | bl b => cases r; exact ⟨_, rfl, fin _ q1⟩
    | int b => cases r; exact ⟨_, rfl, fin _ q1⟩
    | lst l =>
      obtain ⟨a, vs, rfl, h2, h3⟩ := r
      exact ⟨_, .inl ⟨vs, .inl (.inl h2), rfl⟩, fin _ (by rw [isEmpty_rp h3]; exact q1)⟩
    | tup l =>
      cases r with
      | tup h2 h3 => exact ⟨_, .inr (.inl ⟨_, Same.tup h1.fH h2, rfl⟩), fin _ (by rw [isEmpty_rp h3]; exact q1)⟩
    | _ => exact q1.elim
/-! bools as values -/
def dAndV (f g : DE) : DE := fun st Q => f st fun o st1 => match res st1 o with
  | some (.bl b) => BR b (g st1 Q) (Q (.tm (.fr (.bl false))) st1)
  | _ => False
def dOrV (f g : DE) : DE := fun st Q => f st fun o st1 => match res st1 o with
  | some (.bl b) => BR b (Q (.tm (.fr (.bl true))) st1) (g st1 Q)
  | _ => False
def dNotV (f : DE) : DE := fun st Q => f st fun o st1 => match res st1 o with
  | some (.bl b) => Q (.tm (.fr (.bl (!b)))) st1
  | _ => False
theorem re_notV {t : TE} {f : DE} (h : RE K Jn t f) : RE K Jn (tNotV t) (dNotV f) := by
  refine ⟨fun J F R tmp st σ H Q QD hJ hr q k => h.run J F R tmp st σ H _ _ hJ hr q fun o st1 v F1 H1 s1 h1 ok q1 => ?_⟩
  cases e : res st1 o with
  | none => rw [e] at q1; exact q1.elim
  | some d =>
    rw [e] at q1
    cases d <;> try exact q1.elim
    have r := h1.rs ok e
    cases r
    exact ⟨_, rfl, k (.tm (.fr (.bl _))) st1 _ F1 H1 s1 ((Rep.dropL h1).add (.bl _)) True.intro q1⟩
theorem re_andV {t u : TE} {f g : DE} (h : RE K Jn t f) (h' : RE K Jn u g) : RE K Jn (tAndV t u) (dAndV f g) := by
  refine ⟨fun J F R tmp st σ H Q QD hJ hr q k => h.run J F R tmp st σ H _ _ hJ hr q fun o st1 v F1 H1 s1 h1 ok q1 => ?_⟩
  cases e : res st1 o with
  | none => rw [e] at q1; exact q1.elim
  | some d =>
    rw [e] at q1
    cases d <;> try exact q1.elim
    rename_i b
    have r := h1.rs ok e
    cases r
    have q1 := BR.out q1
    refine ⟨_, rfl, ?_⟩
    have h2 := Rep.dropL h1
    cases b with
    | true => exact h'.run J F1 R tmp st1 σ H1 _ _ hJ h2 q1 fun o st2 v F2 H2 s2 h3 ok2 q2 => k o st2 v F2 H2 (s1.trans s2) h3 ok2 q2
    | false => exact k (.tm (.fr (.bl _))) st1 _ F1 H1 s1 (h2.add (.bl _)) True.intro q1
theorem re_orV {t u : TE} {f g : DE} (h : RE K Jn t f) (h' : RE K Jn u g) : RE K Jn (tOrV t u) (dOrV f g) := by
  refine ⟨fun J F R tmp st σ H Q QD hJ hr q k => h.run J F R tmp st σ H _ _ hJ hr q fun o st1 v F1 H1 s1 h1 ok q1 => ?_⟩
  cases e : res st1 o with
  | none => rw [e] at q1; exact q1.elim
  | some d =>
    rw [e] at q1
    cases d <;> try exact q1.elim
    rename_i b
    have r := h1.rs ok e
    cases r
    have q1 := BR.out q1
    refine ⟨_, rfl, ?_⟩
    have h2 := Rep.dropL h1
    cases b with
    | false => exact h'.run J F1 R tmp st1 σ H1 _ _ hJ h2 q1 fun o st2 v F2 H2 s2 h3 ok2 q2 => k o st2 v F2 H2 (s1.trans s2) h3 ok2 q2
    | true => exact k (.tm (.fr (.bl _))) st1 _ F1 H1 s1 (h2.add (.bl _)) True.intro q1
def dIf (c : DT) (f g : DE) : DE := fun st Q => c st fun b st1 => BR b (f st1 Q) (g st1 Q)
theorem re_if {c : TT} {t u : TE} {fc : DT} {f g : DE} (hc : RT K Jn c fc) (h : RE K Jn t f) (h' : RE K Jn u g) : RE K Jn (tIf c t u) (dIf fc f g) := by
  refine ⟨fun J F R tmp st σ H Q QD hJ hr q k => hc.run J F R tmp st σ H _ _ hJ hr q fun b st1 F1 H1 s1 h1 q1 => ?_⟩
  have q1 := BR.out q1
  cases b with
  | true => exact h.run J F1 R tmp st1 σ H1 _ _ hJ h1 q1 fun o st2 v F2 H2 s2 h3 ok2 q2 => k o st2 v F2 H2 (s1.trans s2) h3 ok2 q2
  | false => exact h'.run J F1 R tmp st1 σ H1 _ _ hJ h1 q1 fun o st2 v F2 H2 s2 h3 ok2 q2 => k o st2 v F2 H2 (s1.trans s2) h3 ok2 q2
/-! ### arguments -/
def dNil : DA := fun st Q => Q [] st
def dCons (f : DE) (g : DA) : DA := fun st Q => f st fun o st1 => g st1 fun os st2 => Q (o :: os) st2
theorem ra_nil : RA K Jn tNil dNil := ⟨fun J F R tmp st σ H Q QD hJ hr q k => k [] st [] F H (Le.refl _) hr .nil q⟩
theorem ra_cons {t : TE} {u : TA} {f : DE} {g : DA} (h : RE K Jn t f) (h' : RA K Jn u g) : RA K Jn (tCons t u) (dCons f g) := by
  refine ⟨fun J F R tmp st σ H Q QD hJ hr q k => h.run J F R tmp st σ H _ _ hJ hr q fun o st1 v F1 H1 s1 h1 ok q1 => ?_⟩
  refine h'.run J F1 R _ st1 σ H1 _ _ hJ h1 q1 fun os st2 vs F2 H2 s2 h2 ok2 q2 => ?_
  refine k (o :: os) st2 (v :: vs) F2 H2 (s1.trans s2) (h2.perm ?_) (.cons ok ok2) q2
  show (pendL vs os ++ (pend v o ++ tmp)).Perm (pend v o ++ pendL vs os ++ tmp)
  rw [← List.append_assoc]
  exact List.perm_append_comm.append_right tmp
/-! what is handed over stays from then on -/
def frz1 (st : DS) : O → Option (D × DS)
  | .tm t => match t.toD with
    | some d => some (d, st)
    | none => none
  | .sl i => match st[i]? with
    | some (some t) => match t.toD with
      | some d => some (d, st.set i (some (.fr d)))
      | none => none
    | _ => none
def frzL (st : DS) : List O → Option (List D × DS)
  | [] => some ([], st)
  | o :: os => match frz1 st o with
    | some (d, st1) => match frzL st1 os with
      | some (ds, st2) => some (d :: ds, st2)
      | none => none
    | none => none
theorem Rep.frz1 (h : Rep K J F R (pend v o ++ tmp) st σ H) (ok : OKO σ v o) (e : frz1 st o = some (d, st')) : ∃ F', Le F F' ∧ Rep K J F' R tmp st' σ H ∧ Rp K F' v d := by
  cases o with
  | tm t =>
    unfold Z.frz1 at e
    dsimp only at e
    cases e1 : t.toD with
    | none => rw [e1] at e; cases e
    | some d' =>
      rw [e1] at e
      cases e
      obtain ⟨F', s, c, r⟩ := RC.frz h.rc e1
      exact ⟨F', s, ⟨h.1, h.2.1, RC.drop c⟩, r⟩
  | sl i =>
    unfold Z.frz1 at e
    dsimp only at e
    cases e1 : st[i]? with
    | none => rw [e1] at e; cases e
    | some y =>
      rw [e1] at e
      cases y with
      | none => cases e
      | some t =>
        dsimp only at e
        cases e2 : t.toD with
        | none => rw [e2] at e; cases e
        | some d' =>
          rw [e2] at e
          cases e
          obtain ⟨x, ex, c, k⟩ := h.foc2 e1
          have ok : σ[i]? = some (some v) := ok
          rw [ok] at ex
          cases ex
          obtain ⟨F', s, c, r⟩ := RC.frz c e2
          exact ⟨F', s, k _ _ _ c, r⟩
theorem Rep.frzL : ∀ {os : List O} {vs : List V} {ds : List D} {F : Hp} {st : DS}, Rep K J F R (pendL vs os ++ tmp) st σ H → OKL σ vs os → frzL st os = some (ds, st') → ∃ F', Le F F' ∧ Rep K J F' R tmp st' σ H ∧ RpL K F' vs ds
  | [], _, _, F, _, h, hk, e => by
    cases hk
    cases e
    exact ⟨F, Le.refl _, h, .nil⟩
  | o :: os, _, _, F, st, h, hk, e => by
    obtain _ | ⟨ok, oks⟩ := hk
    rename_i v vs
    unfold Z.frzL at e
    cases e1 : Z.frz1 st o with
    | none => rw [e1] at e; cases e
    | some p =>
      obtain ⟨d, st1⟩ := p
      rw [e1] at e
      dsimp only at e
      cases e2 : Z.frzL st1 os with
      | none => rw [e2] at e; cases e
      | some p =>
        obtain ⟨ds, st2⟩ := p
        rw [e2] at e
        cases e
        have h' : Rep K J F R (pend v o ++ (pendL vs os ++ tmp)) st σ H := by
          rw [← List.append_assoc]
          exact h
        obtain ⟨F1, s1, h1, r1⟩ := Rep.frz1 h' ok e1
        obtain ⟨F2, s2, h2, r2⟩ := Rep.frzL h1 oks e2
        exact ⟨F2, s1.trans s2, h2, .cons (Rp.mono s2 _ _ r1) r2⟩
/-! displays -/
def dLst (f : DA) : DE := fun st Q => f st fun os st1 => match frzL st1 os with
  | some (ds, st2) => match Nat.ble ds.length 1000 with
    | true => Q (.tm (.ls ds)) st2
    | false => False
  | none => False
def dTup (f : DA) : DE := fun st Q => f st fun os st1 => match frzL st1 os with
  | some (ds, st2) => match Nat.ble ds.length 1000 with
    | true => Q (.tm (.fr (.tup ds))) st2
    | false => False
  | none => False
theorem len_line (h : Nat.ble ds.length 1000 = true) (r : RpL K F vs ds) : vs.length ≤ sizeLine := by
  rw [r.len]
  refine Nat.le_trans (Nat.le_of_ble_eq_true h) ?_
  rw [sizeLine_eq]
  decide
theorem re_lst {t : TA} {f : DA} (h : RA K Jn t f) : RE K Jn (tLst t) (dLst f) := by
  refine ⟨fun J F R tmp st σ H Q QD hJ hr q k => h.run J F R tmp st σ H _ _ hJ hr q fun os st1 vs F1 H1 s1 h1 ok q1 => ?_⟩
  cases e : Z.frzL st1 os with
  | none => rw [e] at q1; exact q1.elim
  | some p =>
    obtain ⟨ds, st2⟩ := p
    rw [e] at q1
    dsimp only at q1
    cases eb : Nat.ble ds.length 1000 with
    | false => rw [eb] at q1; exact q1.elim
    | true =>
      rw [eb] at q1
      obtain ⟨F2, s2, h2, r2⟩ := Rep.frzL h1 ok e
      exact ⟨len_line eb r2, fun p np => k (.tm (.ls ds)) st2 _ F2 _ (s1.trans s2) (h2.own np r2) True.intro q1⟩
theorem re_tup {t : TA} {f : DA} (h : RA K Jn t f) : RE K Jn (tTup t) (dTup f) := by
  refine ⟨fun J F R tmp st σ H Q QD hJ hr q k => h.run J F R tmp st σ H _ _ hJ hr q fun os st1 vs F1 H1 s1 h1 ok q1 => ?_⟩
  cases e : Z.frzL st1 os with
  | none => rw [e] at q1; exact q1.elim
  | some p =>
    obtain ⟨ds, st2⟩ := p
    rw [e] at q1
    dsimp only at q1
    cases eb : Nat.ble ds.length 1000 with
    | false => rw [eb] at q1; exact q1.elim
    | true =>
      rw [eb] at q1
      obtain ⟨F2, s2, h2, r2⟩ := Rep.frzL h1 ok e
      refine ⟨len_line eb r2, fun p np => ?_⟩
      have s3 := same_updF (o := .tup vs) (h2.freeF np)
      exact k (.tm (.fr (.tup ds))) st2 _ _ _ (s1.trans (s2.trans s3)) ((h2.allocF np).add (.tup (.inl (.inl upd_same)) (RpL.mono s3 _ _ r2))) True.intro q1
/-! ### items -/
theorem RpL.at (r : RpL K F vs ds) {i : Int} (e : atI ds i = some d) : ∃ v, atI vs i = some v ∧ Rp K F v d := by
  unfold atI at e ⊢
  rw [r.len]
  cases h : ixN ds.length i with
  | none => rw [h] at e; cases e
  | some j =>
    rw [h] at e
    exact RpL.getD r e
def dIxL : D → D → (T → Prop) → Prop := fun x y Q => match x, y with
  | .lst l, .int i => IX l i fun d => Q (.fr d)
  | _, _ => False
def dIxT : D → D → (T → Prop) → Prop := fun x y Q => match x, y with
  | .tup l, .int i => IX l i fun d => Q (.fr d)
  | _, _ => False
theorem ro_ixL : RO K (rIxL K) dIxL := by
  refine ⟨fun J F R tmp st σ H x y dx dy Q QD hr hx hy q k => ?_⟩
  cases dx <;> try exact q.elim
  cases dy <;> try exact q.elim
  obtain ⟨a, vs, rfl, h2, h3⟩ := hx
  cases hy
  obtain ⟨d, e, q⟩ := IX.out q
  obtain ⟨v, ev, rv⟩ := h3.at e
  exact ⟨a, vs, _, v, rfl, rfl, .inl (.inl h2), ev, k _ _ F H (Le.refl _) (hr.add rv) q⟩
theorem ro_ixT : RO K (rIxT K) dIxT := by
  refine ⟨fun J F R tmp st σ H x y dx dy Q QD hr hx hy q k => ?_⟩
  cases dx <;> try exact q.elim
  cases dy <;> try exact q.elim
  cases hx with
  | tup h2 h3 =>
    cases hy
    obtain ⟨d, e, q⟩ := IX.out q
    obtain ⟨v, ev, rv⟩ := h3.at e
    exact ⟨_, _, _, v, rfl, rfl, Same.tup hr.fH h2, ev, k _ _ F H (Le.refl _) (hr.add rv) q⟩
end
end Z

namespace Z
open PySem PySem.Spec PyProof.Rows L2 G
structure DEnds where
  nx : DS → Prop
  rt : T → DS → Prop
  bk : DS → Prop := fun _ => False
  ct : DS → Prop := fun _ => False
abbrev DSt := DEnds → DS → Prop
abbrev DG := O → DS → (DS → Prop) → Prop
abbrev DGs := List D → DS → (DS → Prop) → Prop
structure RG (K : PySem.W.Frag) (Jn : List Nat) (g : TG) (f : DG) : Prop where
  run : ∀ (J : List (Nat × V)) (F R : Hp) (tmp : List Cell) (st : DS) (σ : L2.St) (H : Hp) (v : V) (o : O) (QS : L2.St → Hp → Prop) (QD : DS → Prop), J.map (·.1) = Jn → Rep K J F R (pend v o ++ tmp) st σ H → OKO σ v o → f o st QD →
    (∀ st' σ' F' H', Le F F' → Rep K J F' R tmp st' σ' H' → QD st' → QS σ' H') → g v σ H QS
structure RGs (K : PySem.W.Frag) (Jn : List Nat) (g : TGs) (f : DGs) : Prop where
  run : ∀ (J : List (Nat × V)) (F R : Hp) (tmp : List Cell) (st : DS) (σ : L2.St) (H : Hp) (vs : List V) (ds : List D) (QS : L2.St → Hp → Prop) (QD : DS → Prop), J.map (·.1) = Jn → Rep K J F R tmp st σ H → RpL K F vs ds → f ds st QD →
    (∀ st' σ' F' H', Le F F' → Rep K J F' R tmp st' σ' H' → QD st' → QS σ' H') → g vs σ H QS
structure EO (K : PySem.W.Frag) (J : List (Nat × V)) (F R : Hp) (D : Ends) (DD : DEnds) : Prop where
  nx : ∀ F' st' σ' H', Le F F' → Rep K J F' R [] st' σ' H' → DD.nx st' → D.nx σ' H'
  rt : ∀ F' t st' v σ' H', Le F F' → Rep K J F' R [(some v, some t)] st' σ' H' → DD.rt t st' → D.rt v H'
  bk : ∀ F' st' σ' H', Le F F' → Rep K J F' R [] st' σ' H' → DD.bk st' → D.bk σ' H'
  ct : ∀ F' st' σ' H', Le F F' → Rep K J F' R [] st' σ' H' → DD.ct st' → D.ct σ' H'
structure RS (K : PySem.W.Frag) (Jn : List Nat) (t : TS) (f : DSt) : Prop where
  run : ∀ (J : List (Nat × V)) (F R : Hp) (st : DS) (σ : L2.St) (H : Hp) (D : Ends) (DD : DEnds), J.map (·.1) = Jn → Rep K J F R [] st σ H → f DD st → EO K J F R D DD → t D σ H
section
variable {K : PySem.W.Frag} {J : List (Nat × V)} {F F' R M M' H H' : Hp} {v : V} {t t' : T} {as bs : List Addr} {cs c1 c2 tmp : List Cell} {c : Cell} {p : Addr} {d : D} {vs : List V} {ds : List D} {σ : L2.St} {st st' : DS} {o : O} {os : List O} {Jn : List Nat} {i : Nat}
theorem EO.mono {D : Ends} {DD : DEnds} (e : EO K J F R D DD) (s : Le F F') : EO K J F' R D DD :=
  ⟨fun F1 st' σ' H' s1 => e.nx F1 st' σ' H' (s.trans s1), fun F1 t st' v σ' H' s1 => e.rt F1 t st' v σ' H' (s.trans s1), fun F1 st' σ' H' s1 => e.bk F1 st' σ' H' (s.trans s1), fun F1 st' σ' H' s1 => e.ct F1 st' σ' H' (s.trans s1)⟩
/-! ### targets -/
def putO (i : Nat) : DG := fun o st Q => match o with
  | .tm t => Q (st.set i (some t))
  | .sl j => match frz1 st (.sl j) with
    | some (d, st1) => Q (st1.set i (some (.fr d)))
    | none => False
theorem Rep.put (h : Rep K J F R ((some v, some t) :: tmp) st σ H) (hi : ∀ j ∈ J, j.1 ≠ i) : Rep K J F R tmp (st.set i (some t)) (σ.set i (some v)) H := by
  cases e : st[i]? with
  | none =>
    have h1 : st.length ≤ i := List.getElem?_eq_none_iff.mp e
    have h2 := h.1
    rw [List.set_eq_of_length_le h1, List.set_eq_of_length_le (by omega)]
    exact h.drop
  | some y =>
    obtain ⟨x, ex, c, k⟩ := h.foc e
    have k2 : ∀ F' H' x' y', RC K F' R ((x', y') :: (tmp ++ (σ.zip st).eraseIdx i)) H' → Rep K J F' R tmp (st.set i y') (σ.set i x') H' := fun F' H' x' y' c' => by
      have h3 := h.drop.foc e
      obtain ⟨x2, ex2, c2, k3⟩ := h3
      exact k3 F' H' x' y' c' hi
    refine k2 F H _ _ ?_
    have c1 : RC K F R ((x, y) :: (some v, some t) :: (tmp ++ (σ.zip st).eraseIdx i)) H := c
    exact RC.drop c1
theorem notin {hJ : J.map (·.1) = Jn} (h : Jn.contains i = false) : ∀ j ∈ J, j.1 ≠ i := fun j hj e => by
  have : i ∈ Jn := by rw [← hJ, ← e]; exact List.mem_map_of_mem hj
  simp [this] at h
theorem rg_name (i : Nat) (hi : Jn.contains i = false := by rfl) : RG K Jn (gName i) (putO i) := by
  refine ⟨fun J F R tmp st σ H v o QS QD hJ h ok q k => ?_⟩
  cases o with
  | tm t => exact k _ _ F H (Le.refl _) (Rep.put h (notin (hJ := hJ) hi)) q
  | sl j =>
    have q : (match Z.frz1 st (.sl j) with
    | some (d, st1) => QD (st1.set i (some (.fr d)))
    | none => False) := q
    cases e : Z.frz1 st (.sl j) with
    | none => rw [e] at q; exact q.elim
    | some p =>
      obtain ⟨d, st1⟩ := p
      rw [e] at q
      obtain ⟨F1, s1, h1, r1⟩ := Rep.frz1 h ok e
      exact k _ _ F1 H s1 (Rep.put (h1.add r1) (notin (hJ := hJ) hi)) q
def dGNil : DGs := fun ds st Q => match ds with
  | [] => Q st
  | _ => False
def dGCons (g : DG) (f : DGs) : DGs := fun ds st Q => match ds with
  | d :: ds' => g (.tm (.fr d)) st fun st1 => f ds' st1 Q
  | [] => False
theorem rgs_nil : RGs K Jn gNil dGNil := by
  refine ⟨fun J F R tmp st σ H vs ds QS QD hJ h r q k => ?_⟩
  cases ds with
  | cons _ _ => exact q.elim
  | nil =>
    cases r
    exact ⟨rfl, k _ _ F H (Le.refl _) h q⟩
theorem rgs_cons {g : TG} {gs : TGs} {f : DG} {fs : DGs} (h1 : RG K Jn g f) (h2 : RGs K Jn gs fs) : RGs K Jn (gCons g gs) (dGCons f fs) := by
  refine ⟨fun J F R tmp st σ H vs ds QS QD hJ h r q k => ?_⟩
  cases ds with
  | nil => exact q.elim
  | cons d ds =>
    cases r with
    | cons r rs =>
      refine ⟨_, _, rfl, h1.run J F R tmp st σ H _ (.tm (.fr d)) _ _ hJ (h.add r) True.intro q fun st1 σ1 F1 H1 s1 h3 q1 => ?_⟩
      exact h2.run J F1 R tmp st1 σ1 H1 _ ds _ _ hJ h3 (RpL.mono s1 _ _ rs) q1 fun st2 σ2 F2 H2 s2 h4 q2 => k st2 σ2 F2 H2 (s1.trans s2) h4 q2
def dGTup (n : Nat) (f : DGs) : DG := fun o st Q => match res st o with
  | some (.tup ds) => match Nat.beq ds.length n with
    | true => f ds st Q
    | false => False
  | _ => False
def dGLst (n : Nat) (f : DGs) : DG := fun o st Q => match res st o with
  | some (.lst ds) => match Nat.beq ds.length n with
    | true => f ds st Q
    | false => False
  | _ => False
theorem rg_tup {n : Nat} {g : TGs} {f : DGs} (h1 : RGs K Jn g f) : RG K Jn (gTup K n g) (dGTup n f) := by
  refine ⟨fun J F R tmp st σ H v o QS QD hJ h ok q k => ?_⟩
  unfold dGTup at q
  cases e : res st o with
  | none => rw [e] at q; exact q.elim
  | some d =>
    rw [e] at q
    cases d <;> try exact q.elim
    rename_i l
    have r := h.rs ok e
    cases r with
    | tup hs ha =>
      dsimp only at q
      cases eb : Nat.beq l.length n with
      | false => rw [eb] at q; exact q.elim
      | true =>
        rw [eb] at q
        exact ⟨_, _, rfl, Same.tup h.fH hs, by rw [ha.len]; exact Nat.eq_of_beq_eq_true eb, h1.run J F R tmp st σ H _ l _ _ hJ (Rep.dropL h) ha q k⟩
theorem rg_unl {n : Nat} {g : TGs} {f : DGs} (h1 : RGs K Jn g f) : RG K Jn (gUnl K n g) (dGLst n f) := by
  refine ⟨fun J F R tmp st σ H v o QS QD hJ h ok q k => ?_⟩
  unfold dGLst at q
  cases e : res st o with
  | none => rw [e] at q; exact q.elim
  | some d =>
    rw [e] at q
    cases d <;> try exact q.elim
    rename_i l
    obtain ⟨a, ws, rfl, hs, ha⟩ := h.rs ok e
    dsimp only at q
    cases eb : Nat.beq l.length n with
    | false => rw [eb] at q; exact q.elim
    | true =>
      rw [eb] at q
      exact ⟨_, _, rfl, .inl (.inl hs), by rw [ha.len]; exact Nat.eq_of_beq_eq_true eb, h1.run J F R tmp st σ H _ l _ _ hJ (Rep.dropL h) ha q k⟩
/-! ### statements -/
def dNext : DSt := fun D st => D.nx st
def dBreak : DSt := fun D st => D.bk st
def dCont : DSt := fun D st => D.ct st
def dSeq (f g : DSt) : DSt := fun D st => f { D with nx := g D } st
def dAsg (f : DE) (g : DG) : DSt := fun D st => f st fun o st1 => g o st1 D.nx
def dDrop (f : DE) : DSt := fun D st => f st fun _ st1 => D.nx st1
def dRetN : DSt := fun D st => D.rt (.fr .non) st
def retO (pins : List Nat) (o : O) (st : DS) (Q : T → DS → Prop) : Prop := match o with
  | .tm t => Q t st
  | .sl i => match pins.contains i with
    | true => match frz1 st (.sl i) with
      | some (d, st1) => Q (.fr d) st1
      | none => False
    | false => match st[i]? with
      | some (some t) => Q t (st.set i none)
      | _ => False
def dRet (pins : List Nat) (f : DE) : DSt := fun D st => f st fun o st1 => retO pins o st1 D.rt
def dIfS (c : DT) (f g : DSt) : DSt := fun D st => c st fun b st1 => BR b (f D st1) (g D st1)
theorem rs_next : RS K Jn tNext dNext := ⟨fun J F R st σ H D DD hJ h q e => e.nx F st σ H (Le.refl _) h q⟩
theorem rs_break : RS K Jn tBreak dBreak := ⟨fun J F R st σ H D DD hJ h q e => e.bk F st σ H (Le.refl _) h q⟩
theorem rs_cont : RS K Jn tCont dCont := ⟨fun J F R st σ H D DD hJ h q e => e.ct F st σ H (Le.refl _) h q⟩
theorem rs_seq {t u : TS} {f g : DSt} (h1 : RS K Jn t f) (h2 : RS K Jn u g) : RS K Jn (tSeq t u) (dSeq f g) := by
  refine ⟨fun J F R st σ H D DD hJ h q e => h1.run J F R st σ H _ _ hJ h q ⟨fun F1 st1 σ1 H1 s1 h3 q1 => ?_, e.rt, e.bk, e.ct⟩⟩
  exact h2.run J F1 R st1 σ1 H1 D DD hJ h3 q1 (e.mono s1)
theorem rs_asg {t : TE} {g : TG} {f : DE} {fg : DG} (h1 : RE K Jn t f) (h2 : RG K Jn g fg) : RS K Jn (tAsg t g) (dAsg f fg) := by
  refine ⟨fun J F R st σ H D DD hJ h q e => h1.run J F R [] st σ H _ _ hJ h q fun o st1 v F1 H1 s1 h3 ok q1 => ?_⟩
  exact h2.run J F1 R [] st1 σ H1 v o _ _ hJ h3 ok q1 fun st2 σ2 F2 H2 s2 h4 q2 => e.nx F2 st2 σ2 H2 (s1.trans s2) h4 q2
theorem rs_drop {t : TE} {f : DE} (h1 : RE K Jn t f) : RS K Jn (tDrop t) (dDrop f) :=
  ⟨fun J F R st σ H D DD hJ h q e => h1.run J F R [] st σ H _ _ hJ h q fun o st1 v F1 H1 s1 h3 ok q1 => e.nx F1 st1 σ H1 s1 (Rep.dropL h3) q1⟩
theorem rs_retN : RS K Jn tRetN dRetN := ⟨fun J F R st σ H D DD hJ h q e => e.rt F _ st .non σ H (Le.refl _) (h.add .non) q⟩
theorem rs_ret (pins : List Nat) {t : TE} {f : DE} (h1 : RE K Jn t f) : RS K Jn (tRet t) (dRet pins f) := by
  refine ⟨fun J F R st σ H D DD hJ h q e => h1.run J F R [] st σ H _ _ hJ h q fun o st1 v F1 H1 s1 h3 ok q1 => ?_⟩
  cases o with
  | tm t => exact e.rt F1 t st1 v σ H1 s1 h3 q1
  | sl i =>
    unfold retO at q1
    dsimp only at q1
    cases ep : pins.contains i with
    | true =>
      rw [ep] at q1
      dsimp only at q1
      cases ef : Z.frz1 st1 (.sl i) with
      | none => rw [ef] at q1; exact q1.elim
      | some p =>
        obtain ⟨d, st2⟩ := p
        rw [ef] at q1
        obtain ⟨F2, s2, h4, r2⟩ := Rep.frz1 h3 ok ef
        exact e.rt F2 _ st2 v σ H1 (s1.trans s2) (h4.add r2) q1
    | false =>
      rw [ep] at q1
      dsimp only at q1
      cases e1 : st1[i]? with
      | none => rw [e1] at q1; exact q1.elim
      | some y =>
        rw [e1] at q1
        cases y with
        | none => exact q1.elim
        | some t =>
          obtain ⟨x, ex, c, k⟩ := h3.foc2 e1
          have ok : σ[i]? = some (some v) := ok
          rw [ok] at ex
          cases ex
          refine e.rt F1 t _ v σ H1 s1 ?_ q1
          have c2 : RC K F1 R ((some v, none) :: ([(some v, some t)] ++ (σ.zip st1).eraseIdx i)) H1 := RC.un c
          have h5 := Rep.add (d := .non) (v := .non) h3 .non
          obtain ⟨x2, ex2, c3, k3⟩ := (Rep.dropL (c1 := pend v (.sl i)) h3).foc2 e1
          rw [ok] at ex2
          cases ex2
          refine ⟨(k3 F1 H1 none (RC.un (RC.drop c3))).1, h3.2.1, ?_⟩
          have e2 : σ.zip (st1.set i none) = (σ.zip st1).set i (some v, none) := by
            rw [← zip_set, set_self ok]
          rw [e2]
          refine RC.perm c2 ?_
          have hi : i < (σ.zip st1).length := by
            have := (List.getElem?_eq_some_iff.mp e1).1
            have := h3.1
            rw [List.length_zip]
            omega
          exact (List.Perm.swap _ _ _).trans (List.Perm.cons _ (perm_set hi).symm)
theorem rs_ifS {c : TT} {t u : TS} {fc : DT} {f g : DSt} (hc : RT K Jn c fc) (h1 : RS K Jn t f) (h2 : RS K Jn u g) : RS K Jn (tIfS c t u) (dIfS fc f g) := by
  refine ⟨fun J F R st σ H D DD hJ h q e => hc.run J F R [] st σ H _ _ hJ h q fun b st1 F1 H1 s1 h3 q1 => ?_⟩
  have q1 := BR.out q1
  cases b with
  | true => exact h1.run J F1 R st1 σ H1 D DD hJ h3 q1 (e.mono s1)
  | false => exact h2.run J F1 R st1 σ H1 D DD hJ h3 q1 (e.mono s1)
/-- name op= e -/
def dAug (i : Nat) (f : DE) (g : Int → Int → Int) : DSt := fun D st => match st[i]? with
  | some (some (.fr (.int a))) => f st fun o st1 => match res st1 o with
    | some (.int b) => D.nx (st1.set i (some (.fr (.int (g a b)))))
    | _ => False
  | _ => False
theorem rs_aug (i : Nat) {t : TE} {f : DE} {g : Int → Int → Int} (h : RE K Jn t f) (hi : Jn.contains i = false := by rfl) : RS K Jn (tAug i t (ipI g)) (dAug i f g) := by
  refine ⟨fun J F R st σ H D DD hJ hr q e => ?_⟩
  unfold dAug at q
  cases e1 : st[i]? with
  | none => rw [e1] at q; exact q.elim
  | some y =>
    rw [e1] at q
    cases y with
    | none => exact q.elim
    | some t0 =>
      cases t0 <;> try exact q.elim
      rename_i d0
      cases d0 <;> try exact q.elim
      rename_i a
      obtain ⟨x, ex, c, _⟩ := hr.foc2 e1
      obtain ⟨v, rfl⟩ := RC.isv c
      have rv := RC.get c
      cases rv
      refine ⟨_, ex, h.run J F R [] st σ H _ _ hJ hr q fun o st1 w F1 H1 s1 h1 ok q1 => ?_⟩
      cases e2 : res st1 o with
      | none => rw [e2] at q1; exact q1.elim
      | some d =>
        rw [e2] at q1
        cases d <;> try exact q1.elim
        rename_i b
        have rw' := h1.rs ok e2
        cases rw'
        refine ⟨a, b, rfl, rfl, e.nx F1 _ _ H1 s1 (Rep.put (t := .fr (.int (g a b))) ((Rep.dropL h1).add (.int _)) (notin (hJ := hJ) hi)) q1⟩
/-! while -/
@[irreducible] def WHL (c : DT) (b : DSt) (D : DEnds) (st : DS) : Prop := ∃ W : Nat → DS → Prop, (∃ m, W m st) ∧ ∀ m st, W m st → c st fun k st1 => BR k (b { D with nx := fun st' => ∃ m', m' < m ∧ W m' st', ct := fun st' => ∃ m', m' < m ∧ W m' st', bk := D.nx } st1) (D.nx st1)
theorem WHL.out {c : DT} {b : DSt} {D : DEnds} {st : DS} (h : WHL c b D st) : ∃ W : Nat → DS → Prop, (∃ m, W m st) ∧ ∀ m st, W m st → c st fun k st1 => BR k (b { D with nx := fun st' => ∃ m', m' < m ∧ W m' st', ct := fun st' => ∃ m', m' < m ∧ W m' st', bk := D.nx } st1) (D.nx st1) := by
  unfold WHL at h
  exact h
theorem WHL.inv {c : DT} {b : DSt} {D : DEnds} {st : DS} (W : Nat → DS → Prop) (m : Nat) (w0 : W m st) (hs : ∀ m st, W m st → c st fun k st1 => BR k (b { D with nx := fun st' => ∃ m', m' < m ∧ W m' st', ct := fun st' => ∃ m', m' < m ∧ W m' st', bk := D.nx } st1) (D.nx st1)) : WHL c b D st := by
  unfold WHL
  exact ⟨W, ⟨m, w0⟩, hs⟩
def dWhile (c : DT) (b : DSt) : DSt := fun D st => WHL c b D st
theorem rs_while {c : TT} {t : TS} {fc : DT} {f : DSt} (hc : RT K Jn c fc) (h1 : RS K Jn t f) : RS K Jn (tWhile c t) (dWhile fc f) := by
  refine ⟨fun J F R st σ H D DD hJ h q e => ?_⟩
  obtain ⟨W, ⟨m, w0⟩, hs⟩ := WHL.out q
  refine ⟨fun m σ H => ∃ F' st, Le F F' ∧ Rep K J F' R [] st σ H ∧ W m st, ⟨m, F, st, Le.refl _, h, w0⟩, ?_⟩
  rintro m σ H ⟨F', st, s, h, w⟩
  refine hc.run J F' R [] st σ H _ _ hJ h (hs m st w) fun b st1 F1 H1 s1 h3 q1 => ?_
  have q1 := BR.out q1
  cases b with
  | false => exact e.nx F1 st1 σ H1 (s.trans s1) h3 q1
  | true =>
    refine ⟨_, fun σ' H' z => z, ?_⟩
    refine h1.run J F1 R st1 σ H1 _ _ hJ h3 q1 ⟨?_, ?_, ?_, ?_⟩
    · rintro F2 st2 σ2 H2 s2 h4 ⟨m', hm, w'⟩
      exact ⟨m', hm, F2, st2, s.trans (s1.trans s2), h4, w'⟩
    · intro F2 t st2 v σ2 H2 s2 h4 q2
      exact e.rt F2 t st2 v σ2 H2 (s.trans (s1.trans s2)) h4 q2
    · intro F2 st2 σ2 H2 s2 h4 q2
      exact e.nx F2 st2 σ2 H2 (s.trans (s1.trans s2)) h4 q2
    · rintro F2 st2 σ2 H2 s2 h4 ⟨m', hm, w'⟩
      exact ⟨m', hm, F2, st2, s.trans (s1.trans s2), h4, w'⟩
/-! ### what is walked -/
/-- what has to stay while one walks: nothing, or the list of a variable -/
def KPz (ko : Option Nat) (ds : List D) (v : Option (Option V)) (st : DS) (σ : L2.St) : Prop := match ko with
  | none => True
  | some j => st[j]? = some (some (.ls ds)) ∧ σ[j]? = v
/-- an iterator gives the things ds -/
def Wz (K : PySem.W.Frag) (F : Hp) (It : It) (ds : List D) (ko : Option Nat) (v : Option (Option V)) : Prop := ∃ (G : Hp → Prop) (Y : Nat → Hp → V → Hp → Prop), Walk It ds.length G Y ∧ (∀ J F' R tmp st σ H, Le F F' → Rep K J F' R tmp st σ H → KPz ko ds v st σ → G H) ∧
  ∀ i J F' R tmp st σ H x H', i < ds.length → Le F F' → Rep K J F' R tmp st σ H → KPz ko ds v st σ → Y i H x H' → ∃ F2 d, Le F' F2 ∧ ds[i]? = some d ∧ Rep K J F2 R tmp st σ H' ∧ Rp K F2 x d
abbrev DI := DS → (List D → Option Nat → DS → Prop) → Prop
structure RI (K : PySem.W.Frag) (Jn : List Nat) (wi : TI) (f : DI) : Prop where
  run : ∀ (J : List (Nat × V)) (F R : Hp) (tmp : List Cell) (st : DS) (σ : L2.St) (H : Hp) (QR : It → Hp → Prop) (QD : List D → Option Nat → DS → Prop), J.map (·.1) = Jn → Rep K J F R tmp st σ H → f st QD →
    (∀ It ds ko v st' F' H', Le F F' → Rep K J F' R tmp st' σ H' → Wz K F' It ds ko v → KPz ko ds v st' σ → QD ds ko st' → QR It H') → wi σ H QR
@[irreducible] def forN (ds : List D) (g : DG) (b : DSt) (D : DEnds) (st1 : DS) : Prop := ∃ W : Nat → DS → Prop, W 0 st1 ∧ (∀ i d st, i < ds.length → ds[i]? = some d → W i st → g (.tm (.fr d)) st fun st' => b { D with nx := W (i + 1), ct := W (i + 1), bk := D.nx } st') ∧ ∀ st, W ds.length st → D.nx st
@[irreducible] def forK (j : Nat) (ds : List D) (g : DG) (b : DSt) (D : DEnds) (st1 : DS) : Prop := ∃ W : Nat → DS → Prop, W 0 st1 ∧ (∀ i st, W i st → st[j]? = some (some (.ls ds))) ∧ (∀ i d st, i < ds.length → ds[i]? = some d → W i st → g (.tm (.fr d)) st fun st' => b { D with nx := W (i + 1), ct := W (i + 1), bk := D.nx } st') ∧ ∀ st, W ds.length st → D.nx st
theorem forN.out {ds : List D} {g : DG} {b : DSt} {D : DEnds} {st1 : DS} (h : forN ds g b D st1) : ∃ W : Nat → DS → Prop, W 0 st1 ∧ (∀ i d st, i < ds.length → ds[i]? = some d → W i st → g (.tm (.fr d)) st fun st' => b { D with nx := W (i + 1), ct := W (i + 1), bk := D.nx } st') ∧ ∀ st, W ds.length st → D.nx st := by
  unfold forN at h
  exact h
theorem forN.inv {ds : List D} {g : DG} {b : DSt} {D : DEnds} {st1 : DS} (W : Nat → DS → Prop) (w0 : W 0 st1) (hs : ∀ i d st, i < ds.length → ds[i]? = some d → W i st → g (.tm (.fr d)) st fun st' => b { D with nx := W (i + 1), ct := W (i + 1), bk := D.nx } st') (hd : ∀ st, W ds.length st → D.nx st) : forN ds g b D st1 := by
  unfold forN
  exact ⟨W, w0, hs, hd⟩
theorem forK.out {j : Nat} {ds : List D} {g : DG} {b : DSt} {D : DEnds} {st1 : DS} (h : forK j ds g b D st1) : ∃ W : Nat → DS → Prop, W 0 st1 ∧ (∀ i st, W i st → st[j]? = some (some (.ls ds))) ∧ (∀ i d st, i < ds.length → ds[i]? = some d → W i st → g (.tm (.fr d)) st fun st' => b { D with nx := W (i + 1), ct := W (i + 1), bk := D.nx } st') ∧ ∀ st, W ds.length st → D.nx st := by
  unfold forK at h
  exact h
theorem forK.inv {j : Nat} {ds : List D} {g : DG} {b : DSt} {D : DEnds} {st1 : DS} (W : Nat → DS → Prop) (w0 : W 0 st1) (hk : ∀ i st, W i st → st[j]? = some (some (.ls ds))) (hs : ∀ i d st, i < ds.length → ds[i]? = some d → W i st → g (.tm (.fr d)) st fun st' => b { D with nx := W (i + 1), ct := W (i + 1), bk := D.nx } st') (hd : ∀ st, W ds.length st → D.nx st) : forK j ds g b D st1 := by
  unfold forK
  exact ⟨W, w0, hk, hs, hd⟩
def dFor (Jn : List Nat) (it : DI) (g : DG) (b : DSt) : DSt := fun D st => it st fun ds ko st1 => match ko with
  | none => forN ds g b D st1
  | some j => match Jn.contains j with
    | true => forK j ds g b D st1
    | false => False
theorem for_run {wi : It} {g : TG} {t : TS} {fg : DG} {f : DSt} {D : Ends} {DD : DEnds} {ko : Option Nat} {v : Option (Option V)} {H1 : Hp} {st1 : DS} {F1 : Hp} (hg : RG K Jn g fg) (h1 : RS K Jn t f) (hJ : J.map (·.1) = Jn) (h3 : Rep K J F1 R [] st1 σ H1) (wz : Wz K F1 wi ds ko v) (s1 : Le F F1) (e : EO K J F R D DD)
    (W : Nat → DS → Prop) (w0 : W 0 st1) (hk : ∀ i F' st σ H, Le F1 F' → Rep K J F' R [] st σ H → W i st → KPz ko ds v st σ) (hs : ∀ i d st, i < ds.length → ds[i]? = some d → W i st → fg (.tm (.fr d)) st fun st' => f { DD with nx := W (i + 1), ct := W (i + 1), bk := DD.nx } st') (hd : ∀ st, W ds.length st → DD.nx st) :
    ∃ W : Nat → Nat → L2.St → Hp → Prop, (∃ m, W 0 m σ H1) ∧ ∀ i m σ H, W i m σ H →
      (wi.stop i H ∧ D.nx σ H) ∨ (wi.go i H ∧ ∃ N : L2.St → Hp → Prop, (∀ σ' H', N σ' H' → ∃ m', m' < m ∧ W (i + 1) m' σ' H') ∧ ∀ x H', wi.yld i H x H' → g x σ H' fun σ2 H2 => t { D with nx := N, ct := N, bk := D.nx } σ2 H2) := by
  obtain ⟨Gd, Y, wk, hG, hY⟩ := wz
  refine for_it wk (fun i σ H => ∃ F' st, Le F1 F' ∧ Rep K J F' R [] st σ H ∧ W i st) ⟨F1, st1, Le.refl _, h3, w0⟩ ?_ ?_ ?_
  · rintro i σ H hi ⟨F', st, s, h, w⟩
    exact hG J F' R [] st σ H s h (hk i F' st σ H s h w)
  · rintro i x σ H H' hi ⟨F', st, s, h, w⟩ y
    obtain ⟨F2, d, s2, ed, h4, r4⟩ := hY i J F' R [] st σ H x H' hi s h (hk i F' st σ H s h w) y
    refine hg.run J F2 R [] st σ H' x (.tm (.fr d)) _ _ hJ (h4.add r4) True.intro (hs i d st hi ed w) fun st2 σ2 F3 H3 s3 h5 q3 => ?_
    have ss := s.trans (s2.trans s3)
    refine h1.run J F3 R st2 σ2 H3 _ _ hJ h5 q3 ⟨?_, ?_, ?_, ?_⟩
    · intro F4 st4 σ4 H4 s4 h6 q4
      exact ⟨F4, st4, ss.trans s4, h6, q4⟩
    · intro F4 t st4 v σ4 H4 s4 h6 q4
      exact e.rt F4 t st4 v σ4 H4 (s1.trans (ss.trans s4)) h6 q4
    · intro F4 st4 σ4 H4 s4 h6 q4
      exact e.nx F4 st4 σ4 H4 (s1.trans (ss.trans s4)) h6 q4
    · intro F4 st4 σ4 H4 s4 h6 q4
      exact ⟨F4, st4, ss.trans s4, h6, q4⟩
  · rintro σ H ⟨F', st, s, h, w⟩
    exact e.nx F' st σ H (s1.trans s) h (hd st w)
theorem rs_for {wi : TI} {g : TG} {t : TS} {it : DI} {fg : DG} {f : DSt} (h0 : RI K Jn wi it) (hg : RG K Jn g fg) (h1 : RS K Jn t f) : RS K Jn (tFor wi g t) (dFor Jn it fg f) := by
  refine ⟨fun J F R st σ H D DD hJ h q e => h0.run J F R [] st σ H _ _ hJ h q fun It ds ko v st1 F1 H1 s1 h3 wz kp q1 => ?_⟩
  cases ko with
  | none =>
    obtain ⟨W, w0, hs, hd⟩ := forN.out q1
    exact for_run hg h1 hJ h3 wz s1 e W w0 (fun _ _ _ _ _ _ _ _ => True.intro) hs hd
  | some j =>
    dsimp only at q1
    cases ej : Jn.contains j with
    | false => rw [ej] at q1; exact q1.elim
    | true =>
      rw [ej] at q1
      obtain ⟨W, w0, hk, hs, hd⟩ := forK.out q1
      refine for_run hg h1 hJ h3 wz s1 e W w0 (fun i F' st σ' H _ h w => ⟨hk i st w, ?_⟩) hs hd
      have hm : j ∈ J.map (·.1) := by rw [hJ]; simpa using ej
      obtain ⟨p, hp, rfl⟩ := List.mem_map.mp hm
      rw [h.2.1 p hp, ← kp.2, h3.2.1 p hp]
end
end Z

namespace Z
open PySem PySem.Spec PyProof.Rows L2 G
section
variable {K : PySem.W.Frag} {J : List (Nat × V)} {F F' R M M' H H' : Hp} {v : V} {t t' : T} {as bs : List Addr} {cs c1 c2 tmp : List Cell} {c : Cell} {p a b : Addr} {d : D} {vs xs ys : List V} {ds es : List D} {σ σ' : L2.St} {st st' : DS} {o : O} {os : List O} {Jn : List Nat} {i : Nat}
/-! ### walks -/
theorem wz_yat {It : It} {G : Hp → Prop} (r : RpL K F xs ds) (hw : Walk It xs.length G (YAt xs)) (hG : ∀ F' H, Le F F' → Same F' H → G H) : Wz K F It ds none none := by
  refine ⟨G, YAt xs, r.len ▸ hw, fun _ _ _ _ _ _ _ s h _ => hG _ _ s h.fH, ?_⟩
  rintro i J F' R tmp st σ H x H' hi s h _ ⟨rfl, hx⟩
  obtain ⟨d, ed, rd⟩ := r.get hx
  exact ⟨F', d, Le.refl _, ed, h, Rp.mono s _ _ rd⟩
theorem wz_list (hs : SqL K F a xs) (r : RpL K F xs ds) : Wz K F (Itl K a) ds none none := wz_yat r walk_list fun F' H s e => e.seq (s.seq hs)
theorem wz_tup (hs : SqT K F a xs) (r : RpL K F xs ds) : Wz K F (Itt K a) ds none none := wz_yat r walk_tup fun F' H s e => Same.tup e (s.tup hs)
def upto (lo : Int) (n : Nat) : List D := (List.range n).map fun i => D.int (lo + (i : Nat))
theorem wz_range {lo : Int} {n : Nat} : Wz K F (Itr lo n) (upto lo n) none none := by
  have hl : (upto lo n).length = n := by unfold upto; rw [List.length_map, List.length_range]
  refine ⟨fun _ => True, YFn fun i => .int (lo + i), hl.symm ▸ walk_range, fun _ _ _ _ _ _ _ _ _ _ => True.intro, ?_⟩
  rintro i J F' R tmp st σ H x H' hi s h _ ⟨rfl, rfl⟩
  rw [hl] at hi
  refine ⟨F', .int (lo + (i : Nat)), Le.refl _, ?_, h, .int _⟩
  unfold upto
  rw [List.getElem?_map, List.getElem?_range hi]
  rfl
def signs (x : Str) : List D := x.cps.toList.map fun c => D.str ⟨#[c]⟩
theorem wz_str {x : Str} : Wz K F (Its x) (signs x) none none := by
  have hl : (signs x).length = x.cps.size := by unfold signs; rw [List.length_map, Array.length_toList]
  refine ⟨fun _ => True, _, hl.symm ▸ walk_str, fun _ _ _ _ _ _ _ _ _ _ => True.intro, ?_⟩
  rintro i J F' R tmp st σ H y H' hi s h _ ⟨rfl, c, hc, rfl⟩
  refine ⟨F', .str ⟨#[c]⟩, Le.refl _, ?_, h, .str _⟩
  unfold signs
  rw [List.getElem?_map, Array.getElem?_toList, hc]
  rfl
/-- a new pair each turn -/
theorem wz_pair {It : It} {n : Nat} {G : Hp → Prop} {fx fy : Nat → Option V} {ds : List D} (hw : Walk It n G (YPair fx fy)) (hl : ds.length = n) (hG : ∀ F' H, Le F F' → Same F' H → G H)
    (hd : ∀ i x y, fx i = some x → fy i = some y → i < n → ∃ d e, ds[i]? = some (.tup [d, e]) ∧ Rp K F x d ∧ Rp K F y e) : Wz K F It ds none none := by
  refine ⟨G, _, hl.symm ▸ hw, fun _ _ _ _ _ _ _ s h _ => hG _ _ s h.fH, ?_⟩
  rintro i J F' R tmp st σ H v H' hi s h _ ⟨T, x, y, rfl, nT, rfl, ex, ey⟩
  obtain ⟨d, e, ed, rd, re⟩ := hd i x y ex ey (hl ▸ hi)
  have s2 := same_updF (o := .tup [x, y]) (h.freeF nT)
  have s3 := s.trans s2
  exact ⟨_, _, s2, ed, h.allocF nT, .tup (.inl (.inl upd_same)) (.cons (Rp.mono s3 _ _ rd) (.cons (Rp.mono s3 _ _ re) .nil))⟩
def enumD (k : Nat) : List D → List D
  | [] => []
  | d :: ds => .tup [.int (k : Nat), d] :: enumD (k + 1) ds
theorem enumD_len (k : Nat) : ∀ ds : List D, (enumD k ds).length = ds.length
  | [] => rfl
  | _ :: ds => congrArg Nat.succ (enumD_len (k + 1) ds)
theorem enumD_get : ∀ {ds : List D} {i k : Nat} {d : D}, ds[i]? = some d → (enumD k ds)[i]? = some (.tup [.int ((k + i : Nat)), d])
  | _ :: _, 0, k, _, h => by cases h; rfl
  | _ :: ds, i + 1, k, d, h => by
    have := enumD_get (ds := ds) (i := i) (k := k + 1) (d := d) (by simpa using h)
    have e : k + 1 + i = k + (i + 1) := by omega
    rw [e] at this
    exact this
  | [], i, k, d, h => by simp at h
theorem wz_enum (hs : SqL K F a xs) (r : RpL K F xs ds) : Wz K F (Ite K a) (enumD 0 ds) none none := by
  refine wz_pair walk_enum (by rw [enumD_len, r.len]) (fun F' H s e => e.seq (s.seq hs)) fun i x y ex ey hi => ?_
  obtain ⟨d, ed, rd⟩ := r.get ey
  cases ex
  refine ⟨.int (i : Nat), d, ?_, .int _, rd⟩
  have := enumD_get (k := 0) ed
  rwa [Nat.zero_add] at this
def zipD (ds es : List D) : List D := List.zipWith (fun d e => D.tup [d, e]) ds es
theorem wz_zip (hs : SqL K F a xs) (r : RpL K F xs ds) (hs2 : SqL K F b ys) (r2 : RpL K F ys es) : Wz K F (Itz K a b) (zipD ds es) none none := by
  refine wz_pair (walk_zip rfl) (by unfold zipD; rw [List.length_zipWith, r.len, r2.len]) (fun F' H s e => ⟨e.seq (s.seq hs), e.seq (s.seq hs2)⟩) fun i x y ex ey hi => ?_
  obtain ⟨d, ed, rd⟩ := r.get ex
  obtain ⟨e, ee, re⟩ := r2.get ey
  refine ⟨d, e, ?_, rd, re⟩
  unfold zipD
  rw [List.getElem?_zipWith, ed, ee]
def kD : Key → D
  | .inl i => .int i
  | .inr x => .str x
theorem kD_rp (k : Key) : Rp K F (kV k) (kD k) := by
  cases k with
  | inl i => exact .int i
  | inr x => exact .str x
theorem kvs_get {kvs : List (Key × V)} {ks : List Key} {k : Key} (e1 : kvs.map (·.1) = ks) (r : RpL K F (kvs.map (·.2)) ds) (h : kvs[i]? = some (k, v)) : ∃ d, ks[i]? = some k ∧ ds[i]? = some d ∧ Rp K F v d := by
  obtain ⟨d, ed, rd⟩ := r.get (i := i) (v := v) (by rw [List.getElem?_map, h]; rfl)
  refine ⟨d, ?_, ed, rd⟩
  rw [← e1, List.getElem?_map, h]
  rfl
def itemsD (ks : List Key) (ds : List D) : List D := List.zipWith (fun k d => D.tup [kD k, d]) ks ds
theorem wz_items {kvs : List (Key × V)} {ks : List Key} {od : Obj} (h0 : F a = some (.frz od (.dK kvs))) (e1 : kvs.map (·.1) = ks) (r : RpL K F (kvs.map (·.2)) ds) : Wz K F (Iti a od kvs) (itemsD ks ds) none none := by
  have hl : ks.length = ds.length := by rw [← r.len, ← e1, List.length_map, List.length_map]
  refine wz_pair walk_items (by unfold itemsD; rw [List.length_zipWith, hl, Nat.min_self, ← r.len, List.length_map]) (fun F' H s e => ?_) fun i x y ex ey hi => ?_
  · rcases s a _ h0 with h | ⟨⟨_, h⟩, _⟩
    · exact e _ _ h
    · cases h
  · cases e : kvs[i]? with
    | none => rw [e] at ex; cases ex
    | some kv =>
      rw [e] at ex ey
      cases ex
      cases ey
      obtain ⟨d, e2, e3, rd⟩ := kvs_get e1 r e
      refine ⟨kD kv.1, d, ?_, kD_rp _, rd⟩
      unfold itemsD
      rw [List.getElem?_zipWith, e2, e3]
theorem wz_keys {kvs : List (Key × V)} {ks : List Key} {od : Obj} (h0 : F a = some (.frz od (.dK kvs))) (e1 : kvs.map (·.1) = ks) : Wz K F (Itk a od kvs) (ks.map kD) none none := by
  have hl : (ks.map kD).length = kvs.length := by rw [← e1, List.length_map, List.length_map]
  refine ⟨_, _, hl.symm ▸ walk_keys, fun _ F' _ _ _ _ H s e _ => ?_, ?_⟩
  · rcases s a _ h0 with h | ⟨⟨_, h⟩, _⟩
    · exact e.fH _ _ h
    · cases h
  · rintro i J F' R tmp st σ H x H' hi s h _ ⟨rfl, k, w, hk, rfl⟩
    refine ⟨F', kD k, Le.refl _, ?_, h, kD_rp k⟩
    rw [List.getElem?_map, ← e1, List.getElem?_map, hk]
    rfl
theorem wz_values {kvs : List (Key × V)} {od : Obj} (h0 : F a = some (.frz od (.dK kvs))) (r : RpL K F (kvs.map (·.2)) ds) : Wz K F (Itd a od kvs) ds none none := by
  have hl : ds.length = kvs.length := by rw [← r.len, List.length_map]
  refine ⟨_, _, hl.symm ▸ walk_values, fun _ F' _ _ _ _ H s e _ => ?_, ?_⟩
  · rcases s a _ h0 with h | ⟨⟨_, h⟩, _⟩
    · exact e.fH _ _ h
    · cases h
  · rintro i J F' R tmp st σ H x H' hi s h _ ⟨rfl, k, hk⟩
    obtain ⟨d, ed, rd⟩ := r.get (i := i) (v := x) (by rw [List.getElem?_map, hk]; rfl)
    exact ⟨F', d, Le.refl _, ed, h, Rp.mono s _ _ rd⟩
/-! ### what a for is given -/
def iL (f : DE) : DI := fun st Q => f st fun o st1 => match frz1 st1 o with
  | some (.lst ds, st2) => Q ds none st2
  | some (.ro ds, st2) => Q ds none st2
  | _ => False
/-- a list of a variable, walked as it stands -/
def iB (f : DE) : DI := fun st Q => f st fun o st1 => match o with
  | .sl j => match st1[j]? with
    | some (some (.ls ds)) => Q ds (some j) st1
    | _ => False
  | .tm (.fr (.lst ds)) => Q ds none st1
  | .tm (.fr (.ro ds)) => Q ds none st1
  | _ => False
def iT (f : DE) : DI := fun st Q => f st fun o st1 => match frz1 st1 o with
  | some (.tup ds, st2) => Q ds none st2
  | _ => False
def iS (f : DE) : DI := fun st Q => f st fun o st1 => match res st1 o with
  | some (.str x) => Q (signs x) none st1
  | _ => False
theorem ri_list {t : TE} {f : DE} (h : RE K Jn t f) : RI K Jn (iList K t) (iL f) := by
  refine ⟨fun J F R tmp st σ H QR QD hJ hr q k => h.run J F R tmp st σ H _ _ hJ hr q fun o st1 v F1 H1 s1 h1 ok q1 => ?_⟩
  cases e : Z.frz1 st1 o with
  | none => rw [e] at q1; exact q1.elim
  | some p =>
    obtain ⟨d, st2⟩ := p
    rw [e] at q1
    cases d <;> try exact q1.elim
    all_goals
      obtain ⟨F2, s2, h2, r2⟩ := Rep.frz1 h1 ok e
      cases r2
      rename_i hs ha
      first
        | exact ⟨_, rfl, ⟨_, h2.fH.seq (.inl (.inl hs))⟩, k _ _ none none st2 F2 H1 (s1.trans s2) h2 (wz_list (.inl (.inl hs)) ha) True.intro q1⟩
        | exact ⟨_, rfl, ⟨_, h2.fH.seq hs⟩, k _ _ none none st2 F2 H1 (s1.trans s2) h2 (wz_list hs ha) True.intro q1⟩
theorem wz_own {j : Nat} : Wz K F (Itl K a) ds (some j) (some (some (.ref a))) := by
  refine ⟨fun H => ∃ vs, H a = some (.lst vs) ∧ vs.length = ds.length, fun i H x H' => H' = H ∧ ∀ xs, SqL K H a xs → xs[i]? = some x, ⟨?_, ?_, ?_⟩, ?_, ?_⟩
  · rintro i H hi ⟨vs, e, l⟩
    exact ⟨vs, vs[i], .inl (.inl e), List.getElem?_eq_getElem (by omega)⟩
  · rintro H ⟨vs, e, l⟩
    exact ⟨vs, .inl (.inl e), by omega⟩
  · rintro i H x H' hi _ y
    exact y
  · rintro J F' R tmp st σ H s h ⟨k1, k2⟩
    obtain ⟨x, ex, c, _⟩ := h.foc2 k1
    rw [k2] at ex
    cases ex
    obtain ⟨p, vs, ep, hp, rl, _⟩ := RC.mut c
    cases ep
    exact ⟨vs, hp, rl.len⟩
  · rintro i J F' R tmp st σ H x H' hi s h ⟨k1, k2⟩ ⟨rfl, y⟩
    obtain ⟨x', ex, c, _⟩ := h.foc2 k1
    rw [k2] at ex
    cases ex
    obtain ⟨p, vs, ep, hp, rl, _⟩ := RC.mut c
    cases ep
    obtain ⟨d, ed, rd⟩ := rl.get (y vs (.inl (.inl hp)))
    exact ⟨F', d, Le.refl _, ed, h, rd⟩
theorem ri_own {t : TE} {f : DE} (h : RE K Jn t f) : RI K Jn (iList K t) (iB f) := by
  refine ⟨fun J F R tmp st σ H QR QD hJ hr q k => h.run J F R tmp st σ H _ _ hJ hr q fun o st1 v F1 H1 s1 h1 ok q1 => ?_⟩
  cases o with
  | sl j =>
    dsimp only at q1
    cases e1 : st1[j]? with
    | none => rw [e1] at q1; exact q1.elim
    | some y =>
      rw [e1] at q1
      cases y with
      | none => exact q1.elim
      | some t =>
        cases t <;> try exact q1.elim
        rename_i l
        obtain ⟨x, ex, c, _⟩ := h1.foc2 e1
        have ok : σ[j]? = some (some v) := ok
        rw [ok] at ex
        cases ex
        obtain ⟨p, vs, rfl, hp, rl, _⟩ := RC.mut c
        exact ⟨p, rfl, ⟨vs, .inl (.inl hp)⟩, k _ l (some j) (some (some (.ref p))) st1 F1 H1 s1 h1 wz_own ⟨e1, ok⟩ q1⟩
  | tm t =>
    cases t <;> try exact q1.elim
    rename_i d
    cases d <;> try exact q1.elim
    all_goals
      have r2 := RC.get h1.rc
      have h2 := Rep.dropL h1
      cases r2
      rename_i hs ha
      first
        | exact ⟨_, rfl, ⟨_, h2.fH.seq (.inl (.inl hs))⟩, k _ _ none none st1 F1 H1 s1 h2 (wz_list (.inl (.inl hs)) ha) True.intro q1⟩
        | exact ⟨_, rfl, ⟨_, h2.fH.seq hs⟩, k _ _ none none st1 F1 H1 s1 h2 (wz_list hs ha) True.intro q1⟩
theorem ri_tup {t : TE} {f : DE} (h : RE K Jn t f) : RI K Jn (iTup K t) (iT f) := by
  refine ⟨fun J F R tmp st σ H QR QD hJ hr q k => h.run J F R tmp st σ H _ _ hJ hr q fun o st1 v F1 H1 s1 h1 ok q1 => ?_⟩
  cases e : Z.frz1 st1 o with
  | none => rw [e] at q1; exact q1.elim
  | some p =>
    obtain ⟨d, st2⟩ := p
    rw [e] at q1
    cases d <;> try exact q1.elim
    rename_i l
    obtain ⟨F2, s2, h2, r2⟩ := Rep.frz1 h1 ok e
    cases r2 with
    | tup hs ha => exact ⟨_, rfl, ⟨_, Same.tup h2.fH hs⟩, k _ l none none st2 F2 H1 (s1.trans s2) h2 (wz_tup hs ha) True.intro q1⟩
theorem ri_str {t : TE} {f : DE} (h : RE K Jn t f) : RI K Jn (iStr t) (iS f) := by
  refine ⟨fun J F R tmp st σ H QR QD hJ hr q k => h.run J F R tmp st σ H _ _ hJ hr q fun o st1 v F1 H1 s1 h1 ok q1 => ?_⟩
  cases e : res st1 o with
  | none => rw [e] at q1; exact q1.elim
  | some d =>
    rw [e] at q1
    cases d <;> try exact q1.elim
    rename_i x
    have r := h1.rs ok e
    cases r
    exact ⟨x, rfl, k _ _ none none st1 F1 H1 s1 (Rep.dropL h1) wz_str True.intro q1⟩
def argI : List D → Option Int
  | [.int j] => some j
  | _ => none
def argII : List D → Option (Int × Int)
  | [.int i, .int j] => some (i, j)
  | _ => none
def argL : List D → Option (List D)
  | [.lst j] => some j
  | _ => none
def argLL : List D → Option (List D × List D)
  | [.lst i, .lst j] => some (i, j)
  | _ => none
theorem argI_eq {l : List D} {j : Int} (h : argI l = some j) : l = [.int j] := by
  unfold argI at h
  split at h
  · cases h; rfl
  · cases h
theorem argII_eq {l : List D} {j : Int × Int} (h : argII l = some j) : l = [.int j.1, .int j.2] := by
  unfold argII at h
  split at h
  · cases h; rfl
  · cases h
theorem argL_eq {l : List D} {j : List D} (h : argL l = some j) : l = [.lst j] := by
  unfold argL at h
  split at h
  · cases h; rfl
  · cases h
theorem argLL_eq {l : List D} {j : List D × List D} (h : argLL l = some j) : l = [.lst j.1, .lst j.2] := by
  unfold argLL at h
  split at h
  · cases h; rfl
  · cases h
/-- the written arguments' data, as g reads them -/
def dArgs {α : Type} (f : DA) (g : List D → Option α) (P : α → DS → Prop) : DS → Prop := fun st => f st fun os st1 => match frzL st1 os with
  | some (l, st2) => match g l with
    | some j => P j st2
    | none => False
  | none => False
def iR1 (f : DA) : DI := fun st Q => dArgs f argI (fun j st2 => GRD (-(2 ^ 62) ≤ j ∧ j < 2 ^ 62) (Q (upto 0 j.toNat) none st2)) st
def iR2 (f : DA) : DI := fun st Q => dArgs f argII (fun j st2 => GRD (-(2 ^ 62) ≤ j.1 ∧ j.1 < 2 ^ 62 ∧ -(2 ^ 62) ≤ j.2 ∧ j.2 < 2 ^ 62) (Q (upto j.1 (j.2 - j.1).toNat) none st2)) st
def iEn (f : DA) : DI := fun st Q => dArgs f argL (fun j st2 => Q (enumD 0 j) none st2) st
def iZp (f : DA) : DI := fun st Q => dArgs f argLL (fun j st2 => Q (zipD j.1 j.2) none st2) st
theorem frzArgs {t : TA} {f : DA} (h : RA K Jn t f) {α : Type} {g : List D → Option α} (fm : α → List D) (hg : ∀ l j, g l = some j → l = fm j) {P : α → DS → Prop} {QR : List V → Hp → Prop} {J : List (Nat × V)} (hJ : J.map (·.1) = Jn)
    (hr : Rep K J F R tmp st σ H) (q : dArgs f g P st) (k : ∀ j st2 vs F2 H2, Le F F2 → Rep K J F2 R tmp st2 σ H2 → RpL K F2 vs (fm j) → P j st2 → QR vs H2) : t σ H QR := by
  refine h.run J F R tmp st σ H _ _ hJ hr q fun os st1 vs F1 H1 s1 h1 ok q1 => ?_
  cases e : Z.frzL st1 os with
  | none => rw [e] at q1; exact q1.elim
  | some p =>
    obtain ⟨l, st2⟩ := p
    rw [e] at q1
    dsimp only at q1
    obtain ⟨F2, s2, h2, r2⟩ := Rep.frzL h1 ok e
    cases eg : g l with
    | none => rw [eg] at q1; exact q1.elim
    | some j =>
      rw [eg] at q1
      have := hg l j eg
      subst this
      exact k j st2 vs F2 H1 (s1.trans s2) h2 r2 q1
theorem ri_rng1 {t : TA} {f : DA} (h : RA K Jn t f) : RI K Jn (iRng1 t) (iR1 f) := by
  refine ⟨fun J F R tmp st σ H QR QD hJ hr q k => frzArgs h (fun j => [.int j]) (fun _ _ => argI_eq) hJ hr q fun j st2 vs F2 H2 s2 h2 r2 q2 => ?_⟩
  obtain ⟨⟨c1, c2⟩, q1⟩ := GRD.out q2
  obtain _ | ⟨r, rr⟩ := r2
  cases r; cases rr
  exact ⟨j, rfl, c1, c2, k _ _ none none st2 F2 H2 s2 h2 wz_range True.intro q1⟩
theorem ri_rng2 {t : TA} {f : DA} (h : RA K Jn t f) : RI K Jn (iRng2 t) (iR2 f) := by
  refine ⟨fun J F R tmp st σ H QR QD hJ hr q k => frzArgs h (fun j => [.int j.1, .int j.2]) (fun _ _ => argII_eq) hJ hr q fun j st2 vs F2 H2 s2 h2 r2 q2 => ?_⟩
  obtain ⟨c, q1⟩ := GRD.out q2
  obtain _ | ⟨r, rr⟩ := r2
  obtain _ | ⟨r', rr'⟩ := rr
  cases r; cases r'; cases rr'
  exact ⟨_, _, rfl, c, k _ _ none none st2 F2 H2 s2 h2 wz_range True.intro q1⟩
theorem ri_enum {t : TA} {f : DA} (h : RA K Jn t f) : RI K Jn (iEnum K t) (iEn f) := by
  refine ⟨fun J F R tmp st σ H QR QD hJ hr q k => frzArgs h (fun j => [.lst j]) (fun _ _ => argL_eq) hJ hr q fun j st2 vs F2 H2 s2 h2 r2 q2 => ?_⟩
  obtain _ | ⟨r, rr⟩ := r2
  cases rr
  cases r with
  | lst hs ha => exact ⟨_, _, rfl, h2.fH.seq (.inl (.inl hs)), k _ _ none none st2 F2 H2 s2 h2 (wz_enum (.inl (.inl hs)) ha) True.intro q2⟩
theorem ri_zip {t : TA} {f : DA} (h : RA K Jn t f) : RI K Jn (iZip K t) (iZp f) := by
  refine ⟨fun J F R tmp st σ H QR QD hJ hr q k => frzArgs h (fun j => [.lst j.1, .lst j.2]) (fun _ _ => argLL_eq) hJ hr q fun j st2 vs F2 H2 s2 h2 r2 q2 => ?_⟩
  obtain _ | ⟨r, rr⟩ := r2
  obtain _ | ⟨r', rr'⟩ := rr
  cases rr'
  cases r with
  | lst hs ha =>
    cases r' with
    | lst hs' ha' => exact ⟨_, _, _, _, rfl, h2.fH.seq (.inl (.inl hs)), h2.fH.seq (.inl (.inl hs')), k _ _ none none st2 F2 H2 s2 h2 (wz_zip (.inl (.inl hs)) ha (.inl (.inl hs')) ha') True.intro q2⟩
/-! a dict, locked -/
def tFrz2 (te : TE) : TE := fun σ H Q => te σ H fun x H1 => ∃ d, x = .ref d ∧ ((∃ o u, H1 d = some (.frz o u) ∧ Q x H1) ∨ ∃ u, H1 d = some u ∧ Mut (some u) ∧ ∀ od, Q x (upd H1 d (.frz od u)))
theorem pe_frz2 {X : Cx} {e : Expr} {te : TE} (he : PE X e te) : PE X e (tFrz2 te) := by
  refine ⟨fun pins s σ H Q I h => ?_⟩
  refine thn (he.run pins s σ H _ I h) fun v s1 q => ?_
  obtain ⟨x, H1, I1, rx, d, ex, q⟩ := q
  rcases q with ⟨o, u, hd, q⟩ | ⟨u, hd, mu, q⟩
  · exact ⟨x, _, I1, rx, q⟩
  · obtain ⟨od, I2⟩ := I1.lock hd mu
    exact ⟨x, _, I2, rx, q od⟩
/-- what a locked dict gives: its keys and things -/
def DLk (K : PySem.W.Frag) (F : Hp) (x : V) (ks : List Key) (ds : List D) (H : Hp) : Prop := ∃ a od kvs, x = V.ref a ∧ H a = some (.frz od (.dK kvs)) ∧ F a = some (.frz od (.dK kvs)) ∧ kvs.map (·.1) = ks ∧ RpL K F (kvs.map (·.2)) ds
def dLock (o : O) (st : DS) (Q : List Key → List D → DS → Prop) : Prop := match o with
  | .tm (.dk l) => Q (l.map (·.1)) (l.map (·.2)) st
  | .sl i => match st[i]? with
    | some (some (.dk l)) => Q (l.map (·.1)) (l.map (·.2)) (st.set i (some (.fr (.dct (l.map (·.1)) (l.map (·.2))))))
    | _ => False
  | _ => False
theorem lock_run {t : TE} {f : DE} (h : RE K Jn t f) {Q : VK} {QD : List Key → List D → DS → Prop} (hJ : J.map (·.1) = Jn) (hr : Rep K J F R tmp st σ H) (q : f st fun o st1 => dLock o st1 QD)
    (k : ∀ x ks ds st' F' H', Le F F' → Rep K J F' R tmp st' σ H' → DLk K F' x ks ds H' → QD ks ds st' → Q x H') : tFrz2 t σ H Q := by
  refine h.run J F R tmp st σ H _ _ hJ hr q fun o st1 v F1 H1 s1 h1 ok q1 => ?_
  unfold dLock at q1
  cases o with
  | tm t =>
    cases t <;> try exact q1.elim
    rename_i l
    obtain ⟨p, kvs, rfl, hp, e1, kk⟩ := RC.lock h1.rc
    refine ⟨p, rfl, .inr ⟨_, hp, True.intro, fun od => ?_⟩⟩
    obtain ⟨F2, s2, f2, r2, c2⟩ := kk od
    refine k _ _ _ st1 F2 _ (s1.trans s2) ⟨h1.1, h1.2.1, RC.drop c2⟩ ⟨p, od, kvs, rfl, upd_same, f2, e1, r2⟩ q1
  | sl i =>
    dsimp only at q1
    cases e1 : st1[i]? with
    | none => rw [e1] at q1; exact q1.elim
    | some y =>
      rw [e1] at q1
      cases y with
      | none => exact q1.elim
      | some t =>
        cases t <;> try exact q1.elim
        rename_i l
        obtain ⟨x, ex, c, k3⟩ := h1.foc2 e1
        have ok : σ[i]? = some (some v) := ok
        rw [ok] at ex
        cases ex
        obtain ⟨p, kvs, rfl, hp, e1, kk⟩ := RC.lock c
        refine ⟨p, rfl, .inr ⟨_, hp, True.intro, fun od => ?_⟩⟩
        obtain ⟨F2, s2, f2, r2, c2⟩ := kk od
        exact k _ _ _ _ F2 _ (s1.trans s2) (Rep.dropL (c1 := pend (V.ref p) (.sl i)) (k3 _ _ _ c2)) ⟨p, od, kvs, rfl, upd_same, f2, e1, r2⟩ q1
def iDi (f : DE) : DI := fun st Q => f st fun o st1 => dLock o st1 fun ks ds st2 => Q (itemsD ks ds) none st2
def iDk (f : DE) : DI := fun st Q => f st fun o st1 => dLock o st1 fun ks ds st2 => Q (ks.map kD) none st2
def iDv (f : DE) : DI := fun st Q => f st fun o st1 => dLock o st1 fun ks ds st2 => Q ds none st2
theorem ri_items {t : TE} {f : DE} (h : RE K Jn t f) : RI K Jn (iItems (tFrz2 t)) (iDi f) := by
  refine ⟨fun J F R tmp st σ H QR QD hJ hr q k => lock_run h hJ hr q fun x ks ds st' F' H' s' h' lk q' => ?_⟩
  obtain ⟨a, od, kvs, rfl, hH, hF, e1, r⟩ := lk
  exact ⟨a, od, kvs, rfl, hH, k _ _ none none st' F' H' s' h' (wz_items hF e1 r) True.intro q'⟩
theorem ri_keys {t : TE} {f : DE} (h : RE K Jn t f) : RI K Jn (iKeys (tFrz2 t)) (iDk f) := by
  refine ⟨fun J F R tmp st σ H QR QD hJ hr q k => lock_run h hJ hr q fun x ks ds st' F' H' s' h' lk q' => ?_⟩
  obtain ⟨a, od, kvs, rfl, hH, hF, e1, r⟩ := lk
  exact ⟨a, od, rfl, .inl ⟨kvs, hH, k _ _ none none st' F' H' s' h' (wz_keys hF e1) True.intro q'⟩⟩
theorem ri_values {t : TE} {f : DE} (h : RE K Jn t f) : RI K Jn (iVals (tFrz2 t)) (iDv f) := by
  refine ⟨fun J F R tmp st σ H QR QD hJ hr q k => lock_run h hJ hr q fun x ks ds st' F' H' s' h' lk q' => ?_⟩
  obtain ⟨a, od, kvs, rfl, hH, hF, e1, r⟩ := lk
  exact ⟨a, od, kvs, rfl, hH, k _ _ none none st' F' H' s' h' (wz_values hF r) True.intro q'⟩
/-! ### a comprehension's own names -/
def wipeD (st : DS) : List Nat → DS
  | [] => st
  | v :: vs => (wipeD st vs).set v none
def restD (st0 st : DS) : List Nat → DS
  | [] => st
  | v :: vs => (restD st0 st vs).set v ((st0[v]?).getD none)
/-- nothing of one's own stands under these names -/
def plainAt (st : DS) (v : Nat) : Bool := match st[v]? with
  | some (some (.fr _)) => true
  | some none => true
  | _ => false
inductive Lx (K : PySem.W.Frag) (F : Hp) : List Cell → List Cell → Prop
  | nil : Lx K F [] []
  | keep {c : Cell} {cs ds : List Cell} : Lx K F cs ds → Lx K F (c :: cs) (c :: ds)
  | un {c : Cell} {x : Option V} {cs ds : List Cell} : Lx K F cs ds → Lx K F (c :: cs) ((x, none) :: ds)
  | fr {c : Cell} {v : V} {d : D} {cs ds : List Cell} : Rp K F v d → Lx K F cs ds → Lx K F (c :: cs) ((some v, some (.fr d)) :: ds)
theorem Lx.refl : ∀ cs : List Cell, Lx K F cs cs
  | [] => .nil
  | _ :: cs => .keep (Lx.refl cs)
theorem CR.tail {cs : List Cell} {c : Cell} (h : CR K F M (c :: cs) as) : ∃ a1 a2, as = a1 ++ a2 ∧ CR K F M [c] a1 ∧ CR K F M cs a2 := CR.split (c1 := [c]) h
theorem CR.lx {as : List Addr} (l : Lx K F c1 c2) : CR K F M c1 as → ∃ bs, bs.Sublist as ∧ CR K F M c2 bs := by
  induction l generalizing as with
  | nil => intro h; exact ⟨as, .refl _, h⟩
  | keep l ih =>
    intro h
    obtain ⟨a1, a2, rfl, h1, h2⟩ := h.tail
    obtain ⟨bs, s, h3⟩ := ih h2
    exact ⟨a1 ++ bs, List.Sublist.append (.refl _) s, h1.app h3⟩
  | un l ih =>
    intro h
    obtain ⟨a1, a2, rfl, h1, h2⟩ := h.tail
    obtain ⟨bs, s, h3⟩ := ih h2
    exact ⟨bs, s.trans (List.sublist_append_right _ _), .un h3⟩
  | fr r l ih =>
    intro h
    obtain ⟨a1, a2, rfl, h1, h2⟩ := h.tail
    obtain ⟨bs, s, h3⟩ := ih h2
    exact ⟨[] ++ bs, s.trans (List.sublist_append_right _ _), .som ⟨rfl, r⟩ h3⟩
theorem RC.lx (h : RC K F R c1 H) (l : Lx K F c1 c2) : RC K F R c2 H := by
  obtain ⟨M, as, S, C, nd⟩ := h
  obtain ⟨bs, s, C⟩ := CR.lx l C
  exact ⟨M, bs, S, C, nd.sublist s⟩
theorem Lx.of : ∀ {c1 c2 : List Cell}, c1.length = c2.length → (∀ (i : Nat) (c : Cell), c2[i]? = some c → c1[i]? = some c ∨ (∃ x, c = (x, none)) ∨ ∃ v d, c = (some v, some (T.fr d)) ∧ Rp K F v d) → Lx K F c1 c2
  | [], [], _, _ => .nil
  | [], _ :: _, h, _ => by simp at h
  | _ :: _, [], h, _ => by simp at h
  | c :: c1, c' :: c2, hl, h => by
    have t : Lx K F c1 c2 := Lx.of (by simpa using hl) fun i x e => h (i + 1) x (by simpa using e)
    rcases h 0 c' rfl with h | ⟨x, rfl⟩ | ⟨v, d, rfl, r⟩
    · have : c = c' := by simpa using h
      subst this
      exact .keep t
    · exact .un t
    · exact .fr r t
theorem wipeD_length (st : DS) : ∀ vs : List Nat, (wipeD st vs).length = st.length
  | [] => rfl
  | v :: vs => by unfold wipeD; rw [List.length_set, wipeD_length st vs]
theorem restD_length (st0 st : DS) : ∀ vs : List Nat, (restD st0 st vs).length = st.length
  | [] => rfl
  | v :: vs => by unfold restD; rw [List.length_set, restD_length st0 st vs]
theorem wipeD_get {i : Nat} (hi : i < st.length) : ∀ vs : List Nat, (wipeD st vs)[i]? = if i ∈ vs then some none else st[i]?
  | [] => by simp [wipeD]
  | v :: vs => by
    unfold wipeD
    by_cases h : v = i
    · subst h
      rw [List.getElem?_set_self (by rw [wipeD_length]; exact hi)]
      simp
    · rw [List.getElem?_set_ne h, wipeD_get hi vs]
      have : i ≠ v := fun e => h e.symm
      simp [this]
theorem wipe_get {i : Nat} (hi : i < σ.length) : ∀ vs : List Nat, (wipe σ vs)[i]? = if i ∈ vs then some none else σ[i]?
  | [] => by simp [wipe]
  | v :: vs => by
    unfold wipe
    by_cases h : v = i
    · subst h
      rw [List.getElem?_set_self (by rw [wipe_length]; exact hi)]
      simp
    · rw [List.getElem?_set_ne h, wipe_get hi vs]
      have : i ≠ v := fun e => h e.symm
      simp [this]
theorem restD_get {st0 : DS} {i : Nat} (hi : i < st.length) : ∀ vs : List Nat, (restD st0 st vs)[i]? = if i ∈ vs then some ((st0[i]?).getD none) else st[i]?
  | [] => by simp [restD]
  | v :: vs => by
    unfold restD
    by_cases h : v = i
    · subst h
      rw [List.getElem?_set_self (by rw [restD_length]; exact hi)]
      simp
    · rw [List.getElem?_set_ne h, restD_get hi vs]
      have : i ≠ v := fun e => h e.symm
      simp [this]
theorem zip_get {α β : Type} {l : List α} {m : List β} {i : Nat} {c : α × β} (h : (l.zip m)[i]? = some c) : l[i]? = some c.1 ∧ m[i]? = some c.2 := by
  rw [List.getElem?_zip_eq_some] at h
  exact h
theorem get_zip {α β : Type} {l : List α} {m : List β} {i : Nat} {a : α} {b : β} (h1 : l[i]? = some a) (h2 : m[i]? = some b) : (l.zip m)[i]? = some (a, b) := by
  rw [List.getElem?_zip_eq_some]
  exact ⟨h1, h2⟩
theorem lx_app (l : Lx K F c1 c2) : ∀ tmp : List Cell, Lx K F (tmp ++ c1) (tmp ++ c2)
  | [] => l
  | _ :: tmp => .keep (lx_app l tmp)
theorem Rep.wipe (h : Rep K J F R tmp st σ H) {vs : List Nat} (hv : ∀ j ∈ J, j.1 ∉ vs) : Rep K J F R tmp (wipeD st vs) (wipe σ vs) H := by
  obtain ⟨hl, hJ, rc⟩ := h
  refine ⟨by rw [wipeD_length, wipe_length, hl], fun j hj => ?_, RC.lx rc (lx_app (Lx.of ?_ fun i c hc => ?_) tmp)⟩
  · have e := hJ j hj
    rw [wipe_get (List.getElem?_eq_some_iff.mp e).1, if_neg (hv j hj)]
    exact e
  · rw [List.length_zip, List.length_zip, wipeD_length, wipe_length]
  · obtain ⟨e1, e2⟩ := zip_get hc
    have hi : i < σ.length := by
      have := (List.getElem?_eq_some_iff.mp e1).1
      rw [wipe_length] at this
      exact this
    rw [wipe_get hi] at e1
    rw [wipeD_get (by omega)] at e2
    split at e1
    · rename_i hm
      rw [if_pos hm] at e2
      refine .inr (.inl ⟨c.1, ?_⟩)
      obtain ⟨c1, c2⟩ := c
      cases e2
      rfl
    · rename_i hm
      rw [if_neg hm] at e2
      exact .inl (get_zip e1 e2)
theorem Rep.unwipe {st0 : DS} {F0 R0 : Hp} {tmp0 : List Cell} {H0 : Hp} (h0 : Rep K J F0 R0 tmp0 st0 σ H0) {vs : List Nat} (hp : ∀ v ∈ vs, plainAt st0 v = true) (s : Le F0 F) (h : Rep K J F R tmp st σ' H) (e : L2.wipe σ' vs = L2.wipe σ vs) (hv : ∀ j ∈ J, j.1 ∉ vs) :
    Rep K J F R tmp (restD st0 st vs) σ H := by
  have hl : σ'.length = σ.length := by
    have := congrArg List.length e
    rwa [wipe_length, wipe_length] at this
  have same : ∀ i, i < σ.length → i ∉ vs → σ'[i]? = σ[i]? := fun i hi hm => by
    have := congrArg (fun l => l[i]?) e
    rwa [wipe_get (by omega), wipe_get hi, if_neg hm, if_neg hm] at this
  refine ⟨by rw [restD_length, h.1, hl], h0.2.1, RC.lx h.2.2 (lx_app (Lx.of ?_ fun i c hc => ?_) tmp)⟩
  · rw [List.length_zip, List.length_zip, restD_length, hl]
  · obtain ⟨e1, e2⟩ := zip_get hc
    have hi : i < σ.length := (List.getElem?_eq_some_iff.mp e1).1
    rw [restD_get (by rw [h.1, hl]; exact hi)] at e2
    obtain ⟨c1, c2⟩ := c
    split at e2
    · rename_i hm
      have hp := hp i hm
      unfold plainAt at hp
      cases e0 : st0[i]? with
      | none => rw [e0] at hp; cases hp
      | some y =>
        rw [e0] at hp e2
        cases y with
        | none =>
          cases e2
          exact .inr (.inl ⟨_, rfl⟩)
        | some t =>
          cases t <;> try (cases hp; done)
          obtain ⟨x, ex, c, _⟩ := h0.foc2 e0
          obtain ⟨v, rfl⟩ := RC.isv c
          rw [ex] at e1
          cases e1
          cases e2
          exact .inr (.inr ⟨v, _, rfl, Rp.mono s _ _ (RC.get c)⟩)
    · rename_i hm
      rw [← same i hi hm] at e1
      exact .inl (get_zip e1 e2)
/-! ### a comprehension -/
def lcStep (g : DG) (tt : DT) (te : DE) (vs : List Nat) (d : D) (st : DS) (Y : D → DS → Prop) (N : DS → Prop) : Prop := g (.tm (.fr d)) (wipeD st vs) fun st2 => tt st2 fun b st3 => BR b (te st3 fun o st4 => match frz1 st4 o with
    | some (y, st5) => Y y (restD st st5 vs)
    | none => False) (N (restD st st3 vs))
@[irreducible] def LC (ds : List D) (ko : Option Nat) (g : DG) (tt : DT) (te : DE) (vs : List Nat) (st1 : DS) (Q : List D → DS → Prop) : Prop := (ds.length ≤ 16000000 ∧ (∀ j, ko = some j → j ∉ vs)) ∧ ∃ W : Nat → List D → DS → Prop, W 0 [] st1 ∧
  (∀ i acc st, W i acc st → (∀ v ∈ vs, plainAt st v = true) ∧ ∀ j, ko = some j → st[j]? = some (some (.ls ds))) ∧
  (∀ i d acc st, i < ds.length → ds[i]? = some d → W i acc st → lcStep g tt te vs d st (fun y => W (i + 1) (acc ++ [y])) (W (i + 1) acc)) ∧ ∀ acc st, W ds.length acc st → Q acc st
theorem LC.out {ds : List D} {ko : Option Nat} {g : DG} {tt : DT} {te : DE} {vs : List Nat} {st1 : DS} {Q : List D → DS → Prop} (h : LC ds ko g tt te vs st1 Q) : (ds.length ≤ 16000000 ∧ (∀ j, ko = some j → j ∉ vs)) ∧ ∃ W : Nat → List D → DS → Prop, W 0 [] st1 ∧
  (∀ i acc st, W i acc st → (∀ v ∈ vs, plainAt st v = true) ∧ ∀ j, ko = some j → st[j]? = some (some (.ls ds))) ∧
  (∀ i d acc st, i < ds.length → ds[i]? = some d → W i acc st → lcStep g tt te vs d st (fun y => W (i + 1) (acc ++ [y])) (W (i + 1) acc)) ∧ ∀ acc st, W ds.length acc st → Q acc st := by unfold LC at h; exact h
theorem LC.inv {ds : List D} {ko : Option Nat} {g : DG} {tt : DT} {te : DE} {vs : List Nat} {st1 : DS} {Q : List D → DS → Prop} (hl : ds.length ≤ 16000000) (hk : ∀ j, ko = some j → j ∉ vs) (W : Nat → List D → DS → Prop) (w0 : W 0 [] st1)
  (hp : ∀ i acc st, W i acc st → (∀ v ∈ vs, plainAt st v = true) ∧ ∀ j, ko = some j → st[j]? = some (some (.ls ds)))
  (hs : ∀ i d acc st, i < ds.length → ds[i]? = some d → W i acc st → lcStep g tt te vs d st (fun y => W (i + 1) (acc ++ [y])) (W (i + 1) acc)) (hd : ∀ acc st, W ds.length acc st → Q acc st) : LC ds ko g tt te vs st1 Q := by
  unfold LC
  exact ⟨⟨hl, hk⟩, W, w0, hp, hs, hd⟩
/-- each turn leaves the variables as they were -/
theorem LC.pure (f : D → Option D) {ds : List D} {ko : Option Nat} {g : DG} {tt : DT} {te : DE} {vs : List Nat} {st1 : DS} {Q : List D → DS → Prop} (hl : ds.length ≤ 16000000) (hk : ∀ j, ko = some j → j ∉ vs ∧ st1[j]? = some (some (.ls ds))) (hp : ∀ v ∈ vs, plainAt st1 v = true)
  (hs : ∀ d ∈ ds, ∀ Y N, (match f d with
    | some y => Y y st1
    | none => N st1) → lcStep g tt te vs d st1 Y N) (hd : Q (ds.filterMap f) st1) : LC ds ko g tt te vs st1 Q := by
  refine LC.inv hl (fun j e => (hk j e).1) (fun i acc st => st = st1 ∧ acc = (ds.take i).filterMap f) ⟨rfl, rfl⟩ ?_ ?_ ?_
  · rintro i acc st ⟨rfl, _⟩
    exact ⟨hp, fun j e => (hk j e).2⟩
  · rintro i d acc st hi hid ⟨rfl, rfl⟩
    refine hs d (List.mem_of_getElem? hid) _ _ ?_
    have e : (ds.take (i + 1)).filterMap f = (ds.take i).filterMap f ++ (f d).toList := by
      rw [List.take_add_one, hid, List.filterMap_append]
      cases hf : f d <;> simp [hf]
    cases hf : f d with
    | none => exact ⟨rfl, by rw [e, hf]; simp⟩
    | some y => exact ⟨rfl, by rw [e, hf]; rfl⟩
  · rintro acc st ⟨rfl, rfl⟩
    rw [List.take_length]
    exact hd
def dLc (it : DI) (g : DG) (tt : DT) (te : DE) (vs : List Nat) : DE := fun st Q => it st fun ds ko st1 => LC ds ko g tt te vs st1 fun acc st => Q (.tm (.ls acc)) st
/-- a target that stores to these names alone -/
def MonG (g : TG) : Prop := ∀ v σ H (Q Q' : L2.St → Hp → Prop), (∀ σ H, Q σ H → Q' σ H) → g v σ H Q → g v σ H Q'
def MonGs (g : TGs) : Prop := ∀ xs σ H (Q Q' : L2.St → Hp → Prop), (∀ σ H, Q σ H → Q' σ H) → g xs σ H Q → g xs σ H Q'
def Own (g : TG) (vs : List Nat) : Prop := MonG g ∧ ∀ v σ H (Q : L2.St → Hp → Prop), (g v σ H fun σ2 H2 => wipe σ2 vs = wipe σ vs → Q σ2 H2) → g v σ H fun σ2 H2 => wipe σ2 vs = wipe σ vs ∧ Q σ2 H2
def OwnL (g : TGs) (vs : List Nat) : Prop := MonGs g ∧ ∀ xs σ H (Q : L2.St → Hp → Prop), (g xs σ H fun σ2 H2 => wipe σ2 vs = wipe σ vs → Q σ2 H2) → g xs σ H fun σ2 H2 => wipe σ2 vs = wipe σ vs ∧ Q σ2 H2
theorem wipe_set {σ : L2.St} {i : Nat} {x : Option V} : ∀ {vs : List Nat}, i ∈ vs → wipe (σ.set i x) vs = wipe σ vs := fun {vs} h => by
  apply List.ext_getElem?
  intro j
  by_cases hj : j < σ.length
  · rw [wipe_get (by simpa using hj), wipe_get hj]
    split
    · rfl
    · rename_i hm
      rw [List.getElem?_set_ne (fun e => hm (by rw [← e]; exact h))]
  · rw [List.getElem?_eq_none (by rw [wipe_length, List.length_set]; omega), List.getElem?_eq_none (by rw [wipe_length]; omega)]
theorem wipe_wipe {σ : L2.St} {vs : List Nat} : wipe (wipe σ vs) vs = wipe σ vs := by
  apply List.ext_getElem?
  intro j
  by_cases hj : j < σ.length
  · rw [wipe_get (by rw [wipe_length]; exact hj), wipe_get hj]
    split <;> rfl
  · rw [List.getElem?_eq_none (by rw [wipe_length, wipe_length]; omega), List.getElem?_eq_none (by rw [wipe_length]; omega)]
theorem own_name (i : Nat) {vs : List Nat} (h : vs.contains i = true := by rfl) : Own (gName i) vs := ⟨fun v σ H Q Q' h q => h _ _ q, fun v σ H Q q => ⟨wipe_set (by simpa using h), q (wipe_set (by simpa using h))⟩⟩
theorem own_nil {vs : List Nat} : OwnL gNil vs := ⟨fun xs σ H Q Q' h q => ⟨q.1, h _ _ q.2⟩, fun xs σ H Q ⟨h, q⟩ => ⟨h, rfl, q rfl⟩⟩
theorem own_cons {g : TG} {gs : TGs} {vs : List Nat} (h1 : Own g vs) (h2 : OwnL gs vs) : OwnL (gCons g gs) vs :=
  ⟨fun xs σ H Q Q' h ⟨v, r, e, q⟩ => ⟨v, r, e, h1.1 _ _ _ _ _ (fun σ' H' q => h2.1 _ _ _ _ _ h q) q⟩, fun xs σ H Q ⟨v, r, e, q⟩ =>
  ⟨v, r, e, h1.1 _ _ _ _ _ (fun _ _ z => z.2) (h1.2 v σ H (fun σ' H' => gs r σ' H' fun σ2 H2 => wipe σ2 vs = wipe σ vs ∧ Q σ2 H2) (h1.1 _ _ _ _ _ (fun σ' H' q1 e1 => by
    rw [← e1] at q1 ⊢
    exact h2.2 r σ' H' Q q1) q))⟩⟩
theorem own_tup {gs : TGs} {vs : List Nat} {n : Nat} (h : OwnL gs vs) : Own (gTup K n gs) vs :=
  ⟨fun v σ H Q Q' h' ⟨a, xs, e1, e2, e3, q⟩ => ⟨a, xs, e1, e2, e3, h.1 _ _ _ _ _ h' q⟩, fun v σ H Q ⟨a, xs, e1, e2, e3, q⟩ => ⟨a, xs, e1, e2, e3, h.2 xs σ H Q q⟩⟩
theorem re_lc {wi : TI} {g : TG} {tt : TT} {te : TE} {it : DI} {fg : DG} {ft : DT} {fe : DE} {vs : List Nat} (h0 : RI K Jn wi it) (hg : RG K Jn g fg) (ho : Own g vs) (ht : RT K Jn tt ft) (he : RE K Jn te fe) (hv : (vs.any fun v => Jn.contains v) = false := by rfl) :
    RE K Jn (tLc wi g tt te vs) (dLc it fg ft fe vs) := by
  refine ⟨fun J F R tmp st σ H Q QD hJ hr q k => h0.run J F R tmp st σ H _ _ hJ hr q fun It ds ko kv st1 F1 H1 s1 h1 wz kp q1 => ?_⟩
  have hvJ : ∀ j ∈ J, j.1 ∉ vs := fun j hj hm => by
    have : j.1 ∈ Jn := hJ ▸ List.mem_map_of_mem hj
    have h2 : (vs.any fun v => Jn.contains v) = true := List.any_eq_true.mpr ⟨j.1, hm, by simpa using this⟩
    rw [hv] at h2
    cases h2
  obtain ⟨⟨hlen, hko⟩, W, w0, hkeep, hs, hd⟩ := LC.out q1
  obtain ⟨Gd, Y, wk, hG, hY⟩ := wz
  have hkp : ∀ {i acc st}, W i acc st → KPz ko ds kv st σ := fun {i acc st} w => by
    cases ko with
    | none => exact True.intro
    | some j => exact ⟨(hkeep i acc st w).2 j rfl, kp.2⟩
  intro A nA
  refine lc_it wk (Qd := fun H => Q (.ref A) H) (fun i H => ∃ F' acc st, Le F1 F' ∧ Rep K J F' R ((some (.ref A), some (.ls acc)) :: tmp) st σ H ∧ W i acc st ∧ acc.length ≤ i) ⟨F1, [], st1, Le.refl _, h1.own nA .nil, w0, Nat.le_refl _⟩ ?_ ?_ ?_
  · rintro i H hi ⟨F', acc, st, s, h, w, _⟩
    exact hG J F' R _ st σ H s h (hkp w)
  · rintro i x H H' hi ⟨F', acc, st, s, h, w, hl⟩ y
    obtain ⟨F2, d, s2, ed, h4, r4⟩ := hY i J F' R _ st σ H x H' hi s h (hkp w) y
    have hpl := (hkeep i acc st w).1
    have hb := hs i d acc st hi ed w
    have h5 := h4.wipe (vs := vs) hvJ
    have z := ho.2 x (wipe σ vs) H' (fun σ2 H3 => tt σ2 H3 fun b H3 => if b = true then te σ2 H3 fun y H4 => ∃ acc, H4 A = some (.lst acc) ∧ acc.length < sizeLine ∧ (∃ F' acc' st, Le F1 F' ∧ Rep K J F' R ((some (.ref A), some (.ls acc')) :: tmp) st σ (upd H4 A (.lst (acc ++ [y]))) ∧ W (i + 1) acc' st ∧ acc'.length ≤ i + 1)
      else (∃ F' acc' st, Le F1 F' ∧ Rep K J F' R ((some (.ref A), some (.ls acc')) :: tmp) st σ H3 ∧ W (i + 1) acc' st ∧ acc'.length ≤ i + 1)) ?_
    · rw [wipe_wipe] at z
      exact z
    · refine hg.run J F2 R _ _ _ H' x (.tm (.fr d)) _ _ hJ (h5.add r4) True.intro hb fun st2 σ2 F3 H3 s3 h6 q3 e3 => ?_
      rw [wipe_wipe] at e3
      refine ht.run J F3 R _ st2 σ2 H3 _ _ hJ h6 q3 fun b st3 F4 H4 s4 h7 q4 => ?_
      have q4 := BR.out q4
      have ss := s2.trans (s3.trans s4)
      cases b with
      | false => exact ⟨F4, acc, _, s.trans ss, h.unwipe hpl ss h7 e3 hvJ, q4, by omega⟩
      | true =>
        refine he.run J F4 R _ st3 σ2 H4 _ _ hJ h7 q4 fun o st4 w F5 H5 s5 h8 ok q5 => ?_
        cases e : Z.frz1 st4 o with
        | none => rw [e] at q5; exact q5.elim
        | some p =>
          obtain ⟨y, st5⟩ := p
          rw [e] at q5
          obtain ⟨F6, s6, h9, r6⟩ := Rep.frz1 h8 ok e
          have sss := ss.trans (s5.trans s6)
          have h10 := h.unwipe hpl sss h9 e3 hvJ
          obtain ⟨A', vacc, eA, eH, ra, mk⟩ := RC.mut h10.2.2
          cases eA
          have la : vacc.length = acc.length := ra.len
          refine ⟨vacc, eH, by rw [la, sizeLine_eq]; omega, F6, acc ++ [y], _, s.trans sss, ⟨h10.1, h10.2.1, mk _ _ (ra.app (.one r6))⟩, q5, by rw [List.length_append]; simp; omega⟩
  · rintro H ⟨F', acc, st, s, h, w, hl⟩
    exact k (.tm (.ls acc)) st _ F' H (s1.trans s) h True.intro (hd acc st w)
end
end Z

namespace Z
open PySem PySem.Spec PyProof.Rows L2 G
/-! ### calls of one's own defs -/
def cellsT (vs : List V) (ts : List T) : List Cell := List.zipWith (fun v t => ((some v, some t) : Cell)) vs ts
abbrev FZ := List T → (T → List T → Prop) → Prop
def SpZ (K : PySem.W.Frag) (n : Nat) (f : FZ) : Sp := fun vs H Q _ => vs.length = n ∧ ∃ F R ts QD, ts.length = n ∧ RC K F R (cellsT vs ts) H ∧ f ts QD ∧
  ∀ v t ts' F' H', Le F F' → RC K F' R ((some v, some t) :: cellsT vs ts') H' → QD t ts' → Q v H'
structure CALL (f : FZ) (ts : List T) (Q : T → List T → Prop) : Prop where
  in_ ::
  out_ : f ts Q
theorem CALL.mk {f : FZ} {ts : List T} {Q : T → List T → Prop} (h : f ts Q) : CALL f ts Q := ⟨h⟩
theorem CALL.out {f : FZ} {ts : List T} {Q : T → List T → Prop} (h : CALL f ts Q) : f ts Q := h.out_
def take1 (st : DS) : O → Option (T × DS)
  | .tm t => some (t, st)
  | .sl i => match st[i]? with
    | some (some t) => some (t, st.set i none)
    | _ => none
def takeL (st : DS) : List O → Option (List T × DS)
  | [] => some ([], st)
  | o :: os => match take1 st o with
    | some (t, st1) => match takeL st1 os with
      | some (ts, st2) => some (t :: ts, st2)
      | none => none
    | none => none
def putL (st : DS) : List O → List T → DS
  | .sl i :: os, t :: ts => putL (st.set i (some t)) os ts
  | .tm _ :: os, _ :: ts => putL st os ts
  | _, _ => st
section
variable {K : PySem.W.Frag} {J : List (Nat × V)} {F F' R M M' H H' : Hp} {v : V} {t t' : T} {as bs : List Addr} {cs c1 c2 tmp : List Cell} {c : Cell} {p a b : Addr} {d : D} {vs xs ys : List V} {ds es : List D} {σ σ' : L2.St} {st st' : DS} {o : O} {os : List O} {Jn : List Nat} {i : Nat} {ts ts' : List T}
theorem zip_none {v : V} (e1 : st[i]? = some (some t)) (e2 : σ[i]? = some (some v)) : (σ.zip st).Perm ((some v, some t) :: (σ.zip st).eraseIdx i) ∧ (σ.zip (st.set i none)).Perm ((some v, none) :: (σ.zip st).eraseIdx i) := by
  have ez := get_zip e2 e1
  refine ⟨perm_get ez, ?_⟩
  have e3 : σ.zip (st.set i none) = (σ.zip st).set i (some v, none) := by rw [← zip_set, set_self e2]
  rw [e3]
  exact perm_set (List.getElem?_eq_some_iff.mp ez).1
theorem take_rc : ∀ {os : List O} {vs : List V} {ts : List T} {st : DS} {tmp : List Cell}, RC K F R (pendL vs os ++ (tmp ++ σ.zip st)) H → OKL σ vs os → takeL st os = some (ts, st') → RC K F R (cellsT vs ts ++ (tmp ++ σ.zip st')) H ∧ st'.length = st.length ∧ ts.length = vs.length
  | [], _, _, _, _, h, hk, e => by
    cases hk
    cases e
    exact ⟨h, rfl, rfl⟩
  | o :: os, _, _, st, tmp, h, hk, e => by
    obtain _ | ⟨ok, oks⟩ := hk
    rename_i v vs
    unfold takeL at e
    cases e1 : take1 st o with
    | none => rw [e1] at e; cases e
    | some p =>
      obtain ⟨t, st1⟩ := p
      rw [e1] at e
      dsimp only at e
      cases e2 : takeL st1 os with
      | none => rw [e2] at e; cases e
      | some p =>
        obtain ⟨ts, st2⟩ := p
        rw [e2] at e
        cases e
        have key : RC K F R (pendL vs os ++ (((some v, some t) :: tmp) ++ σ.zip st1)) H ∧ st1.length = st.length := by
          cases o with
          | tm t' =>
            obtain ⟨rfl, rfl⟩ : t' = t ∧ st = st1 := by
              have e1 : some (t', st) = some (t, st1) := e1
              simpa using e1
            exact ⟨h.perm List.perm_middle.symm, rfl⟩
          | sl i =>
            unfold take1 at e1
            dsimp only at e1
            cases e3 : st[i]? with
            | none => rw [e3] at e1; cases e1
            | some y =>
              rw [e3] at e1
              cases y with
              | none => cases e1
              | some t' =>
                obtain ⟨rfl, rfl⟩ : t' = t ∧ st.set i none = st1 := by
                  have e1 : some (t', st.set i none) = some (t, st1) := e1
                  simpa using e1
                have ok : σ[i]? = some (some v) := ok
                obtain ⟨p1, p2⟩ := zip_none e3 ok
                refine ⟨?_, by rw [List.length_set]⟩
                have h1 : RC K F R ((some v, some t') :: (pendL vs os ++ (tmp ++ (σ.zip st).eraseIdx i))) H := by
                  refine h.perm ?_
                  show (pendL vs os ++ (tmp ++ σ.zip st)).Perm _
                  refine (List.Perm.append_left _ (List.Perm.append_left _ p1)).trans ?_
                  refine (List.Perm.append_left _ List.perm_middle).trans List.perm_middle
                have h2 : RC K F R ((some v, none) :: ((some v, some t') :: (pendL vs os ++ (tmp ++ (σ.zip st).eraseIdx i)))) H := RC.un h1
                refine h2.perm ?_
                refine (List.Perm.swap _ _ _).trans ?_
                refine List.Perm.trans ?_ List.perm_middle.symm
                refine List.Perm.cons _ ?_
                refine List.perm_middle.symm.trans (List.Perm.append_left _ ?_)
                exact List.perm_middle.symm.trans (List.Perm.append_left _ p2.symm)
        obtain ⟨h3, l1⟩ := key
        obtain ⟨h4, l2, l3⟩ := take_rc h3 oks e2
        refine ⟨h4.perm ?_, l2.trans l1, congrArg Nat.succ l3⟩
        exact List.perm_middle
theorem put_rc : ∀ {os : List O} {vs : List V} {ts : List T} {st : DS} {tmp : List Cell}, RC K F R (cellsT vs ts ++ (tmp ++ σ.zip st)) H → OKL σ vs os → st.length = σ.length → RC K F R (tmp ++ σ.zip (putL st os ts)) H ∧ (putL st os ts).length = st.length
  | [], _, ts, st, tmp, h, hk, hl => by
    cases hk
    have e : putL st [] ts = st := by unfold putL; cases ts <;> rfl
    rw [e]
    have e2 : cellsT [] ts = [] := by unfold cellsT; simp
    rw [e2] at h
    exact ⟨h, rfl⟩
  | o :: os, _, [], st, tmp, h, hk, hl => by
    obtain _ | ⟨ok, oks⟩ := hk
    have e : putL st (o :: os) [] = st := by cases o <;> rfl
    rw [e]
    exact ⟨h, rfl⟩
  | .tm t' :: os, _, t :: ts, st, tmp, h, hk, hl => by
    obtain _ | ⟨ok, oks⟩ := hk
    rename_i v vs
    exact put_rc (ts := ts) (RC.drop h) oks hl
  | .sl i :: os, _, t :: ts, st, tmp, h, hk, hl => by
    obtain _ | ⟨ok, oks⟩ := hk
    rename_i v vs
    have ok : σ[i]? = some (some v) := ok
    have hi : i < (σ.zip st).length := by
      have := (List.getElem?_eq_some_iff.mp ok).1
      rw [List.length_zip]; omega
    have e3 : σ.zip (st.set i (some t)) = (σ.zip st).set i (some v, some t) := by rw [← zip_set, set_self ok]
    have h1 : RC K F R (cellsT vs ts ++ (tmp ++ σ.zip (st.set i (some t)))) H := by
      have h2 : RC K F R ((σ.zip st)[i] :: (some v, some t) :: (cellsT vs ts ++ (tmp ++ (σ.zip st).eraseIdx i))) H := by
        refine RC.perm (show RC K F R ((some v, some t) :: (cellsT vs ts ++ (tmp ++ σ.zip st))) H from h) ?_
        refine List.Perm.trans (List.Perm.cons _ ?_) (List.Perm.swap _ _ _)
        refine (List.Perm.append_left _ (List.Perm.append_left _ (perm_get (List.getElem?_eq_getElem hi)))).trans ?_
        exact (List.Perm.append_left _ List.perm_middle).trans List.perm_middle
      refine RC.perm (RC.drop h2) ?_
      rw [e3]
      refine List.perm_middle.symm.trans (List.Perm.append_left _ ?_)
      exact List.perm_middle.symm.trans (List.Perm.append_left _ (perm_set hi).symm)
    obtain ⟨h3, l⟩ := put_rc h1 oks (by rw [List.length_set]; exact hl)
    exact ⟨h3, by rw [show putL st (.sl i :: os) (t :: ts) = putL (st.set i (some t)) os ts from rfl, l, List.length_set]⟩
/-! one part of what is known goes away and comes back -/
def restr (M : Hp) (as : List Addr) : Hp := fun a => if a ∈ as then M a else none
def uni (A B : Hp) : Hp := fun a => match A a with
  | some o => some o
  | none => B a
theorem restr_in (h : a ∈ as) : restr M as a = M a := if_pos h
theorem restr_out (h : a ∉ as) : restr M as a = none := if_neg h
theorem uni_l {A B : Hp} {o : HO} (h : A a = some o) : uni A B a = some o := by unfold uni; rw [h]
theorem uni_r {A B : Hp} (h : A a = none) : uni A B a = B a := by unfold uni; rw [h]
theorem RC.split (h : RC K F R (c1 ++ c2) H) : ∃ R', RC K F R' c1 H ∧ ∀ F' c1' H', Le F F' → RC K F' R' c1' H' → RC K F' R (c1' ++ c2) H' := by
  obtain ⟨M, as, S, C, nd⟩ := h
  obtain ⟨a1, a2, rfl, h1, h2⟩ := C.split
  obtain ⟨nd1, nd2, dj⟩ := List.nodup_append.mp nd
  have inA : ∀ b ∈ a2, b ∉ a1 := fun b hb hb' => dj b hb' b hb rfl
  refine ⟨uni R (restr M a2), ⟨restr M a1, a1, ⟨S.f, ?_, ?_, ?_, ?_, ?_⟩, h1.frame fun b hb o e => by rw [restr_in hb]; exact e, nd1⟩, ?_⟩
  · intro b o e
    cases e1 : R b with
    | some u => rw [uni_l e1] at e; cases e; exact S.r _ _ e1
    | none =>
      rw [uni_r e1] at e
      by_cases hb : b ∈ a2
      · rw [restr_in hb] at e; exact S.m _ _ e
      · rw [restr_out hb] at e; cases e
  · intro b o e
    by_cases hb : b ∈ a1
    · rw [restr_in hb] at e; exact S.m _ _ e
    · rw [restr_out hb] at e; cases e
  · intro b
    cases e : F b with
    | none => exact .inl rfl
    | some u =>
      refine .inr ?_
      have e1 : R b = none := (S.fr b).resolve_left (by rw [e]; simp)
      have e2 : M b = none := (S.fm b).resolve_left (by rw [e]; simp)
      rw [uni_r e1]
      by_cases hb : b ∈ a2
      · rw [restr_in hb]; exact e2
      · exact restr_out hb
  · intro b
    by_cases hb : b ∈ a1
    · rw [restr_in hb]; exact S.fm b
    · exact .inr (restr_out hb)
  · intro b
    by_cases hb : b ∈ a1
    · rw [restr_in hb]
      rcases S.rm b with h | h
      · left
        rw [uni_r h]
        exact restr_out fun hb2 => inA b hb2 hb
      · exact .inr h
    · exact .inr (restr_out hb)
  · rintro F' c1' H' s ⟨M', as', S', C', nd'⟩
    have out2 : ∀ b ∈ a2, M' b = none := fun b hb => by
      obtain ⟨o, e⟩ := h2.has b hb
      have e1 : uni R (restr M a2) b = some o := by rw [uni_r (S.noR e), restr_in hb]; exact e
      rcases S'.rm b with h | h
      · rw [e1] at h; cases h
      · exact h
    refine ⟨uni M' (restr M a2), as' ++ a2, ⟨S'.f, ?_, ?_, ?_, ?_, ?_⟩, (C'.frame fun b hb o e => uni_l e).app ((h2.monoF s).frame fun b hb o e => by rw [uni_r (out2 b hb), restr_in hb]; exact e), ?_⟩
    · intro b o e
      exact S'.r b o (uni_l e)
    · intro b o e
      cases e1 : M' b with
      | some u => rw [uni_l e1] at e; cases e; exact S'.m _ _ e1
      | none =>
        rw [uni_r e1] at e
        refine S'.r b o ?_
        have e2 : R b = none := by
          by_cases hb : b ∈ a2
          · rw [restr_in hb] at e; exact S.noR e
          · rw [restr_out hb] at e; cases e
        rw [uni_r e2]
        exact e
    · intro b
      rcases S'.fr b with h | h
      · exact .inl h
      · right
        cases e : R b with
        | none => rfl
        | some u => rw [uni_l e] at h; cases h
    · intro b
      rcases S'.fm b with h | h
      · exact .inl h
      · cases e : F' b with
        | none => exact .inl rfl
        | some u =>
          right
          rw [uni_r h]
          have h2 := (S'.fr b).resolve_left (by rw [e]; simp)
          cases e3 : R b with
          | some u => rw [uni_l e3] at h2; cases h2
          | none => rw [uni_r e3] at h2; exact h2
    · intro b
      cases e : R b with
      | none => exact .inl rfl
      | some u =>
        right
        have h1 : M' b = none := by
          rcases S'.rm b with h | h
          · rw [uni_l e] at h; cases h
          · exact h
        rw [uni_r h1]
        by_cases hb : b ∈ a2
        · rw [restr_in hb]
          exact (S.rm b).resolve_left (by rw [e]; simp)
        · exact restr_out hb
    · rw [List.nodup_append]
      refine ⟨nd', nd2, fun b hb c hc e => ?_⟩
      subst e
      obtain ⟨o, e⟩ := C'.has b hb
      rw [out2 b hc] at e
      cases e
theorem cellsT_app {zs : List V} {us : List T} (h : vs.length = ts.length) : cellsT (vs ++ zs) (ts ++ us) = cellsT vs ts ++ cellsT zs us := by
  unfold cellsT
  rw [List.zipWith_append h]
theorem cells_fr : ∀ {zs : List V} {ds : List D} {cs : List Cell}, RpL K F zs ds → RC K F R cs H → RC K F R (cs ++ cellsT zs (ds.map T.fr)) H
  | _, _, cs, .nil, h => by
    have : cs ++ cellsT [] (List.map T.fr []) = cs := by simp [cellsT]
    rw [this]; exact h
  | _, _, cs, .cons (v := v) (d := d) (vs := vs) (ds := ds) r rs, h => by
    have h1 := cells_fr rs (h.add r)
    refine h1.perm ?_
    exact (List.perm_middle (l₁ := cs) (l₂ := cellsT vs (List.map T.fr ds)) (a := (some v, some (.fr d)))).symm
def dCall (n : Nat) (f : FZ) (dts : List D) (fa : DA) : DE := fun st Q => fa st fun os st1 => match takeL st1 os with
  | some (ts, st2) => match Nat.beq (os.length + dts.length) n with
    | true => CALL f (ts ++ dts.map T.fr) fun t ts' => Q (.tm t) (putL st2 os ts')
    | false => False
  | none => False
theorem cellsT_take : ∀ {vs zs : List V} {ts : List T}, ∃ us, (cellsT (vs ++ zs) ts).Perm (cellsT vs ts ++ us)
  | [], zs, ts => ⟨cellsT zs ts, by simp [cellsT]⟩
  | v :: vs, zs, [] => ⟨[], by simp [cellsT]⟩
  | v :: vs, zs, t :: ts => by
    obtain ⟨us, h⟩ := cellsT_take (vs := vs) (zs := zs) (ts := ts)
    exact ⟨us, .cons _ h⟩
theorem RC.dropR (h : RC K F R (c1 ++ c2) H) : RC K F R c1 H := by
  induction c2 generalizing c1 with
  | nil => rwa [List.append_nil] at h
  | cons c c2 ih =>
    have h1 : RC K F R (c :: (c1 ++ c2)) H := h.perm List.perm_middle
    exact ih (RC.drop h1)
theorem takeL_len : ∀ {os : List O} {st st2 : DS} {ts : List T}, takeL st os = some (ts, st2) → ts.length = os.length
  | [], st, st2, ts, e => by cases e; rfl
  | o :: os, st, st2, ts, e => by
    unfold takeL at e
    split at e
    · split at e
      · rename_i ts' st' e2
        cases e
        rw [List.length_cons, List.length_cons, takeL_len e2]
      · cases e
    · cases e
theorem call_run {n : Nat} {f : FZ} {sp : Sp} {dvs : List V} {dts : List D} {E : XK} {Q : VK} {QD : O → DS → Prop} {st1 : DS} (hsp : sp = SpZ K n f) (hd : ∀ F, RpL K F dvs dts) (h1 : Rep K J F R (pendL vs os ++ tmp) st1 σ H) (ok : OKL σ vs os)
    (q1 : match takeL st1 os with
  | some (ts, st2) => match Nat.beq (os.length + dts.length) n with
    | true => CALL f (ts ++ dts.map T.fr) fun t ts' => QD (.tm t) (putL st2 os ts')
    | false => False
  | none => False)
    (k : ∀ o st' v F' H', Le F F' → Rep K J F' R (pend v o ++ tmp) st' σ H' → OKO σ v o → QD o st' → Q v H') : sp (vs ++ dvs) H Q E := by
  subst hsp
  cases e : takeL st1 os with
  | none => rw [e] at q1; exact q1.elim
  | some p =>
    obtain ⟨ts, st2⟩ := p
    rw [e] at q1
    dsimp only at q1
    cases eb : Nat.beq (os.length + dts.length) n with
    | false => rw [eb] at q1; exact q1.elim
    | true =>
      rw [eb] at q1
      have hn := Nat.eq_of_beq_eq_true eb
      rw [← takeL_len e] at hn
      obtain ⟨c, l1, l2⟩ := take_rc (tmp := tmp) (by rw [← List.append_assoc]; exact h1.rc) ok e
      obtain ⟨R', ca, back⟩ := RC.split c
      have q1 := CALL.out q1
      have ld := (hd F).len
      refine ⟨by rw [List.length_append]; omega, F, R', ts ++ dts.map T.fr, _, by rw [List.length_append, List.length_map]; omega, ?_, q1, fun v t ts' F' H' s c' q => ?_⟩
      · rw [cellsT_app l2.symm]
        exact cells_fr (hd F) ca
      · obtain ⟨us, pm⟩ := cellsT_take (vs := vs) (zs := dvs) (ts := ts')
        have c2 : RC K F' R' ((some v, some t) :: cellsT vs ts') H' := by
          have c3 : RC K F' R' (((some v, some t) :: cellsT vs ts') ++ us) H' := c'.perm (.cons _ pm)
          exact c3.dropR
        have c3 := back F' _ H' s c2
        have c4 : RC K F' R (cellsT vs ts' ++ (((some v, some t) :: tmp) ++ σ.zip st2)) H' := c3.perm (by
          show ((some v, some t) :: (cellsT vs ts' ++ (tmp ++ σ.zip st2))).Perm _
          exact List.perm_middle.symm)
        obtain ⟨c5, l5⟩ := put_rc c4 ok (by rw [l1]; exact h1.1)
        exact k (.tm t) _ v F' H' s ⟨by rw [l5, l1]; exact h1.1, h1.2.1, c5⟩ True.intro q
theorem re_call {n : Nat} {f : FZ} {sp : Sp} {dvs : List V} {E : XK} {ta : TA} {fa : DA} (dts : List D) (hsp : sp = SpZ K n f) (hd : ∀ F, RpL K F dvs dts) (ha : RA K Jn ta fa) : RE K Jn (tCall sp dvs E ta) (dCall n f dts fa) :=
  ⟨fun J F R tmp st σ H Q QD hJ h q k => ha.run J F R tmp st σ H _ _ hJ h q fun os st1 vs F1 H1 s1 h1 ok q1 => call_run hsp hd h1 ok q1 fun o st' v F' H' s => k o st' v F' H' (s1.trans s)⟩
/-! ### a def's body -/
def outT (Jn : List Nat) : Nat → List T → DS → Option (List T)
  | _, [], _ => some []
  | i, t :: ts, st => match Jn.contains i with
    | true => match st[i]? with
      | some (some t') => match outT Jn (i + 1) ts st with
        | some ts' => some (t' :: ts')
        | none => none
      | _ => none
    | false => match t with
      | .fr d => match outT Jn (i + 1) ts st with
        | some ts' => some (.fr d :: ts')
        | none => none
      | _ => none
def endT (Jn : List Nat) (ts : List T) (Q : T → List T → Prop) (t : T) (st : DS) : Prop := match outT Jn 0 ts st with
  | some ts' => Q t ts'
  | none => False
def mBody (Jn : List Nat) (k : Nat) (b : DSt) : FZ := fun ts Q => b { nx := fun st => endT Jn ts Q (.fr .non) st, rt := fun t st => endT Jn ts Q t st } (ts.map some ++ List.replicate k none)
theorem out_rc {Jn : List Nat} : ∀ {ts : List T} {i : Nat} {vs : List V} {ts' : List T} {X : List Cell}, outT Jn i ts st = some ts' → ts.length = vs.length → (∀ (j : Nat) (v : V), vs[j]? = some v → Jn.contains (i + j) = true → σ[i + j]? = some (some v)) →
    (∀ (j : Nat) (v : V) (d : D), vs[j]? = some v → ts[j]? = some (T.fr d) → Rp K F v d) → RC K F R (X ++ (σ.zip st).drop i) H → RC K F R (X ++ cellsT vs ts') H
  | [], i, vs, _, X, e, hl, hJ, hf, h => by
    cases e
    have : vs = [] := List.eq_nil_of_length_eq_zero hl.symm
    subst this
    have := h.dropR
    rwa [show X ++ cellsT [] [] = X by simp [cellsT]]
  | t :: ts, i, [], _, X, e, hl, hJ, hf, h => by simp at hl
  | t :: ts, i, v :: vs, ts', X, e, hl, hJ, hf, h => by
    have rest : ∀ {us : List T} {X : List Cell}, outT Jn (i + 1) ts st = some us → RC K F R (X ++ (σ.zip st).drop (i + 1)) H → RC K F R (X ++ cellsT vs us) H := fun {us X} eu h =>
      out_rc eu (by simpa using hl) (fun j w hj hc => by
        have e : i + 1 + j = i + (j + 1) := by omega
        rw [e] at hc ⊢
        exact hJ (j + 1) w (by simpa using hj) hc) (fun j w d hj ht => hf (j + 1) w d (by simpa using hj) (by simpa using ht)) h
    unfold outT at e
    cases eb : Jn.contains i with
    | true =>
      rw [eb] at e
      dsimp only at e
      have h0 := hJ 0 v rfl (by rw [Nat.add_zero]; exact eb)
      rw [Nat.add_zero] at h0
      cases e1 : st[i]? with
      | none => rw [e1] at e; cases e
      | some y =>
        rw [e1] at e
        cases y with
        | none => cases e
        | some t' =>
          dsimp only at e
          cases eo : outT Jn (i + 1) ts st with
          | none => rw [eo] at e; cases e
          | some us =>
            rw [eo] at e
            cases e
            have ez := get_zip h0 e1
            have ed : (σ.zip st).drop i = (some v, some t') :: (σ.zip st).drop (i + 1) := by
              obtain ⟨hi, e⟩ := List.getElem?_eq_some_iff.mp ez
              rw [List.drop_eq_getElem_cons hi, e]
            rw [ed] at h
            have h2 : RC K F R ((X ++ [(some v, some t')]) ++ (σ.zip st).drop (i + 1)) H := by
              rw [List.append_assoc]
              exact h
            have h3 := rest eo h2
            rw [List.append_assoc] at h3
            exact h3
    | false =>
      rw [eb] at e
      dsimp only at e
      cases t with
      | fr d =>
        dsimp only at e
        cases eo : outT Jn (i + 1) ts st with
        | none => rw [eo] at e; cases e
        | some us =>
          rw [eo] at e
          cases e
          have h2 : RC K F R (X ++ (σ.zip st).drop (i + 1)) H := by
            by_cases hi : i < (σ.zip st).length
            · rw [List.drop_eq_getElem_cons hi] at h
              exact RC.drop (h.perm List.perm_middle)
            · rw [List.drop_eq_nil_of_le (by omega)] at h ⊢
              exact h
          have h3 := (rest eo h2).add (hf 0 v d rfl rfl)
          exact h3.perm List.perm_middle.symm
      | _ => cases e
theorem cells_get {j : Nat} {v : V} {d : D} (h : RC K F R (cellsT vs ts) H) (e1 : vs[j]? = some v) (e2 : ts[j]? = some (T.fr d)) : Rp K F v d := by
  have e : (cellsT vs ts)[j]? = some ((some v, some (T.fr d)) : Cell) := by
    unfold cellsT
    rw [List.getElem?_zipWith, e1, e2]
  exact RC.get (h.perm (perm_get e))
theorem body_run {Jn : List Nat} {k n : Nat} {tt : TS} {b : DSt} {N : List Str} {Q : VK} {E : XK} (h : RS K Jn tt b) (hN : N.length = n + k) (hJn : Jn.all (fun i => decide (i < n)) = true) (q : SpZ K n (mBody Jn k b) vs H Q E) :
    tt { nx := fun _ H' => Q .non H', rt := Q } (L2.start N vs) H := by
  obtain ⟨hl, F, R, ts, QD, hlt, rc, q, kk⟩ := q
  have es : L2.start N vs = vs.map some ++ List.replicate k none := by
    unfold L2.start
    rw [hN, hl, Nat.add_sub_cancel_left]
  rw [es]
  have zipS : (vs.map some).zip (ts.map some) = cellsT vs ts := by
    unfold cellsT
    rw [List.zip_map, List.zip_eq_zipWith, List.map_zipWith]
    rfl
  have fin : ∀ {F' H' : Hp} {st' : DS} {σ' : L2.St} {tmp : List Cell} {t : T} {ts' : List T} {v : V}, Le F F' → Rep K (Jn.map fun i => (i, vs[i]?.getD .non)) F' R ((some v, some t) :: tmp) st' σ' H' → outT Jn 0 ts st' = some ts' →
      RC K F' R ((some v, some t) :: cellsT vs ts') H' := fun {F' H' st' σ' tmp t ts' v} s h eo => by
    have c1 : RC K F' R ([(some v, some t)] ++ (σ'.zip st').drop 0) H' := by
      have : RC K F' R (([(some v, some t)] ++ σ'.zip st') ++ tmp) H' := h.rc.perm (by
        show ((some v, some t) :: (tmp ++ σ'.zip st')).Perm ((some v, some t) :: (σ'.zip st' ++ tmp))
        exact .cons _ List.perm_append_comm)
      exact this.dropR
    refine out_rc (X := [(some v, some t)]) eo (by omega) (fun j w hj hc => ?_) (fun j w d hj ht => Rp.mono s _ _ (cells_get rc hj ht)) c1
    rw [Nat.zero_add] at hc ⊢
    have hjn : j < n := by rw [← hl]; exact (List.getElem?_eq_some_iff.mp hj).1
    have := h.2.1 (j, vs[j]?.getD .non) (List.mem_map.mpr ⟨j, by simpa using hc, rfl⟩)
    rw [this, hj]
    rfl
  have zipR : (List.replicate k (none : Option V)).zip (List.replicate k (none : Option T)) = List.replicate k (none, none) := by
    rw [List.zip_eq_zipWith, List.zipWith_replicate, Nat.min_self]
  have unR : ∀ (m : Nat) {cs : List Cell} {H : Hp}, RC K F R cs H → RC K F R (cs ++ List.replicate m (none, none)) H := fun m => by
    induction m with
    | zero => intro cs H h; simpa using h
    | succ m ih =>
      intro cs H h
      rw [List.replicate_succ]
      exact RC.perm (RC.un (ih h)) List.perm_middle.symm
  have r0 : Rep K (Jn.map fun i => (i, vs[i]?.getD .non)) F R [] (ts.map some ++ List.replicate k none) (vs.map some ++ List.replicate k none) H := by
    refine ⟨by simp [hlt, hl], fun j hj => ?_, ?_⟩
    · obtain ⟨i, hi, rfl⟩ := List.mem_map.mp hj
      have := List.all_eq_true.mp hJn i hi
      have hin : i < n := by simpa using this
      rw [List.getElem?_append_left (by simp; omega), List.getElem?_map, List.getElem?_eq_getElem (by omega)]
      rfl
    · rw [List.nil_append, List.zip_append (by simp [hlt, hl]), zipS, zipR]
      exact unR k rc
  refine h.run _ F R _ _ H _ _ (by rw [List.map_map]; exact List.map_id _) r0 q ⟨?_, ?_, fun _ _ _ _ _ _ z => z.elim, fun _ _ _ _ _ _ z => z.elim⟩
  · intro F' st' σ' H' s h q
    have q : endT Jn ts QD (.fr .non) st' := q
    show Q .non H'
    unfold endT at q
    cases eo : outT Jn 0 ts st' with
    | none => rw [eo] at q; exact q.elim
    | some ts' =>
      rw [eo] at q
      exact kk .non _ ts' F' H' s (fin s (h.add .non) eo) q
  · intro F' t st' v σ' H' s h q
    have q : endT Jn ts QD t st' := q
    show Q v H'
    unfold endT at q
    cases eo : outT Jn 0 ts st' with
    | none => rw [eo] at q; exact q.elim
    | some ts' =>
      rw [eo] at q
      exact kk v t ts' F' H' s (fin s h eo) q
end
end Z

namespace Z
open PySem PySem.Spec PyProof.Rows L2 G
/-! ### built-in calls -/
def resL (st : DS) : List O → Option (List D)
  | [] => some []
  | o :: os => match res st o with
    | some d => match resL st os with
      | some ds => some (d :: ds)
      | none => none
    | none => none
inductive RsL (K : PySem.W.Frag) (F H : Hp) : List V → List D → Prop
  | nil : RsL K F H [] []
  | cons {v : V} {d : D} {vs : List V} {ds : List D} : Rs K F H v d → RsL K F H vs ds → RsL K F H (v :: vs) (d :: ds)
structure RB (K : PySem.W.Frag) (r : List V → Hp → VK → Prop) (f : List D → (T → Prop) → Prop) : Prop where
  run : ∀ (J : List (Nat × V)) (F R : Hp) (tmp : List Cell) (st : DS) (σ : L2.St) (H : Hp) (vs : List V) (ds : List D) (Q : VK) (QD : T → Prop), Rep K J F R tmp st σ H → RsL K F H vs ds → f ds QD →
    (∀ v t F' H', Le F F' → Rep K J F' R ((some v, some t) :: tmp) st σ H' → QD t → Q v H') → r vs H Q
def dCB (g : List D → (T → Prop) → Prop) (fa : DA) : DE := fun st Q => fa st fun os st1 => match resL st1 os with
  | some ds => g ds fun t => Q (.tm t) st1
  | none => False
section
variable {K : PySem.W.Frag} {J : List (Nat × V)} {F F' R M M' H H' : Hp} {v : V} {t t' : T} {as bs : List Addr} {cs c1 c2 tmp : List Cell} {c : Cell} {p a b : Addr} {d : D} {vs xs ys : List V} {ds es : List D} {σ σ' : L2.St} {st st' : DS} {o : O} {os : List O} {Jn : List Nat} {i : Nat} {ts ts' : List T}
theorem Rep.rsL : ∀ {os : List O} {vs : List V} {ds : List D} {tmp : List Cell}, Rep K J F R (pendL vs os ++ tmp) st σ H → OKL σ vs os → resL st os = some ds → RsL K F H vs ds
  | [], _, _, _, h, hk, e => by
    cases hk
    cases e
    exact .nil
  | o :: os, _, _, tmp, h, hk, e => by
    obtain _ | ⟨ok, oks⟩ := hk
    rename_i v vs
    unfold resL at e
    cases e1 : res st o with
    | none => rw [e1] at e; cases e
    | some d =>
      rw [e1] at e
      dsimp only at e
      cases e2 : resL st os with
      | none => rw [e2] at e; cases e
      | some ds =>
        rw [e2] at e
        cases e
        have h' : Rep K J F R (pend v o ++ (pendL vs os ++ tmp)) st σ H := by
          rw [← List.append_assoc]
          exact h
        exact .cons (h'.rs ok e1) (Rep.rsL (Rep.dropL h') oks e2)
theorem re_CB {r : List V → Hp → VK → Prop} {g : List D → (T → Prop) → Prop} {ta : TA} {fa : DA} (hr : RB K r g) (ha : RA K Jn ta fa) : RE K Jn (tCB r ta) (dCB g fa) := by
  refine ⟨fun J F R tmp st σ H Q QD hJ h q k => ha.run J F R tmp st σ H _ _ hJ h q fun os st1 vs F1 H1 s1 h1 ok q1 => ?_⟩
  cases e : resL st1 os with
  | none => rw [e] at q1; exact q1.elim
  | some ds =>
    rw [e] at q1
    exact hr.run J F1 R _ st1 σ H1 vs ds _ _ h1 (Rep.rsL h1 ok e) q1 fun v t F2 H2 s2 h2 q2 => k (.tm t) st1 v F2 H2 (s1.trans s2) (Rep.keep1 (c1 := pendL vs os) h2) True.intro q2
/-! len -/
def bLen : List D → (T → Prop) → Prop := fun ds Q => match ds with
  | [.lst l] => Q (.fr (.int l.length))
  | [.tup l] => Q (.fr (.int l.length))
  | [.ro l] => Q (.fr (.int l.length))
  | _ => False
theorem rb_len : RB K (G.rLen K) bLen := by
  refine ⟨fun J F R tmp st σ H vs ds Q QD h r q k => ?_⟩
  unfold bLen at q
  split at q
  · rename_i l
    obtain _ | ⟨r, rr⟩ := r
    cases rr
    obtain ⟨a, ws, rfl, e, rl⟩ := r
    exact ⟨a, ws, rfl, .inl (.inl (.inl e)), by rw [rl.len]; exact k _ _ F H (Le.refl _) (h.add (.int _)) q⟩
  · rename_i l
    obtain _ | ⟨r, rr⟩ := r
    cases rr
    cases r with
    | tup hs rl => exact ⟨_, _, rfl, .inr (Same.tup h.fH hs), by rw [rl.len]; exact k _ _ F H (Le.refl _) (h.add (.int _)) q⟩
  · rename_i l
    obtain _ | ⟨r, rr⟩ := r
    cases rr
    cases r with
    | ro hs rl => exact ⟨_, _, rfl, .inl (h.fH.seq hs), by rw [rl.len]; exact k _ _ F H (Le.refl _) (h.add (.int _)) q⟩
  · exact q.elim
abbrev rLenS : List V → Hp → VK → Prop := fun xs H Q => ∃ z, xs = [.str z] ∧ z.length ≤ sizeLine ∧ Q (.int z.length) H
def bLenS : List D → (T → Prop) → Prop := fun ds Q => match ds with
  | [.str x] => GRD (x.length ≤ 16777216) (Q (.fr (.int x.length)))
  | _ => False
theorem rb_lenS : RB K rLenS bLenS := by
  refine ⟨fun J F R tmp st σ H vs ds Q QD h r q k => ?_⟩
  unfold bLenS at q
  split at q
  · obtain _ | ⟨r, rr⟩ := r
    cases rr; cases r
    obtain ⟨c, q⟩ := GRD.out q
    exact ⟨_, rfl, by rw [sizeLine_eq]; exact c, k _ _ F H (Le.refl _) (h.add (.int _)) q⟩
  · exact q.elim
/-! list(x) -/
def bList : List D → (T → Prop) → Prop := fun ds Q => match ds with
  | [.lst l] => Q (.ls l)
  | [.tup l] => Q (.ls l)
  | [.ro l] => Q (.ls l)
  | _ => False
theorem rb_list : RB K (rListOf K) bList := by
  refine ⟨fun J F R tmp st σ H vs ds Q QD h r q k => ?_⟩
  unfold bList at q
  split at q
  · obtain _ | ⟨r, rr⟩ := r
    cases rr
    obtain ⟨a, ws, rfl, e, rl⟩ := r
    exact ⟨a, ws, rfl, .inl (.inl (.inl e)), fun l nl => k _ _ F _ (Le.refl _) (h.own nl rl) q⟩
  · obtain _ | ⟨r, rr⟩ := r
    cases rr
    cases r with
    | tup hs rl => exact ⟨_, _, rfl, .inr (Same.tup h.fH hs), fun l nl => k _ _ F _ (Le.refl _) (h.own nl rl) q⟩
  · obtain _ | ⟨r, rr⟩ := r
    cases rr
    cases r with
    | ro hs rl => exact ⟨_, _, rfl, .inl (h.fH.seq hs), fun l nl => k _ _ F _ (Le.refl _) (h.own nl rl) q⟩
  · exact q.elim
/-! tuple(x) -/
abbrev rTupOf (K : PySem.W.Frag) : List V → Hp → VK → Prop := fun xs H Q => ∃ p ys, xs = [.ref p] ∧ ((SqL K H p ys ∧ ∀ l, H l = none → Q (.ref l) (upd H l (.tup ys))) ∨ (SqT K H p ys ∧ Q (.ref p) H))
def bTup : List D → (T → Prop) → Prop := fun ds Q => match ds with
  | [.lst l] => Q (.fr (.tup l))
  | [.tup l] => Q (.fr (.tup l))
  | [.ro l] => Q (.fr (.tup l))
  | _ => False
theorem rb_tup : RB K (rTupOf K) bTup := by
  refine ⟨fun J F R tmp st σ H vs ds Q QD h r q k => ?_⟩
  have new : ∀ {ws : List V} {l : List D} {p : Addr}, H p = none → RpL K F ws l → QD (.fr (.tup l)) → Q (.ref p) (upd H p (.tup ws)) := fun {ws l p} np rl q => by
    have s3 := same_updF (o := .tup ws) (h.freeF np)
    exact k _ _ _ _ s3 ((h.allocF np).add (.tup (.inl (.inl upd_same)) (RpL.mono s3 _ _ rl))) q
  unfold bTup at q
  split at q
  · obtain _ | ⟨r, rr⟩ := r
    cases rr
    obtain ⟨a, ws, rfl, e, rl⟩ := r
    exact ⟨a, ws, rfl, .inl ⟨.inl (.inl e), fun l nl => new nl rl q⟩⟩
  · obtain _ | ⟨r, rr⟩ := r
    cases rr
    cases r with
    | tup hs rl => exact ⟨_, _, rfl, .inr ⟨Same.tup h.fH hs, k _ _ F H (Le.refl _) (h.add (.tup hs rl)) q⟩⟩
  · obtain _ | ⟨r, rr⟩ := r
    cases rr
    cases r with
    | ro hs rl => exact ⟨_, _, rfl, .inl ⟨h.fH.seq hs, fun l nl => new nl rl q⟩⟩
  · exact q.elim
/-! sorted of ints -/
theorem rpl_ints : ∀ {vs : List V} {ns : List Int}, RpL K F vs (ns.map D.int) → vs = ns.map V.int
  | _, [], h => by cases h; rfl
  | _, n :: ns, h => by
    cases h with
    | cons h t =>
      cases h
      rw [rpl_ints t]
      rfl
theorem ints_rpl : ∀ ns : List Int, RpL K F (ns.map V.int) (ns.map D.int)
  | [] => .nil
  | _ :: ns => .cons (.int _) (ints_rpl ns)
def bSortI : List D → (T → Prop) → Prop := fun ds Q => match ds with
  | [.lst l] => ∃ ns : List Int, l = ns.map D.int ∧ ∀ ns' : List Int, ns'.Perm ns → ns'.Pairwise (· ≤ ·) → Q (.ls (ns'.map D.int))
  | _ => False
theorem rb_sortI : RB K (rSortedI K) bSortI := by
  refine ⟨fun J F R tmp st σ H vs ds Q QD h r q k => ?_⟩
  unfold bSortI at q
  split at q
  · obtain _ | ⟨r, rr⟩ := r
    cases rr
    obtain ⟨a, ws, rfl, e, rl⟩ := r
    obtain ⟨ns, rfl, q⟩ := q
    have := rpl_ints rl
    subst this
    exact ⟨a, ns, rfl, .inl (.inl e), fun ns' p h1 h2 np => k _ _ F _ (Le.refl _) (h.own np (ints_rpl ns')) (q ns' h1 h2)⟩
  · exact q.elim
/-! sorted(d), d a dict of int keys -/
def bSortDI : List D → (T → Prop) → Prop := fun ds Q => match ds with
  | [.dct ks l] => ∃ ns : List Int, ks = ns.map Sum.inl ∧ ns.length < 64 ∧ ∀ ns' : List Int, ns'.Perm ns → ns'.Pairwise (· ≤ ·) → Q (.ls (ns'.map D.int))
  | _ => False
theorem rb_sortDI : RB K rSortedDI bSortDI := by
  refine ⟨fun J F R tmp st σ H vs ds Q QD h r q k => ?_⟩
  unfold bSortDI at q
  split at q
  · obtain _ | ⟨r, rr⟩ := r
    cases rr
    obtain ⟨a, kvs, rfl, e, e2, rl⟩ := r
    obtain ⟨ns, rfl, hl, q⟩ := q
    exact ⟨a, kvs, ns, rfl, e, e2, hl, fun ns' p h1 h2 np => k _ _ F _ (Le.refl _) (h.own np (ints_rpl ns')) (q ns' h1 h2)⟩
  · exact q.elim
/-! max, min of two; abs; int; str -/
abbrev rMax2 : List V → Hp → VK → Prop := fun xs H Q => ∃ i j, xs = [.int i, .int j] ∧ Q (.int (if j > i then j else i)) H
abbrev rMin2 : List V → Hp → VK → Prop := fun xs H Q => ∃ i j, xs = [.int i, .int j] ∧ Q (.int (if j < i then j else i)) H
abbrev rAbs : List V → Hp → VK → Prop := fun xs H Q => ∃ i, xs = [.int i] ∧ Q (.int (if i < 0 then -i else i)) H
abbrev rStrI : List V → Hp → VK → Prop := fun xs H Q => ∃ i, xs = [.int i] ∧ i.natAbs.log2 < 1920 ∧ Q (.str (toString i)) H
def bMax2 : List D → (T → Prop) → Prop := fun ds Q => match ds with
  | [.int i, .int j] => Q (.fr (.int (if j > i then j else i)))
  | _ => False
def bMin2 : List D → (T → Prop) → Prop := fun ds Q => match ds with
  | [.int i, .int j] => Q (.fr (.int (if j < i then j else i)))
  | _ => False
def bAbs : List D → (T → Prop) → Prop := fun ds Q => match ds with
  | [.int i] => Q (.fr (.int (if i < 0 then -i else i)))
  | _ => False
def bStrI : List D → (T → Prop) → Prop := fun ds Q => match ds with
  | [.int i] => GRD (i.natAbs.log2 < 1920) (Q (.fr (.str (toString i))))
  | _ => False
theorem rb_max2 : RB K rMax2 bMax2 := by
  refine ⟨fun J F R tmp st σ H vs ds Q QD h r q k => ?_⟩
  unfold bMax2 at q
  split at q
  · obtain _ | ⟨r, rr⟩ := r
    obtain _ | ⟨r', rr⟩ := rr
    cases rr; cases r; cases r'
    exact ⟨_, _, rfl, k _ _ F H (Le.refl _) (h.add (.int _)) q⟩
  · exact q.elim
theorem rb_min2 : RB K rMin2 bMin2 := by
  refine ⟨fun J F R tmp st σ H vs ds Q QD h r q k => ?_⟩
  unfold bMin2 at q
  split at q
  · obtain _ | ⟨r, rr⟩ := r
    obtain _ | ⟨r', rr⟩ := rr
    cases rr; cases r; cases r'
    exact ⟨_, _, rfl, k _ _ F H (Le.refl _) (h.add (.int _)) q⟩
  · exact q.elim
theorem rb_abs : RB K rAbs bAbs := by
  refine ⟨fun J F R tmp st σ H vs ds Q QD h r q k => ?_⟩
  unfold bAbs at q
  split at q
  · obtain _ | ⟨r, rr⟩ := r
    cases rr; cases r
    exact ⟨_, rfl, k _ _ F H (Le.refl _) (h.add (.int _)) q⟩
  · exact q.elim
theorem rb_strI : RB K rStrI bStrI := by
  refine ⟨fun J F R tmp st σ H vs ds Q QD h r q k => ?_⟩
  unfold bStrI at q
  split at q
  · obtain _ | ⟨r, rr⟩ := r
    cases rr; cases r
    obtain ⟨c, q⟩ := GRD.out q
    exact ⟨_, rfl, c, k _ _ F H (Le.refl _) (h.add (.str _)) q⟩
  · exact q.elim
/-! isinstance -/
@[irreducible] def KIT (t u : String) (Q : Bool → Prop) : Prop := ∃ b, kitB t u = some b ∧ Q b
theorem KIT.mk {t u : String} {Q : Bool → Prop} {b : Bool} (h : kitB t u = some b) (q : Q b) : KIT t u Q := by unfold KIT; exact ⟨b, h, q⟩
theorem KIT.out {t u : String} {Q : Bool → Prop} (h : KIT t u Q) : ∃ b, kitB t u = some b ∧ Q b := by unfold KIT at h; exact h
def tyD : D → Option String
  | .non => some "NoneType" | .bl _ => some "bool" | .int _ => some "int" | .str _ => some "str" | .lst _ => some "list" | .tup _ => some "tuple" | .dct _ _ => some "dict" | _ => none
theorem Rs.ty {s : String} (f : Same F H) (h : Rs K F H v d) (e : tyD d = some s) : TyX K H v (.type s) := by
  cases d with
  | non => cases e; cases h; exact .base .non
  | bl b => cases e; cases h; exact .base (.bl b)
  | int b => cases e; cases h; exact .base (.int b)
  | str b => cases e; cases h; exact .base (.str b)
  | lst l => cases e; obtain ⟨a, ws, rfl, e, rl⟩ := h; exact .base (.lst e)
  | tup l =>
    cases e
    cases h with
    | tup hs rl =>
      rcases Same.tup f hs with (h | ⟨o, h⟩) | ⟨o, its, n, h1, h2, _⟩
      · exact .base (.tup h)
      · exact .fTuple h
      · exact .kTuple h1 h2
  | dct ks l =>
    cases e
    obtain ⟨a, kvs, rfl, h | ⟨o, h⟩, _⟩ := h
    · exact .base (.dK h)
    · exact .fDict h
  | _ => cases e
def bIsi : List D → (T → Prop) → Prop := fun ds Q => match ds with
  | [x, .ty u] => match tyD x with
    | some t => KIT t u fun b => Q (.fr (.bl b))
    | none => False
  | _ => False
theorem rb_isi : RB K (rIsi K) bIsi := by
  refine ⟨fun J F R tmp st σ H vs ds Q QD h r q k => ?_⟩
  unfold bIsi at q
  split at q
  · rename_i x u
    cases e : tyD x with
    | none => rw [e] at q; exact q.elim
    | some s =>
      rw [e] at q
      obtain ⟨b, kb, q⟩ := KIT.out q
      obtain _ | ⟨r, rr⟩ := r
      obtain _ | ⟨r', rr⟩ := rr
      cases rr
      cases r'
      exact i_isi (Rs.ty h.fH r e) kb (k _ _ F H (Le.refl _) (h.add (.bl _)) q)
  · exact q.elim
/-! ### lists: append, a place written -/
def dApp (i : Nat) (f : DE) : DE := fun st Q => match st[i]? with
  | some (some (.ls _)) => f st fun o st1 => match frz1 st1 o with
    | some (d, st2) => match st2[i]? with
      | some (some (.ls l)) => GRD (l.length < 16777216) (Q (.tm (.fr .non)) (st2.set i (some (.ls (l ++ [d])))))
      | _ => False
    | none => False
  | _ => False
theorem re_app (i : Nat) {t : TE} {f : DE} (h : RE K Jn t f) : RE K Jn (tBM K "list" rAppend (tVar i) (tCons t tNil)) (dApp i f) := by
  refine ⟨fun J F R tmp st σ H Q QD hJ hr q k => ?_⟩
  unfold dApp at q
  cases e1 : st[i]? with
  | none => rw [e1] at q; exact q.elim
  | some y =>
    rw [e1] at q
    cases y with
    | none => exact q.elim
    | some t0 =>
      cases t0 <;> try exact q.elim
      obtain ⟨x, ex, c, _⟩ := hr.foc2 e1
      obtain ⟨v, rfl⟩ := RC.isv c
      obtain ⟨p, vs, rfl, hp, _, _⟩ := RC.mut c
      refine ⟨_, ex, .inl ⟨rfl, vs, .inl (.inl hp)⟩, ?_⟩
      refine h.run J F R tmp st σ H _ _ hJ hr q fun o st1 w F1 H1 s1 h1 ok q1 => ?_
      cases e2 : Z.frz1 st1 o with
      | none => rw [e2] at q1; exact q1.elim
      | some pr =>
        obtain ⟨d, st2⟩ := pr
        rw [e2] at q1
        dsimp only at q1
        obtain ⟨F2, s2, h2, r2⟩ := Rep.frz1 h1 ok e2
        cases e3 : st2[i]? with
        | none => rw [e3] at q1; exact q1.elim
        | some y =>
          rw [e3] at q1
          cases y with
          | none => exact q1.elim
          | some t1 =>
            cases t1 <;> try exact q1.elim
            rename_i l
            obtain ⟨g, q1⟩ := GRD.out q1
            obtain ⟨x', ex', c', k'⟩ := h2.foc2 e3
            rw [ex] at ex'
            cases ex'
            obtain ⟨p', vs', ep, hp', rl, mk⟩ := RC.mut c'
            cases ep
            refine ⟨p, vs', w, rfl, rfl, hp', by rw [rl.len, sizeLine_eq]; exact g, ?_⟩
            exact k (.tm (.fr .non)) _ .non F2 _ (s1.trans s2) ((k' _ _ _ (mk _ _ (rl.app (.one r2)))).add .non) True.intro q1
/-- xs[i] = v -/
def dSetL (i : Nat) (f : DE) : DG := fun o st Q => match st[i]? with
  | some (some (.ls _)) => f st fun oi st1 => match res st1 oi with
    | some (.int j) => match frz1 st1 o with
      | some (d, st2) => match st2[i]? with
        | some (some (.ls l)) => match ixN l.length j with
          | some m => Q (st2.set i (some (.ls (l.set m d))))
          | none => False
        | _ => False
      | none => False
    | _ => False
  | _ => False
theorem rg_setL (i : Nat) {t : TE} {f : DE} (h : RE K Jn t f) : RG K Jn (gSub (tVar i) t rSetL) (dSetL i f) := by
  refine ⟨fun J F R tmp st σ H v o QS QD hJ hr ok q k => ?_⟩
  unfold dSetL at q
  cases e1 : st[i]? with
  | none => rw [e1] at q; exact q.elim
  | some y =>
    rw [e1] at q
    cases y with
    | none => exact q.elim
    | some t0 =>
      cases t0 <;> try exact q.elim
      obtain ⟨x, ex, c, _⟩ := hr.foc2 e1
      obtain ⟨v1, rfl⟩ := RC.isv c
      obtain ⟨p, vs, rfl, hp, _, _⟩ := RC.mut c
      refine ⟨_, ex, ?_⟩
      refine h.run J F R _ st σ H _ _ hJ hr q fun oi st1 w F1 H1 s1 h1 oki q1 => ?_
      cases e2 : res st1 oi with
      | none => rw [e2] at q1; exact q1.elim
      | some di =>
        rw [e2] at q1
        cases di <;> try exact q1.elim
        rename_i j
        dsimp only at q1
        have ri := h1.rs oki e2
        cases ri
        cases e3 : Z.frz1 st1 o with
        | none => rw [e3] at q1; exact q1.elim
        | some pr =>
          obtain ⟨d, st2⟩ := pr
          rw [e3] at q1
          dsimp only at q1
          obtain ⟨F2, s2, h2, r2⟩ := Rep.frz1 (Rep.dropL h1) ok e3
          cases e4 : st2[i]? with
          | none => rw [e4] at q1; exact q1.elim
          | some y =>
            rw [e4] at q1
            cases y with
            | none => exact q1.elim
            | some t1 =>
              cases t1 <;> try exact q1.elim
              rename_i l
              dsimp only at q1
              cases e5 : ixN l.length j with
              | none => rw [e5] at q1; exact q1.elim
              | some m =>
                rw [e5] at q1
                obtain ⟨x', ex', c', k'⟩ := h2.foc2 e4
                rw [ex] at ex'
                cases ex'
                obtain ⟨p', vs', ep, hp', rl, mk⟩ := RC.mut c'
                cases ep
                refine ⟨p, vs', j, m, rfl, rfl, hp', by rw [rl.len]; exact e5, ?_⟩
                exact k _ σ F2 _ (s1.trans s2) (k' _ _ _ (mk _ _ (rl.set m r2))) q1
/-! ### dicts -/
def dDnew : DE := fun st Q => Q (.tm (.dk [])) st
theorem re_dnew : RE K Jn tDNewK dDnew := ⟨fun J F R tmp st σ H Q QD hJ h q k => fun p np => k (.tm (.dk [])) st _ F _ (Le.refl _) (h.ownD (kvs := []) (l := []) np rfl .nil) True.intro q⟩
def keyD : D → Option Key
  | .int i => some (.inl i)
  | .str x => some (.inr x)
  | _ => none
theorem keyD_eq {k : Key} (e : keyD d = some k) (h : Rs K F H v d) : v = kV k := by
  cases d <;> try cases e
  · cases h; rfl
  · cases h; rfl
def kvPut {α : Type} (m : List (Key × α)) (k : Key) (v : α) : List (Key × α) := if (m.any fun p => decide (p.1 = k)) = true then m.map (fun p => if p.1 = k then (p.1, v) else p) else m ++ [(k, v)]
def kvGet {α : Type} (m : List (Key × α)) (k : Key) : Option α := (m.find? fun p => decide (p.1 = k)).map (·.2)
theorem kv_any {α β : Type} {k : Key} : ∀ {kvs : List (Key × α)} {l : List (Key × β)}, kvs.map (·.1) = l.map (·.1) → (kvs.any fun p => decide (p.1 = k)) = l.any fun p => decide (p.1 = k)
  | [], [], _ => rfl
  | [], _ :: _, h => by simp at h
  | _ :: _, [], h => by simp at h
  | p :: kvs, q :: l, h => by
    have h1 : p.1 = q.1 := by have := congrArg List.head? h; simpa using this
    have h2 : kvs.map (·.1) = l.map (·.1) := by have := congrArg List.tail h; simpa using this
    rw [List.any_cons, List.any_cons, h1, kv_any h2]
theorem kv_put {k : Key} : ∀ {kvs : List (Key × V)} {l : List (Key × D)}, kvs.map (·.1) = l.map (·.1) → RpL K F (kvs.map (·.2)) (l.map (·.2)) → Rp K F v d →
    (kvs.map fun p => if p.1 = k then (p.1, v) else p).map (·.1) = (l.map fun p => if p.1 = k then (p.1, d) else p).map (·.1) ∧ RpL K F ((kvs.map fun p => if p.1 = k then (p.1, v) else p).map (·.2)) ((l.map fun p => if p.1 = k then (p.1, d) else p).map (·.2))
  | [], [], _, _, _ => ⟨rfl, .nil⟩
  | [], _ :: _, h, _, _ => by simp at h
  | _ :: _, [], h, _, _ => by simp at h
  | p :: kvs, q :: l, h, r, rv => by
    have h1 : p.1 = q.1 := by have := congrArg List.head? h; simpa using this
    have h2 : kvs.map (·.1) = l.map (·.1) := by have := congrArg List.tail h; simpa using this
    obtain _ | ⟨r1, r2⟩ := r
    obtain ⟨a1, a2⟩ := kv_put (k := k) h2 r2 rv
    rw [List.map_cons, List.map_cons, List.map_cons, List.map_cons, List.map_cons, List.map_cons]
    rw [a1]
    by_cases e : q.1 = k
    · rw [if_pos e, if_pos (h1.trans e)]
      exact ⟨by rw [h1], .cons rv a2⟩
    · rw [if_neg e, if_neg (fun z => e (h1.symm.trans z))]
      exact ⟨by rw [h1], .cons r1 a2⟩
theorem put_rel {k : Key} {kvs : List (Key × V)} {l : List (Key × D)} (h : kvs.map (·.1) = l.map (·.1)) (r : RpL K F (kvs.map (·.2)) (l.map (·.2))) (rv : Rp K F v d) : (putK kvs k v).map (·.1) = (kvPut l k d).map (·.1) ∧ RpL K F ((putK kvs k v).map (·.2)) ((kvPut l k d).map (·.2)) := by
  unfold putK kvPut
  rw [kv_any h]
  split
  · exact kv_put h r rv
  · rw [List.map_append, List.map_append, List.map_append, List.map_append, h]
    exact ⟨rfl, r.app (.one rv)⟩
theorem get_rel {k : Key} : ∀ {kvs : List (Key × V)} {ks : List Key} {ds : List D}, kvs.map (·.1) = ks → RpL K F (kvs.map (·.2)) ds → (∃ v d, valV kvs k = some v ∧ kvGet (ks.zip ds) k = some d ∧ Rp K F v d) ∨ (valV kvs k = none ∧ kvGet (ks.zip ds) k = none)
  | [], ks, ds, h, r => by
    subst h
    cases r
    exact .inr ⟨rfl, rfl⟩
  | p :: kvs, ks, ds, h, r => by
    subst h
    obtain _ | ⟨r1, r2⟩ := r
    rename_i d ds
    rw [List.map_cons, List.zip_cons_cons]
    unfold valV kvGet
    by_cases e : p.1 = k
    · rw [List.find?_cons_of_pos (by simpa using e), List.find?_cons_of_pos (by simpa using e)]
      exact .inl ⟨_, _, rfl, rfl, r1⟩
    · rw [List.find?_cons_of_neg (by simpa using e), List.find?_cons_of_neg (by simpa using e)]
      exact get_rel rfl r2
/-- d[k] = v -/
def dDput (i : Nat) (fk fv : DE) : DSt := fun D st => fv st fun ov st1 => match st1[i]? with
  | some (some (.dk _)) => fk st1 fun ok st2 => match res st2 ok with
    | some d => match keyD d with
      | some k => match frz1 st2 ov with
        | some (y, st3) => match st3[i]? with
          | some (some (.dk l)) => GRD (l.length < 16777216) (D.nx (st3.set i (some (.dk (kvPut l k y)))))
          | _ => False
        | none => False
      | none => False
    | none => False
  | _ => False
theorem rs_dput (i : Nat) {tk tv : TE} {fk fv : DE} (hk : RE K Jn tk fk) (hv : RE K Jn tv fv) : RS K Jn (sDPut (tVar i) tk tv) (dDput i fk fv) := by
  refine ⟨fun J F R st σ H D DD hJ hr q e => hv.run J F R [] st σ H _ _ hJ hr q fun ov st1 v F1 H1 s1 h1 okv q1 => ?_⟩
  cases e1 : st1[i]? with
  | none => rw [e1] at q1; exact q1.elim
  | some y =>
    rw [e1] at q1
    cases y with
    | none => exact q1.elim
    | some t0 =>
      cases t0 <;> try exact q1.elim
      obtain ⟨x, ex, c, _⟩ := h1.foc2 e1
      obtain ⟨v1, rfl⟩ := RC.isv c
      obtain ⟨p, kvs, rfl, hp, _, _, _⟩ := RC.mutD c
      refine ⟨_, ex, ?_⟩
      refine hk.run J F1 R _ st1 σ H1 _ _ hJ h1 q1 fun ok st2 w F2 H2 s2 h2 okk q2 => ?_
      cases e2 : res st2 ok with
      | none => rw [e2] at q2; exact q2.elim
      | some dk =>
        rw [e2] at q2
        dsimp only at q2
        cases e3 : keyD dk with
        | none => rw [e3] at q2; exact q2.elim
        | some ky =>
          rw [e3] at q2
          dsimp only at q2
          have ek := keyD_eq e3 (h2.rs okk e2)
          subst ek
          cases e4 : Z.frz1 st2 ov with
          | none => rw [e4] at q2; exact q2.elim
          | some pr =>
            obtain ⟨d, st3⟩ := pr
            rw [e4] at q2
            dsimp only at q2
            obtain ⟨F3, s3, h3, r3⟩ := Rep.frz1 (Rep.dropL h2) okv e4
            cases e5 : st3[i]? with
            | none => rw [e5] at q2; exact q2.elim
            | some y =>
              rw [e5] at q2
              cases y with
              | none => exact q2.elim
              | some t1 =>
                cases t1 <;> try exact q2.elim
                rename_i l
                obtain ⟨g, q2⟩ := GRD.out q2
                obtain ⟨x', ex', c', k'⟩ := h3.foc2 e5
                rw [ex] at ex'
                cases ex'
                obtain ⟨p', kvs', ep, hp', ek, rl, mk⟩ := RC.mutD c'
                cases ep
                obtain ⟨a1, a2⟩ := put_rel (k := ky) ek rl r3
                have ll : kvs'.length = l.length := by have := congrArg List.length ek; simpa using this
                exact ⟨p, _, rfl, .inl ⟨kvs', ky, hp', rfl, by rw [ll, sizeLine_eq]; exact g, rfl⟩, e.nx F3 _ σ _ (s1.trans (s2.trans s3)) (k' _ _ _ (mk _ _ a1 a2)) q2⟩
@[irreducible] def KG (m : List (Key × D)) (k : Key) (Q : D → Prop) : Prop := ∃ d, kvGet m k = some d ∧ Q d
theorem KG.mk {m : List (Key × D)} {k : Key} {Q : D → Prop} (d : D) (h : kvGet m k = some d) (q : Q d) : KG m k Q := by unfold KG; exact ⟨d, h, q⟩
theorem KG.out {m : List (Key × D)} {k : Key} {Q : D → Prop} (h : KG m k Q) : ∃ d, kvGet m k = some d ∧ Q d := by unfold KG at h; exact h
/-- d[k] -/
def dDget (fd fk : DE) : DE := fun st Q => fd st fun od st1 => fk st1 fun ok st2 => match res st2 od, res st2 ok with
  | some (.dct ks ds), some d => match keyD d with
    | some k => KG (ks.zip ds) k fun x => Q (.tm (.fr x)) st2
    | none => False
  | _, _ => False
theorem re_dget {td tk : TE} {fd fk : DE} (hd : RE K Jn td fd) (hk : RE K Jn tk fk) : RE K Jn (tDGet td tk) (dDget fd fk) := by
  refine ⟨fun J F R tmp st σ H Q QD hJ h q k => ?_⟩
  refine hd.run J F R tmp st σ H _ _ hJ h q fun od st1 x F1 H1 s1 h1 ok1 q1 => ?_
  refine hk.run J F1 R _ st1 σ H1 _ _ hJ h1 q1 fun ok st2 y F2 H2 s2 h2 ok2 q2 => ?_
  cases ea : res st2 od with
  | none => rw [ea] at q2; exact q2.elim
  | some dx =>
    cases eb : res st2 ok with
    | none => rw [ea, eb] at q2; cases dx <;> exact q2.elim
    | some dy =>
      rw [ea, eb] at q2
      cases dx <;> try exact q2.elim
      rename_i ks ds
      dsimp only at q2
      obtain ⟨a, kvs, rfl, hd, e1, r⟩ := Rep.rs (Rep.dropL h2) ok1 ea
      cases e3 : keyD dy with
      | none => rw [e3] at q2; exact q2.elim
      | some ky =>
        rw [e3] at q2
        have ek := keyD_eq e3 (h2.rs ok2 eb)
        subst ek
        obtain ⟨d, g, q2⟩ := KG.out q2
        rcases get_rel (k := ky) e1 r with ⟨v, d', h1', h2', rv⟩ | ⟨_, h2'⟩
        · rw [g] at h2'
          cases h2'
          exact ⟨a, v, rfl, .inl ⟨kvs, ky, hd, rfl, h1'.symm⟩, k (.tm (.fr d)) st2 v F2 H2 (s1.trans s2) ((Rep.dropL (Rep.dropL h2)).add rv) True.intro q2⟩
        · rw [g] at h2'
          cases h2'
/-- k in d -/
def dDin (fk fd : DE) : DE := fun st Q => fk st fun ok st1 => fd st1 fun od st2 => match res st2 ok, res st2 od with
  | some d, some (.dct ks _) => match keyD d with
    | some k => Q (.tm (.fr (.bl (ks.any fun x => decide (x = k))))) st2
    | none => False
  | _, _ => False
def dDnin (fk fd : DE) : DE := fun st Q => fk st fun ok st1 => fd st1 fun od st2 => match res st2 ok, res st2 od with
  | some d, some (.dct ks _) => match keyD d with
    | some k => Q (.tm (.fr (.bl (!(ks.any fun x => decide (x = k)))))) st2
    | none => False
  | _, _ => False
theorem val_in {k : Key} : ∀ {kvs : List (Key × V)}, (valV kvs k).isSome = ((kvs.map (·.1)).any fun x => decide (x = k)) := fun {kvs} => by
  rw [← valV_any, List.any_map]
  rfl
theorem re_din {td tk : TE} {fd fk : DE} (hk : RE K Jn tk fk) (hd : RE K Jn td fd) : RE K Jn (tDIn tk td) (dDin fk fd) := by
  refine ⟨fun J F R tmp st σ H Q QD hJ h q k => ?_⟩
  refine hk.run J F R tmp st σ H _ _ hJ h q fun ok st1 x F1 H1 s1 h1 ok1 q1 => ?_
  refine hd.run J F1 R _ st1 σ H1 _ _ hJ h1 q1 fun od st2 y F2 H2 s2 h2 ok2 q2 => ?_
  cases ea : res st2 ok with
  | none => rw [ea] at q2; exact q2.elim
  | some dx =>
    cases eb : res st2 od with
    | none => rw [ea, eb] at q2; exact q2.elim
    | some dy =>
      rw [ea, eb] at q2
      cases dy <;> try exact q2.elim
      rename_i ks ds
      dsimp only at q2
      obtain ⟨a, kvs, rfl, hd, e1, r⟩ := h2.rs ok2 eb
      cases e3 : keyD dx with
      | none => rw [e3] at q2; exact q2.elim
      | some ky =>
        rw [e3] at q2
        have ek := keyD_eq e3 (Rep.rs (Rep.dropL h2) ok1 ea)
        subst ek
        refine ⟨a, _, rfl, .inl ⟨kvs, ky, hd, rfl, rfl⟩, ?_⟩
        rw [val_in, e1]
        exact k (.tm (.fr (.bl _))) st2 _ F2 H2 (s1.trans s2) ((Rep.dropL (Rep.dropL h2)).add (.bl _)) True.intro q2
theorem re_dnin {td tk : TE} {fd fk : DE} (hk : RE K Jn tk fk) (hd : RE K Jn td fd) : RE K Jn (tDNotIn tk td) (dDnin fk fd) := by
  refine ⟨fun J F R tmp st σ H Q QD hJ h q k => ?_⟩
  refine hk.run J F R tmp st σ H _ _ hJ h q fun ok st1 x F1 H1 s1 h1 ok1 q1 => ?_
  refine hd.run J F1 R _ st1 σ H1 _ _ hJ h1 q1 fun od st2 y F2 H2 s2 h2 ok2 q2 => ?_
  cases ea : res st2 ok with
  | none => rw [ea] at q2; exact q2.elim
  | some dx =>
    cases eb : res st2 od with
    | none => rw [ea, eb] at q2; exact q2.elim
    | some dy =>
      rw [ea, eb] at q2
      cases dy <;> try exact q2.elim
      rename_i ks ds
      dsimp only at q2
      obtain ⟨a, kvs, rfl, hd, e1, r⟩ := h2.rs ok2 eb
      cases e3 : keyD dx with
      | none => rw [e3] at q2; exact q2.elim
      | some ky =>
        rw [e3] at q2
        have ek := keyD_eq e3 (Rep.rs (Rep.dropL h2) ok1 ea)
        subst ek
        refine ⟨a, _, rfl, .inl ⟨kvs, ky, hd, rfl, rfl⟩, ?_⟩
        rw [val_in, e1]
        exact k (.tm (.fr (.bl _))) st2 _ F2 H2 (s1.trans s2) ((Rep.dropL (Rep.dropL h2)).add (.bl _)) True.intro q2
end
end Z

namespace Z
open PySem PySem.Spec PyProof.Rows L2 G
section
variable {K : PySem.W.Frag} {J : List (Nat × V)} {F F' R M M' H H' : Hp} {v : V} {t t' : T} {as bs : List Addr} {cs c1 c2 tmp : List Cell} {c : Cell} {p a b : Addr} {d : D} {vs xs ys zs : List V} {ds es : List D} {σ σ' : L2.St} {st st' : DS} {o : O} {os ps : List O} {Jn : List Nat} {i : Nat} {ts ts' : List T}
/-! ### calls with keywords -/
theorem pendL_flat : ∀ {vs : List V} {os : List O}, OKL σ vs os → pendL vs os = (vs.zip os).flatMap fun p => pend p.1 p.2
  | _, _, .nil => rfl
  | _, _, .cons (v := v) (o := o) _ h => by
    rw [List.zip_cons_cons, List.flatMap_cons, ← pendL_flat h]
    rfl
theorem okl_len : ∀ {vs : List V} {os : List O}, OKL σ vs os → vs.length = os.length
  | _, _, .nil => rfl
  | _, _, .cons _ h => congrArg Nat.succ (okl_len h)
theorem okl_app : ∀ {vs : List V} {os : List O}, OKL σ vs os → OKL σ zs ps → OKL σ (vs ++ zs) (os ++ ps)
  | _, _, .nil, h => h
  | _, _, .cons a t, h => .cons a (okl_app t h)
theorem okl_getD : ∀ {vs : List V} {os : List O} (i : Nat), OKL σ vs os → i < os.length → OKO σ (vs.getD i .non) (os.getD i (.sl 0))
  | _, _, _, .nil, h => by simp at h
  | _, _, 0, .cons a _, _ => a
  | _, _, i + 1, .cons _ t, h => okl_getD i t (by simpa using h)
def pickO (ix : List Nat) (os : List O) : List O := ix.map fun i => os.getD i (.sl 0)
theorem okl_pick (h : OKL σ vs os) : ∀ ix : List Nat, (∀ i ∈ ix, i < os.length) → OKL σ (ix.map fun i => vs.getD i .non) (pickO ix os)
  | [], _ => .nil
  | i :: ix, hi => .cons (okl_getD i h (hi i (List.mem_cons_self ..))) (okl_pick h ix fun j hj => hi j (List.mem_cons_of_mem _ hj))
theorem map_range_getD {α : Type} (d : α) (l : List α) : (List.range l.length).map (fun i => l.getD i d) = l := by
  apply List.ext_getElem?
  intro i
  by_cases h : i < l.length
  · rw [List.getElem?_map, List.getElem?_range h, List.getElem?_eq_getElem h]
    simp [List.getD_eq_getElem?_getD, h]
  · rw [List.getElem?_eq_none (by simp; omega), List.getElem?_eq_none (by omega)]
theorem pick_perm (h : OKL σ vs os) {ix : List Nat} (hp : ix.Perm (List.range os.length)) : (pendL (ix.map fun i => vs.getD i .non) (pickO ix os)).Perm (pendL vs os) := by
  have hi : ∀ i ∈ ix, i < os.length := fun i hi => by simpa using hp.mem_iff.mp hi
  rw [pendL_flat h, pendL_flat (okl_pick h ix hi)]
  refine List.Perm.flatMap_right _ ?_
  have e : (ix.map fun i => vs.getD i .non).zip (pickO ix os) = ix.map fun i => (vs.zip os).getD i (.non, .sl 0) := by
    unfold pickO
    rw [List.zip_map', ]
    refine List.map_congr_left fun i h' => ?_
    have h1 := hi i h'
    have h2 : i < vs.length := by rw [okl_len h]; exact h1
    have hz : (vs.zip os)[i]? = some (vs[i], os[i]) := get_zip (List.getElem?_eq_getElem h2) (List.getElem?_eq_getElem h1)
    simp [List.getD_eq_getElem?_getD, h1, h2, hz]
  rw [e]
  have hz : (vs.zip os).length = os.length := by rw [List.length_zip, okl_len h, Nat.min_self]
  have := hp.map fun i => (vs.zip os).getD i (.non, .sl 0)
  rw [← hz, map_range_getD] at this
  exact this
def dCallN (n m k : Nat) (f : FZ) (ix : List Nat) (fa fk : DA) : DE := fun st Q => fa st fun os st1 => fk st1 fun ps st2 => match Nat.beq os.length m && Nat.beq ps.length k with
  | true => match takeL st2 (pickO ix (os ++ ps)) with
    | some (ts, st3) => match Nat.beq ((pickO ix (os ++ ps)).length + ([] : List D).length) n with
      | true => CALL f (ts ++ ([] : List D).map T.fr) fun t ts' => Q (.tm t) (putL st3 (pickO ix (os ++ ps)) ts')
      | false => False
    | none => False
  | false => False
theorem re_callN {n m k : Nat} {f : FZ} {sp : Sp} {E : XK} {ta tk : TA} {fa fk : DA} (ix : List Nat) (hsp : sp = SpZ K n f) (ha : RA K Jn ta fa) (hk : RA K Jn tk fk) (hp : ix.Perm (List.range (m + k)) := by decide) :
    RE K Jn (tCallN m k sp (G.pickV ix) E ta tk) (dCallN n m k f ix fa fk) := by
  refine ⟨fun J F R tmp st σ H Q QD hJ h q kk => ha.run J F R tmp st σ H _ _ hJ h q fun os st1 vs F1 H1 s1 h1 ok1 q1 => ?_⟩
  refine hk.run J F1 R _ st1 σ H1 _ _ hJ h1 q1 fun ps st2 zs F2 H2 s2 h2 ok2 q2 => ?_
  cases eb : Nat.beq os.length m && Nat.beq ps.length k with
  | false => rw [eb] at q2; exact q2.elim
  | true =>
    rw [eb] at q2
    rw [Bool.and_eq_true] at eb
    have lo := Nat.eq_of_beq_eq_true eb.1
    have lp := Nat.eq_of_beq_eq_true eb.2
    refine ⟨(okl_len ok1).trans lo, (okl_len ok2).trans lp, ?_⟩
    have ok := okl_app ok1 ok2
    have hp' : ix.Perm (List.range (os ++ ps).length) := by rw [List.length_append, lo, lp]; exact hp
    have hi : ∀ i ∈ ix, i < (os ++ ps).length := fun i hi => by simpa using hp'.mem_iff.mp hi
    have pm := pick_perm ok hp'
    have e0 : G.pickV ix vs zs = (ix.map fun i => (vs ++ zs).getD i .non) ++ [] := by rw [List.append_nil]; rfl
    rw [e0]
    refine call_run (os := pickO ix (os ++ ps)) (dts := []) hsp (fun _ => .nil) (h2.perm (c2 := pendL (ix.map fun i => (vs ++ zs).getD i .non) (pickO ix (os ++ ps)) ++ tmp) ?_) (okl_pick ok ix hi) q2 fun o st' v F' H' s => kk o st' v F' H' (s1.trans (s2.trans s))
    rw [← List.append_assoc]
    refine List.Perm.append_right _ (List.Perm.trans ?_ pm.symm)
    rw [pendL_flat ok, pendL_flat ok1, pendL_flat ok2, List.zip_append (okl_len ok1), List.flatMap_append]
    exact List.perm_append_comm
/-! ### two, three names at once -/
def dPar (i j : Nat) (fa : DA) : DSt := fun D st => fa st fun os st1 => match frzL st1 os with
  | some ([x, y], st2) => D.nx ((st2.set i (some (.fr x))).set j (some (.fr y)))
  | _ => False
theorem rs_par (i j : Nat) {t : TA} {f : DA} (h : RA K Jn t f) (hi : Jn.contains i = false := by rfl) (hj : Jn.contains j = false := by rfl) : RS K Jn (tPar i j t) (dPar i j f) := by
  refine ⟨fun J F R st σ H D DD hJ hr q e => h.run J F R [] st σ H _ _ hJ hr q fun os st1 vs F1 H1 s1 h1 ok q1 => ?_⟩
  split at q1
  · rename_i x y st2 ef
    obtain ⟨F2, s2, h2, r2⟩ := Rep.frzL h1 ok ef
    obtain _ | ⟨r, rr⟩ := r2
    obtain _ | ⟨r', rr⟩ := rr
    cases rr
    exact ⟨_, _, rfl, e.nx F2 _ _ H1 (s1.trans s2) (Rep.put ((Rep.put (h2.add r) (notin (hJ := hJ) hi)).add r') (notin (hJ := hJ) hj)) q1⟩
  · exact q1.elim
def dPar3 (i j l : Nat) (fa : DA) : DSt := fun D st => fa st fun os st1 => match frzL st1 os with
  | some ([x, y, z], st2) => D.nx (((st2.set i (some (.fr x))).set j (some (.fr y))).set l (some (.fr z)))
  | _ => False
theorem rs_par3 (i j l : Nat) {t : TA} {f : DA} (h : RA K Jn t f) (hi : Jn.contains i = false := by rfl) (hj : Jn.contains j = false := by rfl) (hl : Jn.contains l = false := by rfl) : RS K Jn (tPar3 i j l t) (dPar3 i j l f) := by
  refine ⟨fun J F R st σ H D DD hJ hr q e => h.run J F R [] st σ H _ _ hJ hr q fun os st1 vs F1 H1 s1 h1 ok q1 => ?_⟩
  split at q1
  · rename_i x y z st2 ef
    obtain ⟨F2, s2, h2, r2⟩ := Rep.frzL h1 ok ef
    obtain _ | ⟨r, rr⟩ := r2
    obtain _ | ⟨r', rr⟩ := rr
    obtain _ | ⟨r'', rr⟩ := rr
    cases rr
    exact ⟨_, _, _, rfl, e.nx F2 _ _ H1 (s1.trans s2) (Rep.put ((Rep.put ((Rep.put (h2.add r) (notin (hJ := hJ) hi)).add r') (notin (hJ := hJ) hj)).add r'') (notin (hJ := hJ) hl)) q1⟩
  · exact q1.elim
/-! ### slices -/
abbrev DO := DS → (Option Int → DS → Prop) → Prop
def dNoP : DO := fun st Q => Q none st
def dPart (f : DE) : DO := fun st Q => f st fun o st1 => match res st1 o with
  | some (.int i) => Q (some i) st1
  | _ => False
structure RO' (K : PySem.W.Frag) (Jn : List Nat) (t : TO) (f : DO) : Prop where
  run : ∀ (J : List (Nat × V)) (F R : Hp) (tmp : List Cell) (st : DS) (σ : L2.St) (H : Hp) (Q : Option Int → Hp → Prop) (QD : Option Int → DS → Prop), J.map (·.1) = Jn → Rep K J F R tmp st σ H → f st QD →
    (∀ b st' F' H', Le F F' → Rep K J F' R tmp st' σ H' → QD b st' → Q b H') → t σ H Q
theorem ro_noP : RO' K Jn tNoPart dNoP := ⟨fun J F R tmp st σ H Q QD hJ h q k => k _ st F H (Le.refl _) h q⟩
theorem ro_part {t : TE} {f : DE} (h : RE K Jn t f) : RO' K Jn (tPart t) (dPart f) := by
  refine ⟨fun J F R tmp st σ H Q QD hJ hr q k => h.run J F R tmp st σ H _ _ hJ hr q fun o st1 v F1 H1 s1 h1 ok q1 => ?_⟩
  cases e : res st1 o with
  | none => rw [e] at q1; exact q1.elim
  | some d =>
    rw [e] at q1
    cases d <;> try exact q1.elim
    have r := h1.rs ok e
    cases r
    exact ⟨_, rfl, k _ st1 F1 H1 s1 (Rep.dropL h1) q1⟩
def cutD {α : Type} (l : List α) (lo hi : Option Int) : List α := (l.drop (HT.sIx l.length 0 lo)).take (HT.sIx l.length l.length hi - HT.sIx l.length 0 lo)
theorem RpL.cut (r : RpL K F vs ds) (lo hi : Option Int) : RpL K F (cutV vs lo hi) (cutD ds lo hi) := by
  unfold cutV cutD
  rw [r.len]
  exact (r.drop _).take _
def sLst : D → Option Int → Option Int → (T → Prop) → Prop := fun x lo hi Q => match x with
  | .lst l => Q (.ls (cutD l lo hi))
  | .ro l => Q (.ls (cutD l lo hi))
  | _ => False
def sTup : D → Option Int → Option Int → (T → Prop) → Prop := fun x lo hi Q => match x with
  | .tup l => match Nat.beq (HT.sIx l.length 0 lo) 0 && Nat.beq (HT.sIx l.length l.length hi) l.length with
    | true => False
    | false => Q (.fr (.tup (cutD l lo hi)))
  | _ => False
def sStr : D → Option Int → Option Int → (T → Prop) → Prop := fun x lo hi Q => match x with
  | .str z => GRD (z.length ≤ 16777216) (Q (.fr (.str (cutS z lo hi))))
  | _ => False
structure RSl (K : PySem.W.Frag) (r : V → Option Int → Option Int → Hp → VK → Prop) (f : D → Option Int → Option Int → (T → Prop) → Prop) : Prop where
  run : ∀ (J : List (Nat × V)) (F R : Hp) (tmp : List Cell) (st : DS) (σ : L2.St) (H : Hp) (x : V) (dx : D) (lo hi : Option Int) (Q : VK) (QD : T → Prop), Rep K J F R tmp st σ H → Rs K F H x dx → f dx lo hi QD →
    (∀ v t F' H', Le F F' → Rep K J F' R ((some v, some t) :: tmp) st σ H' → QD t → Q v H') → r x lo hi H Q
theorem rsl_list : RSl K (rSlL K) sLst := by
  refine ⟨fun J F R tmp st σ H x dx lo hi Q QD h r q k => ?_⟩
  cases dx <;> try exact q.elim
  · obtain ⟨a, ws, rfl, e, rl⟩ := r
    exact ⟨a, ws, rfl, .inl (.inl e), fun p np => k _ _ F _ (Le.refl _) (h.own np (rl.cut lo hi)) q⟩
  · cases r with
    | ro hs rl => exact ⟨_, _, rfl, h.fH.seq hs, fun p np => k _ _ F _ (Le.refl _) (h.own np (rl.cut lo hi)) q⟩
theorem rsl_tup : RSl K (rSlT K) sTup := by
  refine ⟨fun J F R tmp st σ H x dx lo hi Q QD h r q k => ?_⟩
  cases dx <;> try exact q.elim
  cases r with
  | tup hs rl =>
    rename_i l a ws
    have q : (match Nat.beq (HT.sIx l.length 0 lo) 0 && Nat.beq (HT.sIx l.length l.length hi) l.length with
    | true => False
    | false => QD (.fr (.tup (cutD l lo hi)))) := q
    have g : ¬ (HT.sIx ws.length 0 lo = 0 ∧ HT.sIx ws.length ws.length hi = ws.length) := fun z => by
      rw [rl.len] at z
      have : (Nat.beq (HT.sIx l.length 0 lo) 0 && Nat.beq (HT.sIx l.length l.length hi) l.length) = true := by
        rw [z.1, z.2]
        simp
      rw [this] at q
      exact q
    have q : QD (.fr (.tup (cutD l lo hi))) := by
      split at q
      · exact q.elim
      · exact q
    refine ⟨_, _, rfl, Same.tup h.fH hs, g, fun p np => ?_⟩
    have s3 := same_updF (o := .tup (cutV ws lo hi)) (h.freeF np)
    exact k _ _ _ _ s3 ((h.allocF np).add (.tup (.inl (.inl upd_same)) (RpL.mono s3 _ _ (rl.cut lo hi)))) q
theorem rsl_str : RSl K rSlS sStr := by
  refine ⟨fun J F R tmp st σ H x dx lo hi Q QD h r q k => ?_⟩
  cases dx <;> try exact q.elim
  cases r
  obtain ⟨g, q⟩ := GRD.out q
  exact ⟨_, rfl, by rw [sizeLine_eq]; exact g, k _ _ F H (Le.refl _) (h.add (.str _)) q⟩
def dSl (r : D → Option Int → Option Int → (T → Prop) → Prop) (fe : DE) (fl fh : DO) : DE := fun st Q => fe st fun o st1 => fl st1 fun lo st2 => fh st2 fun hi st3 => match res st3 o with
  | some d => r d lo hi fun t => Q (.tm t) st3
  | none => False
theorem re_sl {r : V → Option Int → Option Int → Hp → VK → Prop} {g : D → Option Int → Option Int → (T → Prop) → Prop} {te : TE} {tl th : TO} {fe : DE} {fl fh : DO} (hr : RSl K r g) (he : RE K Jn te fe) (hl : RO' K Jn tl fl) (hh : RO' K Jn th fh) :
    RE K Jn (tSl r te tl th) (dSl g fe fl fh) := by
  refine ⟨fun J F R tmp st σ H Q QD hJ h q k => he.run J F R tmp st σ H _ _ hJ h q fun o st1 v F1 H1 s1 h1 ok q1 => ?_⟩
  refine hl.run J F1 R _ st1 σ H1 _ _ hJ h1 q1 fun lo st2 F2 H2 s2 h2 q2 => ?_
  refine hh.run J F2 R _ st2 σ H2 _ _ hJ h2 q2 fun hi st3 F3 H3 s3 h3 q3 => ?_
  cases e : res st3 o with
  | none => rw [e] at q3; exact q3.elim
  | some d =>
    rw [e] at q3
    exact hr.run J F3 R _ st3 σ H3 v d lo hi _ _ h3 (h3.rs ok e) q3 fun w t F4 H4 s4 h4 q4 => k (.tm t) st3 w F4 H4 (s1.trans (s2.trans (s3.trans s4))) (Rep.keep1 (c1 := pend v o) h4) True.intro q4
/-! ### lists, texts put together -/
def dCat : D → D → (T → Prop) → Prop := fun x y Q => match x, y with
  | .lst l, .lst m => GRD (l.length + m.length ≤ 16777216) (Q (.ls (l ++ m)))
  | _, _ => False
theorem ro_cat : RO K rCat dCat := by
  refine ⟨fun J F R tmp st σ H x y dx dy Q QD hr hx hy q k => ?_⟩
  cases dx <;> try exact q.elim
  cases dy <;> try exact q.elim
  obtain ⟨g, q⟩ := GRD.out q
  obtain ⟨a, vs, rfl, h2, h3⟩ := hx
  obtain ⟨b, ws, rfl, h4, h5⟩ := hy
  exact ⟨a, b, vs, ws, rfl, rfl, h2, h4, by rw [h3.len, h5.len, sizeLine_eq]; exact g, fun p np => k _ _ F _ (Le.refl _) (hr.own np (h3.app h5)) q⟩
def dAddS : D → D → (T → Prop) → Prop := fun x y Q => match x, y with
  | .str l, .str m => GRD (l.length + m.length ≤ 16777216) (Q (.fr (.str (l ++ m))))
  | _, _ => False
abbrev rAddS : R2 := fun x y H Q => ∃ i j, x = .str i ∧ y = .str j ∧ i.length + j.length ≤ sizeLine ∧ Q (.str (i ++ j)) H
theorem ro_addS : RO K rAddS dAddS := by
  refine ⟨fun J F R tmp st σ H x y dx dy Q QD hr hx hy q k => ?_⟩
  cases dx <;> try exact q.elim
  cases dy <;> try exact q.elim
  obtain ⟨g, q⟩ := GRD.out q
  cases hx; cases hy
  exact ⟨_, _, rfl, rfl, by rw [sizeLine_eq]; exact g, k _ _ F H (Le.refl _) (hr.add (.str _)) q⟩
/-! ### sorted(set(xs)), ints -/
def dSortSet (f : DE) : DE := fun st Q => f st fun o st1 => match res st1 o with
  | some (.lst l) => ∃ ns : List Int, l = ns.map D.int ∧ ns.length < 64 ∧ ∀ ys : List Int, ys.Pairwise (· < ·) → (∀ k : Int, k ∈ ys ↔ k ∈ ns) → Q (.tm (.ls (ys.map D.int))) st1
  | _ => False
theorem re_sortSet {w w' : World} {t : TE} {f : DE} (hw : w' = w) (h : RE K Jn t f) : RE K Jn (tCB (rSortedSet w) (tCons (tCB (GS.rSetLI K w') (tCons t tNil)) tNil)) (dSortSet f) := by
  subst hw
  refine ⟨fun J F R tmp st σ H Q QD hJ hr q k => h.run J F R tmp st σ H _ _ hJ hr q fun o st1 v F1 H1 s1 h1 ok q1 => ?_⟩
  cases e : res st1 o with
  | none => rw [e] at q1; exact q1.elim
  | some d =>
    rw [e] at q1
    cases d <;> try exact q1.elim
    obtain ⟨ns, rfl, hl, q1⟩ := q1
    obtain ⟨a, ws, rfl, e, rl⟩ := h1.rs ok e
    have := rpl_ints rl
    subst this
    refine ⟨a, ns, rfl, .inl (.inl e), by show _ < 4096; omega, fun p c np hc => ?_⟩
    have h2 := (Rep.dropL h1).grow (same_upd (o := SetO w' p (fun j => decide (j ∈ ns)) c) np)
    refine ⟨p, _, c, rfl, upd_same, by omega, fun ys q hy hm hcl nq => ?_⟩
    exact k (.tm (.ls (ys.map D.int))) st1 _ F1 _ s1 (h2.own nq (ints_rpl ys)) True.intro (q1 ys hy fun k => by simpa using hm k)
end
end Z

namespace Z
open PySem PySem.Spec PyProof.Rows L2 G
section
variable {K : PySem.W.Frag} {J : List (Nat × V)} {F F' R M M' H H' : Hp} {v : V} {t t' : T} {as bs : List Addr} {cs c1 c2 tmp : List Cell} {c : Cell} {p a b : Addr} {d : D} {vs xs ys zs : List V} {ds es : List D} {σ σ' : L2.St} {st st' : DS} {o : O} {os ps : List O} {Jn : List Nat} {i : Nat} {ts ts' : List T}
def dYes : DT := fun st Q => Q true st
theorem rt_yes : RT K Jn tYes dYes := ⟨fun J F R tmp st σ H Q QD hJ h q k => k true st F H (Le.refl _) h q⟩
theorem toPL_map : ∀ l : List D, D.toPL l = l.map D.toP
  | [] => rfl
  | d :: l => by rw [D.toPL, List.map_cons, toPL_map l]
theorem ro_inD : RO K (rInD K) dInD := by
  refine ⟨fun J F R tmp st σ H x y dx dy Q QD hr hx hy q k => ?_⟩
  cases dy <;> try exact q.elim
  rename_i l
  obtain ⟨⟨o1, o2⟩, q⟩ := INV.out q
  obtain ⟨h1, h2⟩ := hx.dp (.of hr.fH) o1
  obtain ⟨h3, h4⟩ := hy.dp (.of hr.fH) o2
  have e : D.toP (.lst l) = .list (D.toPL l) := by rw [D.toP]
  rw [e] at h3 h4
  refine ⟨_, _, h1, h3, h2, h4, ?_⟩
  have e2 : ((D.toPL l).any fun z => PyData.eqv z dx.toP) = l.any fun z => eqD z dx := by
    rw [toPL_map, List.any_map]; rfl
  rw [e2]
  exact k _ _ F H (Le.refl _) (hr.add (.bl _)) q
theorem ro_notInD : RO K (rNotInD K) dNotInD := by
  refine ⟨fun J F R tmp st σ H x y dx dy Q QD hr hx hy q k => ?_⟩
  cases dy <;> try exact q.elim
  rename_i l
  obtain ⟨⟨o1, o2⟩, q⟩ := INV.out q
  obtain ⟨h1, h2⟩ := hx.dp (.of hr.fH) o1
  obtain ⟨h3, h4⟩ := hy.dp (.of hr.fH) o2
  have e : D.toP (.lst l) = .list (D.toPL l) := by rw [D.toP]
  rw [e] at h3 h4
  refine ⟨_, _, h1, h3, h2, h4, ?_⟩
  have e2 : (!(D.toPL l).any fun z => PyData.eqv z dx.toP) = !(l.any fun z => eqD z dx) := by
    rw [toPL_map, List.any_map]; rfl
  rw [e2]
  exact k _ _ F H (Le.refl _) (hr.add (.bl _)) q
theorem re_powc (i j z : Int) (hc : L2.CPow i j) (e : i ^ j.toNat = z) : RE K Jn (tOp (rI L2.CPow fun i j => V.int (i ^ j.toNat)) (tC (.int i)) (tC (.int j))) (dC (.int z)) :=
  ⟨fun J F R tmp st σ H Q QD hJ h q k => ⟨i, j, rfl, rfl, hc, by show Q (V.int (i ^ j.toNat)) H; rw [e]; exact k (.tm (.fr (.int z))) st _ F H (Le.refl _) (h.add (.int z)) True.intro q⟩⟩
/-- the law's call -/
theorem law_run {f : FZ} {ns : List Int} {Q : VK} {E : XK} (hS : SqL K H a (ns.map V.int)) (h : f [.fr (.ro (ns.map D.int))] fun t _ => t = .fr (.bl true)) (k : ∀ H', Q (.bl true) H') : SpZ K 1 f [.ref a] H Q E := by
  refine ⟨rfl, H, fun _ => none, _, _, rfl, ⟨fun _ => none, [] ++ [], ⟨Same.refl _, fun _ _ e => (by cases e), fun _ _ e => (by cases e), fun _ => .inr rfl, fun _ => .inr rfl, fun _ => .inr rfl⟩, .som (t := .fr (.ro (ns.map D.int))) ⟨rfl, .ro hS (ints_rpl ns)⟩ .nil, List.nodup_nil⟩, h, ?_⟩
  rintro v t ts' F' H' s c rfl
  have r := RC.get c
  cases r
  exact k H'
end
end Z

namespace Z
open PySem PySem.Spec PyProof.Rows L2 G
/-! ### things written as data -/
/-- f writes an α, no deeper than n; alike just where the α are -/
structure Enc {α : Type} [DecidableEq α] (f : α → D) (n : Nat) : Prop where
  pure : ∀ a, (f a).pure = true
  lay : ∀ a, Lay n (f a).toP
  eq : ∀ a b, eqD (f a) (f b) = decide (a = b)
theorem Enc.ok {α : Type} [DecidableEq α] {f : α → D} {n : Nat} (e : Enc f n) (hn : n ≤ 64 := by decide) (a : α) : okD (f a) = true := by
  unfold okD
  rw [e.pure, (e.lay a).shaped hn]
  rfl
theorem lay_mono {n m : Nat} {d : PyData} (h : Lay n d) (hm : n ≤ m) : Lay m d := ⟨h.1, Nat.le_trans h.2 hm⟩
theorem enc_int : Enc D.int 0 := ⟨fun _ => rfl, fun i => Lay.int 0 i, fun a b => by
  have : eqD (.int a) (.int b) = (a == b) := rfl
  rw [this, Bool.eq_iff_iff]
  simp⟩
theorem enc_bl : Enc D.bl 0 := ⟨fun _ => rfl, fun i => Lay.bool 0 i, fun a b => by cases a <;> cases b <;> rfl⟩
theorem pureL_map {α : Type} {f : α → D} (h : ∀ a, (f a).pure = true) : ∀ l : List α, D.pureL (l.map f) = true
  | [] => rfl
  | a :: l => by rw [List.map_cons, D.pureL, h, pureL_map h l]; rfl
theorem enc_lst {α : Type} [DecidableEq α] {f : α → D} {n : Nat} (e : Enc f n) : Enc (fun l : List α => D.lst (l.map f)) (n + 1) := by
  refine ⟨fun l => by rw [D.pure]; exact pureL_map e.pure l, fun l => ?_, fun a b => ?_⟩
  · rw [D.toP, toPL_map]
    refine Lay.list fun d hd => ?_
    obtain ⟨x, hx, rfl⟩ := List.mem_map.mp hd
    obtain ⟨y, _, rfl⟩ := List.mem_map.mp hx
    exact e.lay y
  · have : ∀ a b : List α, PyData.eqvAll (D.toPL (a.map f)) (D.toPL (b.map f)) = decide (a = b) := by
      intro a
      induction a with
      | nil => intro b; cases b <;> rfl
      | cons x a ih =>
        intro b
        cases b with
        | nil => rfl
        | cons y b =>
          have e1 : PyData.eqvAll (D.toPL ((x :: a).map f)) (D.toPL ((y :: b).map f)) = (eqD (f x) (f y) && PyData.eqvAll (D.toPL (a.map f)) (D.toPL (b.map f))) := by
            rw [List.map_cons, List.map_cons, D.toPL, D.toPL]; rfl
          rw [e1, e.eq, ih, Bool.eq_iff_iff]
          simp
    have e2 : eqD (.lst (a.map f)) (.lst (b.map f)) = PyData.eqvAll (D.toPL (a.map f)) (D.toPL (b.map f)) := by unfold eqD; rw [D.toP, D.toP]; rfl
    rw [e2, this]
theorem enc_tup2 {α β : Type} [DecidableEq α] [DecidableEq β] {f : α → D} {g : β → D} {n m : Nat} (e : Enc f n) (e' : Enc g m) : Enc (fun p : α × β => D.tup [f p.1, g p.2]) (max n m + 1) := by
  refine ⟨fun p => ?_, fun p => ?_, fun a b => ?_⟩
  · show D.pureL [f p.1, g p.2] = true
    rw [D.pureL, D.pureL, e.pure, e'.pure]; rfl
  · have e1 : (D.tup [f p.1, g p.2]).toP = .tuple [(f p.1).toP, (g p.2).toP] := by rw [D.toP, D.toPL, D.toPL, D.toPL]
    rw [e1]
    refine Lay.tuple fun d hd => ?_
    have : d = (f p.1).toP ∨ d = (g p.2).toP := by simpa using hd
    rcases this with rfl | rfl
    · exact lay_mono (e.lay p.1) (Nat.le_max_left ..)
    · exact lay_mono (e'.lay p.2) (Nat.le_max_right ..)
  · have e1 : eqD (.tup [f a.1, g a.2]) (.tup [f b.1, g b.2]) = (eqD (f a.1) (f b.1) && (eqD (g a.2) (g b.2) && true)) := by
      unfold eqD; rw [D.toP, D.toP, D.toPL, D.toPL, D.toPL, D.toPL, D.toPL]; rfl
    rw [e1, e.eq, e'.eq, Bool.eq_iff_iff]
    obtain ⟨a1, a2⟩ := a
    obtain ⟨b1, b2⟩ := b
    simp
theorem enc_tup3 {α β γ : Type} [DecidableEq α] [DecidableEq β] [DecidableEq γ] {f : α → D} {g : β → D} {h : γ → D} {n m k : Nat} (e : Enc f n) (e' : Enc g m) (e'' : Enc h k) : Enc (fun p : α × β × γ => D.tup [f p.1, g p.2.1, h p.2.2]) (max n (max m k) + 1) := by
  refine ⟨fun p => ?_, fun p => ?_, fun a b => ?_⟩
  · show D.pureL [f p.1, g p.2.1, h p.2.2] = true
    rw [D.pureL, D.pureL, D.pureL, e.pure, e'.pure, e''.pure]; rfl
  · have e1 : (D.tup [f p.1, g p.2.1, h p.2.2]).toP = .tuple [(f p.1).toP, (g p.2.1).toP, (h p.2.2).toP] := by rw [D.toP, D.toPL, D.toPL, D.toPL, D.toPL]
    rw [e1]
    refine Lay.tuple fun d hd => ?_
    have : d = (f p.1).toP ∨ d = (g p.2.1).toP ∨ d = (h p.2.2).toP := by simpa using hd
    rcases this with rfl | rfl | rfl
    · exact lay_mono (e.lay p.1) (Nat.le_max_left ..)
    · exact lay_mono (e'.lay p.2.1) (Nat.le_trans (Nat.le_max_left ..) (Nat.le_max_right ..))
    · exact lay_mono (e''.lay p.2.2) (Nat.le_trans (Nat.le_max_right ..) (Nat.le_max_right ..))
  · have e1 : eqD (.tup [f a.1, g a.2.1, h a.2.2]) (.tup [f b.1, g b.2.1, h b.2.2]) = (eqD (f a.1) (f b.1) && (eqD (g a.2.1) (g b.2.1) && (eqD (h a.2.2) (h b.2.2) && true))) := by
      unfold eqD; rw [D.toP, D.toP, D.toPL, D.toPL, D.toPL, D.toPL, D.toPL, D.toPL, D.toPL]; rfl
    rw [e1, e.eq, e'.eq, e''.eq, Bool.eq_iff_iff]
    obtain ⟨a1, a2, a3⟩ := a
    obtain ⟨b1, b2, b3⟩ := b
    simp
def optD : Option Int → D
  | none => .non
  | some i => .int i
theorem enc_opt : Enc optD 0 := by
  refine ⟨fun a => by cases a <;> rfl, fun a => ?_, fun a b => ?_⟩
  · cases a with
    | none => exact Lay.none 0
    | some i => exact Lay.int 0 i
  · cases a with
    | none => cases b <;> rfl
    | some i =>
      cases b with
      | none => rfl
      | some j =>
        have : eqD (optD (some i)) (optD (some j)) = (i == j) := rfl
        rw [this, Bool.eq_iff_iff]
        simp
section
variable {α : Type} [DecidableEq α] {f : α → D} {n : Nat} {a b : α} {P : Bool → Prop} {l : List α}
theorem Enc.eqv (e : Enc f n) (h : P (decide (a = b))) (hn : n ≤ 64 := by decide) : EQV (f a) (f b) P := EQV.mk ⟨e.ok hn a, e.ok hn b⟩ (by rw [e.eq]; exact h)
theorem Enc.same (e : Enc f n) (h : P true) (hn : n ≤ 64 := by decide) : EQV (f a) (f a) P := EQV.mk ⟨e.ok hn a, e.ok hn a⟩ (by rw [e.eq, decide_eq_true rfl]; exact h)
theorem Enc.eqT (e : Enc f n) (hab : a = b) (h : P true) (hn : n ≤ 64 := by decide) : EQV (f a) (f b) P := by subst hab; exact e.same h hn
theorem Enc.eqF (e : Enc f n) (hab : a ≠ b) (h : P false) (hn : n ≤ 64 := by decide) : EQV (f a) (f b) P := e.eqv (by rw [decide_eq_false hab]; exact h) hn
theorem Enc.any (e : Enc f n) (a : α) (l : List α) : ((l.map f).any fun z => eqD z (f a)) = decide (a ∈ l) := by
  rw [List.any_map, Bool.eq_iff_iff, List.any_eq_true]
  constructor
  · rintro ⟨x, hx, h⟩
    have h : eqD (f x) (f a) = true := h
    rw [e.eq] at h
    have := of_decide_eq_true h
    subst this
    exact decide_eq_true hx
  · intro h
    refine ⟨a, of_decide_eq_true h, ?_⟩
    show eqD (f a) (f a) = true
    rw [e.eq]
    exact decide_eq_true rfl
theorem Enc.inv (e : Enc f n) (h1 : a ∈ l → P true) (h0 : a ∉ l → P false) (hn : n + 1 ≤ 64 := by decide) : INV (f a) (l.map f) P := INV.mk ⟨e.ok (by omega) a, (enc_lst e).ok hn l⟩ (by
  rw [e.any]
  by_cases h : a ∈ l
  · rw [decide_eq_true h]; exact h1 h
  · rw [decide_eq_false h]; exact h0 h)
end
/-! ### items -/
theorem IX.all {l : List D} {i : Int} {Q : D → Prop} (P : D → Prop) (hP : ∀ d ∈ l, P d) (h0 : 0 ≤ i ∧ i < l.length) (q : ∀ d, P d → Q d) : IX l i Q := by
  obtain ⟨v, e, pv⟩ := atI_all P hP h0.1 h0.2
  exact IX.mk v e (q v pv)
theorem IX.bnd (lo hi : Int) {l : List D} {i : Int} {Q : D → Prop} (hP : ∀ d ∈ l, ∃ z, d = D.int z ∧ lo ≤ z ∧ z ≤ hi) (h0 : 0 ≤ i ∧ i < l.length) (q : ∀ z, lo ≤ z → z ≤ hi → Q (.int z)) : IX l i Q :=
  IX.all _ hP h0 fun d ⟨z, e, a, b⟩ => by rw [e]; exact q z a b
theorem IX.nat {l : List D} {j : Nat} {d : D} {Q : D → Prop} (h : l[j]? = some d) (q : Q d) : IX l (j : Int) Q := IX.mk d (atI_nat h) q
theorem alld_nil {P : D → Prop} : ∀ x ∈ ([] : List D), P x := fun x hx => by cases hx
theorem alld_cons {P : D → Prop} {y : D} {ys : List D} (h : P y) (t : ∀ x ∈ ys, P x) : ∀ x ∈ y :: ys, P x := fun x hx => by
  rcases List.mem_cons.mp hx with rfl | hx
  · exact h
  · exact t x hx
theorem upto_len (lo : Int) (n : Nat) : (upto lo n).length = n := by unfold upto; rw [List.length_map, List.length_range]
theorem upto_get {lo : Int} {n i : Nat} {d : D} (h : (upto lo n)[i]? = some d) : i < n ∧ d = .int (lo + (i : Nat)) := by
  have hi := (List.getElem?_eq_some_iff.mp h).1
  rw [upto_len] at hi
  unfold upto at h
  rw [List.getElem?_map, List.getElem?_range hi] at h
  exact ⟨hi, (Option.some.inj h).symm⟩
/-! ### lists of written things -/
theorem map_get {α β : Type} {f : α → β} {l : List α} {i : Nat} {d : β} (h : (l.map f)[i]? = some d) : ∃ a, l[i]? = some a ∧ d = f a := by
  rw [List.getElem?_map] at h
  cases e : l[i]? with
  | none => rw [e] at h; cases h
  | some a => rw [e] at h; exact ⟨a, rfl, (Option.some.inj h).symm⟩
theorem fm_map {α β γ : Type} {f : α → β} {g : β → Option γ} {l : List α} : (l.map f).filterMap g = l.filterMap fun a => g (f a) := List.filterMap_map ..
/-- a list that is walked stands in a variable of its own -/
def keepAt (ko : Option Nat) (vs : List Nat) (st1 : DS) (ds : List D) : Prop := match ko with
  | none => True
  | some j => vs.contains j = false ∧ st1[j]? = some (some (.ls ds))
theorem keepAt.out {ko : Option Nat} {vs : List Nat} {st1 : DS} {ds : List D} (h : keepAt ko vs st1 ds) : ∀ j, ko = some j → j ∉ vs ∧ st1[j]? = some (some (.ls ds)) := by
  rintro j rfl
  exact ⟨by have := h.1; simpa using this, h.2⟩
theorem LC.typed {α β : Type} {enc : α → D} {out : β → D} (f : α → Option β) {l : List α} {ds : List D} {ko : Option Nat} {g : DG} {tt : DT} {te : DE} {vs : List Nat} {st1 : DS} {Q : List D → DS → Prop} (hds : ds = l.map enc) (hl : l.length ≤ 16000000)
  (hs : ∀ a ∈ l, ∀ Y N, (match f a with
    | some y => Y (out y) st1
    | none => N st1) → lcStep g tt te vs (enc a) st1 Y N) (hd : Q ((l.filterMap f).map out) st1) (hk0 : keepAt ko vs st1 ds := by first | exact True.intro | exact ⟨rfl, rfl⟩) (hp : (vs.all fun v => plainAt st1 v) = true := by rfl) : LC ds ko g tt te vs st1 Q := by
  have hk := hk0.out
  subst hds
  refine LC.inv (by rw [List.length_map]; exact hl) (fun j e => (hk j e).1) (fun i acc st => st = st1 ∧ acc = ((l.take i).filterMap f).map out) ⟨rfl, rfl⟩ ?_ ?_ ?_
  · rintro i acc st ⟨rfl, _⟩
    exact ⟨fun v hv => List.all_eq_true.mp hp v hv, fun j e => (hk j e).2⟩
  · rintro i d acc st hi hid ⟨rfl, rfl⟩
    obtain ⟨a, ha, rfl⟩ := map_get hid
    refine hs a (List.mem_of_getElem? ha) _ _ ?_
    have e : (l.take (i + 1)).filterMap f = (l.take i).filterMap f ++ (f a).toList := by
      rw [List.take_add_one, ha, List.filterMap_append]
      cases hf : f a <;> simp [hf]
    cases hf : f a with
    | none => exact ⟨rfl, by rw [e, hf]; simp⟩
    | some y => exact ⟨rfl, by rw [e, hf, List.map_append]; rfl⟩
  · rintro acc st ⟨rfl, rfl⟩
    rw [List.length_map, List.take_length]
    exact hd
/-- dicts whose keys are ints -/
def putA {α : Type} (m : List (Int × α)) (k : Int) (v : α) : List (Int × α) :=
  if (m.any fun p => decide (p.1 = k)) = true then m.map (fun p => if p.1 = k then (p.1, v) else p) else m ++ [(k, v)]
def valA {α : Type} (m : List (Int × α)) (k : Int) : Option α := (m.find? fun p => decide (p.1 = k)).map (·.2)
def dictI {α : Type} (f : α → D) (m : List (Int × α)) : List (Key × D) := m.map fun p => ((Sum.inl p.1 : Key), f p.2)
section
variable {α : Type} {f : α → D} {m : List (Int × α)} {k : Int} {v : α}
theorem dictI_any : ((dictI f m).any fun p => decide (p.1 = Sum.inl k)) = m.any fun p => decide (p.1 = k) := by
  unfold dictI
  rw [List.any_map]
  congr 1
  funext p
  show decide ((Sum.inl p.1 : Key) = Sum.inl k) = decide (p.1 = k)
  simp
theorem dictI_put : kvPut (dictI f m) (Sum.inl k) (f v) = dictI f (putA m k v) := by
  unfold kvPut putA
  rw [dictI_any]
  split
  · unfold dictI
    rw [List.map_map, List.map_map]
    refine List.map_congr_left fun p _ => ?_
    show (if (Sum.inl p.1 : Key) = Sum.inl k then ((Sum.inl p.1 : Key), f v) else (Sum.inl p.1, f p.2)) = _
    by_cases h : p.1 = k
    · simp [h]
    · simp [h]
  · unfold dictI
    rw [List.map_append]
    rfl
theorem dictI_keys : (dictI f m).map (·.1) = (m.map (·.1)).map Sum.inl := by
  unfold dictI
  rw [List.map_map, List.map_map]
  rfl
theorem dictI_vals : (dictI f m).map (·.2) = m.map fun p => f p.2 := by
  unfold dictI
  rw [List.map_map]
  rfl
theorem kv_zip {α : Type} : ∀ l : List (Key × α), (l.map (·.1)).zip (l.map (·.2)) = l
  | [] => rfl
  | p :: l => by rw [List.map_cons, List.map_cons, List.zip_cons_cons, kv_zip l]
theorem dictI_get : kvGet (((dictI f m).map (·.1)).zip ((dictI f m).map (·.2))) (Sum.inl k) = (valA m k).map f := by
  rw [kv_zip]
  unfold kvGet valA dictI
  rw [List.find?_map, Option.map_map, Option.map_map]
  have e : ((fun p : Key × D => decide (p.1 = Sum.inl k)) ∘ fun p : Int × α => ((Sum.inl p.1 : Key), f p.2)) = fun p : Int × α => decide (p.1 = k) := by
    funext p
    show decide ((Sum.inl p.1 : Key) = Sum.inl k) = decide (p.1 = k)
    simp
  rw [e]
  rfl
theorem dictI_items : itemsD ((dictI f m).map (·.1)) ((dictI f m).map (·.2)) = m.map fun p => D.tup [.int p.1, f p.2] := by
  unfold itemsD dictI
  rw [List.map_map, List.map_map, List.zipWith_map, List.zipWith_self]
  rfl
theorem putA_len : (putA m k v).length ≤ m.length + 1 := by
  unfold putA
  split <;> simp
end
end Z

/-! a set's table: laying it anew finds a place for each -/
namespace GU
open PySem PySem.Spec PyProof.Rows L2
/-! ### 5 i + 1 comes to every place -/
def stp (i : Nat) : Nat := 5 * i + 1
def itr : Nat → Nat → Nat
  | 0, i => i
  | m + 1, i => itr m (stp i)
theorem itr_add : ∀ (a b i : Nat), itr (a + b) i = itr b (itr a i)
  | 0, b, i => by rw [Nat.zero_add]; rfl
  | a + 1, b, i => by
    rw [Nat.add_right_comm]
    exact itr_add a b (stp i)
theorem itr_lin : ∀ (m i : Nat), itr m i = itr m 0 + 5 ^ m * i
  | 0, i => by simp [itr]
  | m + 1, i => by
    show itr m (stp i) = itr m (stp 0) + 5 ^ (m + 1) * i
    rw [itr_lin m (stp i), itr_lin m (stp 0)]
    unfold stp
    rw [Nat.pow_succ]
    have : 5 ^ m * (5 * i + 1) = 5 ^ m * (5 * 0 + 1) + 5 ^ m * 5 * i := by
      rw [Nat.mul_add, Nat.mul_add, Nat.mul_assoc]
      omega
    omega
/-- 5 ^ (2 ^ k) is 1, and so many steps go on by 2 ^ k, but for more -/
theorem jump : ∀ k : Nat, (∃ c, 5 ^ (2 ^ k) = 1 + 2 ^ (k + 2) * c) ∧ ∃ d, itr (2 ^ k) 0 = 2 ^ k + 2 ^ (k + 1) * d
  | 0 => ⟨⟨1, rfl⟩, ⟨0, rfl⟩⟩
  | k + 1 => by
    obtain ⟨⟨c, hc⟩, ⟨d, hd⟩⟩ := jump k
    have e : 2 ^ (k + 1) = 2 ^ k + 2 ^ k := by rw [Nat.pow_succ]; omega
    constructor
    · refine ⟨c + 2 ^ (k + 1) * c * c, ?_⟩
      rw [e, Nat.pow_add, hc, show k + 1 + 2 = (k + 2) + 1 from rfl, Nat.pow_succ 2 (k + 2)]
      have e2 : 2 ^ (k + 2) = 2 * 2 ^ (k + 1) := by rw [Nat.pow_succ]; omega
      rw [e2, ← e]
      generalize 2 ^ (k + 1) = x
      grind
    · rw [e, itr_add, itr_lin (2 ^ k) (itr (2 ^ k) 0), hc, hd]
      refine ⟨d + 2 ^ k * c + 2 ^ (k + 1) * d * c, ?_⟩
      have e2 : 2 ^ (k + 2) = 4 * 2 ^ k := by rw [Nat.pow_succ, Nat.pow_succ]; omega
      have e3 : 2 ^ (k + 1) = 2 * 2 ^ k := by rw [Nat.pow_succ]; omega
      rw [e2, e3]
      generalize 2 ^ k = x
      grind
theorem itr_mod {N : Nat} : ∀ (m i j : Nat), i % N = j % N → itr m i % N = itr m j % N
  | 0, i, j, h => h
  | m + 1, i, j, h => by
    refine itr_mod m (stp i) (stp j) ?_
    unfold stp
    rw [Nat.add_mod, Nat.mul_mod, h, ← Nat.mul_mod, ← Nat.add_mod]
theorem reach : ∀ (k i y : Nat), ∃ m, m < 2 ^ k ∧ itr m i % 2 ^ k = y % 2 ^ k
  | 0, i, y => ⟨0, by decide, by rw [Nat.pow_zero, Nat.mod_one, Nat.mod_one]⟩
  | k + 1, i, y => by
    obtain ⟨m, hm, e⟩ := reach k i y
    have e1 : 2 ^ (k + 1) = 2 * 2 ^ k := by rw [Nat.pow_succ]; omega
    have hp : 0 < 2 ^ k := Nat.pos_of_ne_zero (by simp)
    by_cases h : itr m i % 2 ^ (k + 1) = y % 2 ^ (k + 1)
    · exact ⟨m, by omega, h⟩
    · refine ⟨m + 2 ^ k, by omega, ?_⟩
      obtain ⟨⟨c, hc⟩, ⟨d, hd⟩⟩ := jump k
      rw [itr_add, itr_lin (2 ^ k) (itr m i), hc, hd]
      generalize itr m i = z at *
      have ez : 2 ^ k + 2 ^ (k + 1) * d + (1 + 2 ^ (k + 2) * c) * z = z + 2 ^ k + 2 ^ (k + 1) * (d + 2 * c * z) := by
        have e2 : 2 ^ (k + 2) = 2 * 2 ^ (k + 1) := by rw [Nat.pow_succ 2 (k + 1)]; omega
        rw [e2]
        generalize 2 ^ (k + 1) = x
        grind
      rw [ez, Nat.add_mul_mod_self_left]
      rw [e1] at h ⊢
      generalize 2 ^ k = x at *
      have a1 := Nat.mod_mul_left_mod z 2 x
      have a2 := Nat.mod_mul_left_mod y 2 x
      have b1 : z % (2 * x) < 2 * x := Nat.mod_lt _ (by omega)
      have b2 : y % (2 * x) < 2 * x := Nat.mod_lt _ (by omega)
      have c1 : (z + x) % (2 * x) = (z % (2 * x) + x) % (2 * x) := by rw [Nat.mod_add_mod]
      rw [c1]
      generalize z % (2 * x) = u at *
      generalize y % (2 * x) = v at *
      have d1 : u % x = if u < x then u else u - x := by
        split
        · exact Nat.mod_eq_of_lt (by assumption)
        · rw [Nat.mod_eq_sub_mod (by omega), Nat.mod_eq_of_lt (by omega)]
      have d2 : v % x = if v < x then v else v - x := by
        split
        · exact Nat.mod_eq_of_lt (by assumption)
        · rw [Nat.mod_eq_sub_mod (by omega), Nat.mod_eq_of_lt (by omega)]
      have d3 : (u + x) % (2 * x) = if u < x then u + x else u - x := by
        split
        · exact Nat.mod_eq_of_lt (by omega)
        · rw [Nat.mod_eq_sub_mod (by omega), Nat.mod_eq_of_lt (by omega)]
          omega
      rw [d3]
      rw [← a1, ← a2, d1, d2] at e
      split at e <;> split at e <;> split <;> omega
/-! ### a free place is found -/
def go2 (mask : Nat) : Nat → Nat → Nat → Nat
  | 0, i, _ => i
  | m + 1, i, p => go2 mask m (SetTable.leap mask i p).1 (SetTable.leap mask i p).2
theorem go2_zero {mask : Nat} : ∀ (m i : Nat), i < mask + 1 → go2 mask m i 0 = itr m i % (mask + 1)
  | 0, i, h => (Nat.mod_eq_of_lt h).symm
  | m + 1, i, h => by
    show go2 mask m ((i * 5 + 1 + 0 / 32) % (mask + 1)) (0 / 32) = itr m (stp i) % (mask + 1)
    rw [Nat.zero_div, Nat.add_zero, go2_zero m _ (Nat.mod_lt _ (Nat.succ_pos _))]
    refine itr_mod m _ _ ?_
    unfold stp
    rw [Nat.mod_mod, Nat.mul_comm]
theorem go2_add {mask : Nat} : ∀ (a b i p : Nat), ∃ i', go2 mask (a + b) i p = go2 mask b i' (p / 32 ^ a) ∧ (i < mask + 1 → i' < mask + 1)
  | 0, b, i, p => ⟨i, by rw [Nat.zero_add, Nat.pow_zero, Nat.div_one], id⟩
  | a + 1, b, i, p => by
    obtain ⟨i', e, h⟩ := go2_add (mask := mask) a b (SetTable.leap mask i p).1 (SetTable.leap mask i p).2
    refine ⟨i', ?_, fun _ => h (Nat.mod_lt _ (Nat.succ_pos _))⟩
    rw [Nat.add_right_comm]
    show go2 mask (a + b) _ _ = _
    rw [e]
    show go2 mask b i' (p / 32 / 32 ^ a) = _
    rw [Nat.div_div_eq_div_mul, Nat.pow_succ, Nat.mul_comm 32]
theorem free_of {mask : Nat} {owner : Array (Option Nat)} : ∀ (f m i p : Nat), m < f → go2 mask m i p ≤ mask → (owner.getD (go2 mask m i p) (some 0)).isNone = true →
    ∃ j, SetTable.layClean.free mask owner f i p = some j ∧ (owner.getD j (some 0)).isNone = true
  | 0, _, _, _, h, _, _ => by omega
  | f + 1, m, i, p, h, hb, e => by
    rw [SetTable.layClean.free]
    cases hf : (List.range (SetTable.runEnd mask i + 1 - i)).find? fun k => (owner.getD (i + k) (some 0)).isNone with
    | some k =>
      refine ⟨i + k, rfl, ?_⟩
      have := List.find?_some hf
      exact this
    | none =>
      cases m with
      | zero =>
        exfalso
        rw [List.find?_eq_none] at hf
        have hr : 0 < SetTable.runEnd mask i + 1 - i := by
          unfold SetTable.runEnd
          split <;> omega
        refine hf 0 (List.mem_range.mpr hr) ?_
        exact e
      | succ m => exact free_of f m _ _ (by omega) hb e
theorem bits_lt (h : Int) : SetTable.bits h < 2 ^ 64 := by
  unfold SetTable.bits
  have := Int.emod_lt_of_pos h (show (0 : Int) < 2 ^ 64 by decide)
  have := Int.emod_nonneg h (show (2 ^ 64 : Int) ≠ 0 by decide)
  omega
theorem free_at {k : Nat} {owner : Array (Option Nat)} {y : Nat} (h : Int) (hy : y < 2 ^ k) (e : (owner.getD y (some 0)).isNone = true) :
    ∃ j, SetTable.layClean.free (2 ^ k - 1) owner (SetTable.turns (2 ^ k - 1)) (SetTable.bits h % (2 ^ k - 1 + 1)) (SetTable.bits h) = some j ∧ (owner.getD j (some 0)).isNone = true := by
  have hp : 0 < 2 ^ k := Nat.pos_of_ne_zero (by simp)
  have hN : 2 ^ k - 1 + 1 = 2 ^ k := by omega
  obtain ⟨i', e1, hi'⟩ := go2_add (mask := 2 ^ k - 1) 13 0 (SetTable.bits h % (2 ^ k - 1 + 1)) (SetTable.bits h)
  have hi' := hi' (Nat.mod_lt _ (Nat.succ_pos _))
  obtain ⟨m, hm, em⟩ := reach k i' y
  have hb := bits_lt h
  have hz : SetTable.bits h / 32 ^ 13 = 0 := Nat.div_eq_of_lt (Nat.lt_trans hb (by decide))
  have eg : go2 (2 ^ k - 1) (13 + m) (SetTable.bits h % (2 ^ k - 1 + 1)) (SetTable.bits h) = y := by
    have : ∀ (a b i p : Nat), go2 (2 ^ k - 1) (a + b) i p = go2 (2 ^ k - 1) b (go2 (2 ^ k - 1) a i p) (p / 32 ^ a) := by
      intro a
      induction a with
      | zero =>
        intro b i p
        rw [Nat.zero_add, Nat.pow_zero, Nat.div_one]
        rfl
      | succ a ih =>
        intro b i p
        rw [Nat.add_right_comm]
        show go2 _ (a + b) _ _ = _
        rw [ih]
        show go2 (2 ^ k - 1) b _ (p / 32 / 32 ^ a) = _
        rw [Nat.div_div_eq_div_mul, Nat.pow_succ, Nat.mul_comm 32]
        rfl
    have e2 : go2 (2 ^ k - 1) 13 (SetTable.bits h % (2 ^ k - 1 + 1)) (SetTable.bits h) = i' := by
      have := e1
      rw [Nat.add_zero] at this
      exact this
    rw [this 13 m, e2, hz, go2_zero m i' hi', hN, em, Nat.mod_eq_of_lt hy]
  refine free_of _ (13 + m) _ _ ?_ (by rw [eg]; omega) (by rw [eg]; exact e)
  unfold SetTable.turns
  omega
/-! ### all are laid -/
theorem none_there {o : List (Option Nat)} {n : Nat} (h : (o.filterMap id).length = n) (hn : n < o.length) : ∃ y, y < o.length ∧ o[y]? = some none := by
  have : none ∈ o := by
    refine Classical.byContradiction fun hc => ?_
    have : (o.filterMap id).length = o.length := by
      clear h hn
      induction o with
      | nil => rfl
      | cons a o ih =>
        cases a with
        | none => exact absurd (List.mem_cons_self ..) hc
        | some a =>
          rw [List.filterMap_cons]
          show (_ :: o.filterMap id).length = _
          rw [List.length_cons, List.length_cons, ih fun z => hc (List.mem_cons_of_mem _ z)]
    omega
  obtain ⟨y, hy⟩ := List.mem_iff_getElem?.mp this
  exact ⟨y, (List.getElem?_eq_some_iff.mp hy).1, hy⟩
theorem fill_perm : ∀ {o : List (Option Nat)} {j k : Nat}, o[j]? = some none → ((o.set j (some k)).filterMap id).Perm (k :: o.filterMap id)
  | [], _, _, h => by simp at h
  | a :: o, 0, k, h => by
    cases h
    exact List.Perm.refl _
  | a :: o, j + 1, k, h => by
    have := fill_perm (o := o) (j := j) (k := k) (by simpa using h)
    rw [List.set_cons_succ]
    cases a with
    | none => exact this
    | some a => exact (List.Perm.cons a this).trans (.swap _ _ _)
def layStep (mask : Nat) (acc : Option (Array (Option Nat) × Nat)) (h : Int) : Option (Array (Option Nat) × Nat) := do
    let (owner, k) ← acc
    let j ← SetTable.layClean.free mask owner (SetTable.turns mask) (SetTable.bits h % (mask + 1)) (SetTable.bits h)
    pure (owner.setIfInBounds j (some k), k + 1)
theorem lay_go {k : Nat} : ∀ (hs : List Int) (owner : Array (Option Nat)) (n : Nat), owner.size = 2 ^ k → (owner.toList.filterMap id).Perm (List.range n) → n + hs.length < 2 ^ k →
    ∃ owner', hs.foldl (layStep (2 ^ k - 1)) (some (owner, n)) = some (owner', n + hs.length) ∧ owner'.size = 2 ^ k ∧ (owner'.toList.filterMap id).Perm (List.range (n + hs.length))
  | [], owner, n, h1, h2, _ => ⟨owner, rfl, h1, h2⟩
  | h :: hs, owner, n, h1, h2, hb => by
    rw [List.length_cons] at hb
    obtain ⟨y, hy, ey⟩ := none_there (o := owner.toList) (n := n) (by rw [h2.length_eq, List.length_range]) (by rw [Array.length_toList, h1]; omega)
    rw [Array.length_toList, h1] at hy
    have e0 : (owner.getD y (some 0)).isNone = true := by
      rw [Array.getElem?_toList] at ey
      rw [Array.getD_eq_getD_getElem?, ey]
      rfl
    obtain ⟨j, ej, nj⟩ := free_at (k := k) (owner := owner) h hy e0
    have hj : owner.toList[j]? = some none := by
      rw [Array.getD_eq_getD_getElem?] at nj
      rw [Array.getElem?_toList]
      cases e : owner[j]? with
      | none => rw [e] at nj; cases nj
      | some z =>
        rw [e] at nj
        cases z with
        | none => rfl
        | some z => cases nj
    have es : layStep (2 ^ k - 1) (some (owner, n)) h = some (owner.setIfInBounds j (some n), n + 1) := by
      show (do
        let j ← SetTable.layClean.free (2 ^ k - 1) owner (SetTable.turns (2 ^ k - 1)) (SetTable.bits h % (2 ^ k - 1 + 1)) (SetTable.bits h)
        pure (owner.setIfInBounds j (some n), n + 1) : Option (Array (Option Nat) × Nat)) = _
      rw [ej]
      rfl
    have pm : ((owner.setIfInBounds j (some n)).toList.filterMap id).Perm (List.range (n + 1)) := by
      rw [Array.toList_setIfInBounds, List.range_succ]
      refine (fill_perm hj).trans ?_
      exact (List.Perm.cons n h2).trans (List.perm_append_singleton n _).symm
    obtain ⟨owner', a, b, c⟩ := lay_go hs (owner.setIfInBounds j (some n)) (n + 1) (by rw [Array.size_setIfInBounds, h1]) pm (by omega)
    refine ⟨owner', ?_, b, ?_⟩
    · rw [List.foldl_cons, es, a, List.length_cons]
      congr 2
      omega
    · rw [List.length_cons, show n + (hs.length + 1) = n + 1 + hs.length by omega]
      exact c
theorem lay_clean {k : Nat} (hs : Array Int) (hb : hs.size < 2 ^ k) : ∃ owner, SetTable.layClean (2 ^ k - 1) hs = some owner ∧ owner.size = 2 ^ k ∧ (owner.toList.filterMap id).Perm (List.range hs.size) := by
  have hp : 0 < 2 ^ k := Nat.pos_of_ne_zero (by simp)
  obtain ⟨owner, a, b, c⟩ := lay_go (k := k) hs.toList (Array.replicate (2 ^ k - 1 + 1) none) 0 (by rw [Array.size_replicate]; omega) (by
    rw [Array.toList_replicate]
    have : ∀ n, (List.replicate n (none : Option Nat)).filterMap id = [] := by
      intro n
      induction n with
      | zero => rfl
      | succ n ih => rw [List.replicate_succ]; exact ih
    rw [this]
    exact List.Perm.refl _) (by rw [Nat.zero_add, Array.length_toList]; exact hb)
  refine ⟨owner, ?_, b, by rw [Nat.zero_add, Array.length_toList] at c; exact c⟩
  have : SetTable.layClean (2 ^ k - 1) hs = (hs.foldl (init := some (Array.replicate (2 ^ k - 1 + 1) none, 0)) (layStep (2 ^ k - 1))).map (·.1) := rfl
  rw [this, ← Array.foldl_toList, a]
  rfl
theorem live_snd (owner : Array (Option Nat)) {N : Nat} (h : owner.size = N) : ((List.range N).filterMap fun j => (owner.getD j none).map (j, ·)).map (·.2) = owner.toList.filterMap id := by
  subst h
  rw [List.map_filterMap]
  have : owner.toList = (List.range owner.size).map fun j => owner.getD j none := by
    apply List.ext_getElem?
    intro i
    by_cases hi : i < owner.size
    · rw [List.getElem?_map, List.getElem?_range hi, Array.getElem?_toList, Array.getElem?_eq_getElem hi]
      simp [Array.getD_eq_getD_getElem?, hi]
    · rw [List.getElem?_eq_none (by simp; omega), List.getElem?_eq_none (by simp; omega)]
  conv => rhs; rw [this]
  rw [List.filterMap_map]
  congr 1
  funext j
  show Option.map (·.2) ((owner.getD j none).map (j, ·)) = id (owner.getD j none)
  cases owner.getD j none <;> rfl
theorem laid_ok {k : Nat} (finger moves : Nat) (led plain : Bool) (hs : Array Int) (hb : hs.size < 2 ^ k) :
    ∃ t order, SetTable.laid (2 ^ k - 1) finger moves led plain hs = some (t, order) ∧ order.toList.Perm (List.range hs.size) ∧ t.fits hs.size = true ∧ Ris t.place.toList ∧ t.led = led ∧ t.dummies = #[] ∧ t.mask = 2 ^ k - 1 := by
  have hp : 0 < 2 ^ k := Nat.pos_of_ne_zero (by simp)
  obtain ⟨owner, a, b, c⟩ := lay_clean hs hb
  have hs1 := live_snd owner (N := 2 ^ k - 1 + 1) (by omega)
  refine ⟨_, _, by unfold SetTable.laid; rw [a]; rfl, ?_, ?_, ?_, rfl, rfl, rfl⟩
  · dsimp only
    rw [hs1]
    exact c
  · have l1 : (List.map (·.1) ((List.range (2 ^ k - 1 + 1)).filterMap fun j => (owner.getD j none).map (j, ·))).length = hs.size := by
      rw [List.length_map, ← List.length_map (f := (·.2)), hs1, c.length_eq, List.length_range]
    show (Array.size (List.toArray _) == hs.size && decide (Array.size (List.toArray _) + 0 ≤ 2 ^ k - 1)) = true
    rw [List.size_toArray, l1]
    simp
    omega
  · show Ris (List.toArray _).toList
    rw [List.toList_toArray]
    unfold Ris
    rw [List.pairwise_map, List.pairwise_filterMap]
    refine List.pairwise_lt_range.imp fun {i j} h x hx y hy => ?_
    have hx : (owner.getD i none).map (i, ·) = some x := hx
    have hy : (owner.getD j none).map (j, ·) = some y := hy
    rw [Option.map_eq_some_iff] at hx hy
    obtain ⟨_, _, rfl⟩ := hx
    obtain ⟨_, _, rfl⟩ := hy
    exact h
end GU

/-! sets put together -/
namespace GU
open PySem PySem.Spec PyProof.Rows L2
theorem above_go : ∀ (f j n : Nat), n < 2 ^ (j + f) → ∃ k, SetTable.sizeAbove.go n f (2 ^ j) = 2 ^ k ∧ n < 2 ^ k ∧ (k = j ∨ 2 ^ k ≤ 2 * n)
  | 0, j, n, h => ⟨j, rfl, h, .inl rfl⟩
  | f + 1, j, n, h => by
    rw [SetTable.sizeAbove.go]
    by_cases hn : 2 ^ j ≤ n
    · rw [if_pos hn, ← Nat.pow_succ]
      obtain ⟨k, a, b, c⟩ := above_go f (j + 1) n (by rw [Nat.add_right_comm]; exact h)
      refine ⟨k, a, b, .inr ?_⟩
      rcases c with rfl | c
      · rw [Nat.pow_succ]; omega
      · exact c
    · rw [if_neg hn]
      exact ⟨j, rfl, by omega, .inl rfl⟩
theorem above {n : Nat} (h : n < 2 ^ 20) : ∃ k, SetTable.sizeAbove n = 2 ^ k ∧ n < 2 ^ k ∧ 2 ^ k ≤ sizeLine := by
  obtain ⟨k, a, b, c⟩ := above_go 64 3 n (Nat.lt_trans h (by decide))
  refine ⟨k, a, b, ?_⟩
  rw [sizeLine_eq]
  rcases c with rfl | c <;> omega
section
variable {P : Program} {w : World} {A : Around} {E : Value → Shared → Prop} {s : Shared} {a b : Addr} {S S' : Int → Bool} {n m : Nat}
theorem range_get {α : Type} : ∀ l : List α, (List.range l.length).filterMap (l[·]?) = l
  | [] => rfl
  | x :: l => by
    rw [List.length_cons, List.range_succ_eq_map, List.filterMap_cons, List.filterMap_map]
    show x :: List.filterMap (fun i => (x :: l)[i + 1]?) (List.range l.length) = x :: l
    congr 1
    exact range_get l
theorem order_perm {α : Type} {es : Array α} {order : Array Nat} (h : order.toList.Perm (List.range es.size)) : (order.filterMap (es[·]?)).toList.Perm es.toList := by
  rw [Array.toList_filterMap]
  refine (h.filterMap _).trans ?_
  have := range_get es.toList
  rw [Array.length_toList] at this
  have e : (fun x : Nat => es[x]?) = fun x : Nat => es.toList[x]? := by
    funext x
    rw [Array.getElem?_toList]
  rw [e, this]
theorem relay_eq (a : Addr) (wanted : Nat) : setRelay a wanted = (do
  let (es, _, t) ← setState a
  if SetTable.sizeAbove wanted > sizeLine then unsupported "set:memory"
  let (es, t) ← (do
    let some (t, order) := t.relaid (es.map (·.1)) wanted | unsupported "internal:set-table-without-room"
    let es' := order.filterMap (es[·]?)
    if es'.size != es.size then unsupported "internal:set-table-lost-an-element"
    pure (es', t))
  storeSet a es t) := rfl
theorem setR_relay {wanted : Nat} {Q : Unit → Shared → Prop} (R : SetR w s.heap a S n) (hw : wanted < 2 ^ 20) (hn : n ≤ wanted)
    (h : ∀ h', Heap.SameBut a s.heap h' → SetR w h' a S n → (∀ o es ep t, h'.get? a = some o → o.data = .set es ep t → ∃ k, t.mask = 2 ^ k - 1 ∧ wanted < 2 ^ k) → Q () { s with heap := h' }) : wpAny (model P w) A (setRelay a wanted) Q E s := by
  obtain ⟨o, es, ep, t, ho, hex, hd, g, nd, hm, hb, hf, hsz, hr, hl⟩ := R
  obtain ⟨k, e1, e2, e3⟩ := above hw
  rw [relay_eq]
  refine wpAny_bind (wpAny_setState_of ho hd hf ?_)
  dsimp only
  refine wp_if_neg (by omega) ?_
  try refine wpAny_bind (wpAny_pure ?_)
  obtain ⟨t', order, q1, q2, q3, q4, q5, q6, q7⟩ := laid_ok (k := k) t.finger (t.movedTo (2 ^ k - 1)) t.led t.plain (es.map (·.1)) (by rw [Array.size_map, hsz]; omega)
  rw [Array.size_map] at q2 q3
  have er : t.relaid (es.map (·.1)) wanted = some (t', order) := by
    unfold SetTable.relaid
    rw [e1]
    exact q1
  rw [er]
  have pm := order_perm (es := es) q2
  have hs2 : (order.filterMap (es[·]?)).size = es.size := by rw [← Array.length_toList, pm.length_eq, Array.length_toList]
  dsimp only
  refine wpAny_bind (wp_if_neg (by simp [hs2]) (wpAny_pure ?_))
  dsimp only
  refine wpAny_storeSet_of ho hd ?_ (fits_of_scanBound (by rw [hs2]; exact hb))
  have ho1 := store_at (es' := order.filterMap (es[·]?)) (t' := t') ho hd
  refine h _ (Heap.SameBut.update _ a _) ?_ fun o1 es1 ep1 t1 g1 g2 => ?_
  rotate_left
  · rw [ho1] at g1
    cases g1
    cases g2
    exact ⟨k, q7, e2⟩
  exact ⟨_, _, _, t', ho1, hex, rfl, fun e he => g e (pm.mem_iff.mp he), (pm.map keyOf).nodup_iff.mpr nd, fun k => (hm k).trans (pm.map keyOf).mem_iff.symm, by rw [hs2]; exact hb, by rw [hs2]; exact q3, by rw [hs2]; exact hsz, q4, hl.imp id fun z => by rw [q5]; exact z⟩
/-- an empty table's mask is a power's -/
def Emp (h : Heap) (a : Addr) (m : Nat) : Prop := ∀ o es ep t, h.get? a = some o → o.data = .set es ep t → t.fill = 0 → ∃ k, t.mask = 2 ^ k - 1 ∧ m < 2 ^ k
theorem setR_room {more : Nat} {Q : Unit → Shared → Prop} (R : SetR w s.heap a S n) (hE : Emp s.heap a 0) (hw : more < 2 ^ 16)
    (h : ∀ h', Heap.SameBut a s.heap h' → SetR w h' a S n → Emp h' a more → Q () { s with heap := h' }) : wpAny (model P w) A (setRoomFor a more) Q E s := by
  have R0 := R
  obtain ⟨o, es, ep, t, ho, hex, hd, g, nd, hm, hb, hf, hsz, hr, hl⟩ := R
  unfold setRoomFor
  refine wpAny_bind (wpAny_setState_of ho hd hf ?_)
  dsimp only
  have hp : t.place.size = n := by
    simp only [SetTable.fits, Bool.and_eq_true, beq_iff_eq, decide_eq_true_eq] at hf
    omega
  have hb : es.size < 4096 := hb
  cases e : t.roomFor more with
  | none =>
    refine wpAny_pure (h s.heap (Heap.SameBut.refl a s.heap) R0 fun o1 es1 ep1 t1 g1 g2 g3 => ?_)
    rw [ho] at g1
    cases g1
    rw [hd] at g2
    cases g2
    obtain ⟨k, e1, e2⟩ := hE o es ep t ho hd g3
    refine ⟨k, e1, ?_⟩
    unfold SetTable.roomFor at e
    split at e
    · cases e
    · omega
  | some wanted =>
    unfold SetTable.roomFor at e
    split at e
    · cases e
      refine setR_relay R0 (by omega) (by omega) fun h' sb r m => h h' sb r fun o1 es1 ep1 t1 g1 g2 _ => ?_
      obtain ⟨k, e1, e2⟩ := m o1 es1 ep1 t1 g1 g2
      exact ⟨k, e1, by omega⟩
    · cases e
/-! ### one set into another -/
theorem setR_tab {o : Obj} {es es0 : Array (Int × Value)} {ep : Nat} {t t' : SetTable} (ho : s.heap.get? a = some o) (hex : o.ExactSet) (hd : o.data = .set es0 ep t) (g : ∀ e ∈ es.toList, GoodE e) (nd : (es.toList.map keyOf).Nodup)
    (hm : ∀ k, S k = true ↔ k ∈ es.toList.map keyOf) (hb : es.size < scanBound) (hf : t'.fits es.size = true) (hr : Ris t'.place.toList) (hl : w.params.followText "set-order" = true ∨ t'.led = true) :
    SetR w (s.heap.update a (Obj.putSet es t')) a S es.size :=
  ⟨_, es, _, t', store_at ho hd, hex, rfl, g, nd, hm, hb, hf, rfl, hr, hl⟩
theorem quiet_ints {sets : List Addr} {Q : Bool → Shared → Prop} (hs : ∀ a ∈ sets, ∃ S n, SetR w s.heap a S n) (h : Q true s) : wpAny (model P w) A (setsQuiet sets) Q E s := by
  unfold setsQuiet
  refine wpAny_bind (wpAny_forIn_list _ (fun rest b s' => b = (none, ()) ∧ s' = s ∧ ∀ a ∈ rest, ∃ S n, SetR w s.heap a S n) _ ?_ ?_ _ _ ⟨rfl, rfl, hs⟩)
  · rintro x rest b s' ⟨rfl, rfl, hx⟩
    obtain ⟨S, n, o, es, ep, t, ho, hex, hd, g, nd, hm, hb, hf, hsz, hr, hl⟩ := hx x (List.mem_cons_self ..)
    unfold setEntries
    refine wpAny_bind (wpAny_bind (wpAny_setState_of ho hd hf (wpAny_pure ?_)))
    refine wpAny_bind (wpAny_forIn_array' _ (fun rest b s1 => b = (none, ()) ∧ s1 = s' ∧ ∀ e ∈ rest, GoodE e) _ ?_ ?_ _ _ ⟨rfl, rfl, g⟩)
    · rintro ⟨z, y⟩ rest b s1 ⟨rfl, rfl, hg⟩
      obtain ⟨k, tk, e1, e2⟩ := hg _ (List.mem_cons_self ..)
      dsimp only at e1
      subst e1
      exact wpAny_pure ⟨rfl, rfl, fun e he => hg e (List.mem_cons_of_mem _ he)⟩
    · rintro b s1 ⟨rfl, rfl, _⟩
      exact wpAny_pure ⟨rfl, rfl, fun a ha => hx a (List.mem_cons_of_mem _ ha)⟩
  · rintro b s' ⟨rfl, rfl, _⟩
    exact wpAny_pure h
theorem walk_set {o : Obj} {es : Array (Int × Value)} {ep : Nat} {t : SetTable} {Q : Array (Int × Value) → Shared → Prop} (ho : s.heap.get? a = some o) (hd : o.data = .set es ep t) (hf : t.fits es.size = true)
    (hl : w.params.followText "set-order" = true ∨ t.led = true) (h : ∀ es' d, es'.toList.Perm es.toList → Q es' { s with drawn := d }) : wpAny (model P w) A (setWalk a) Q E s := by
  unfold setWalk
  refine wpAny_bind (wpAny_setState_of ho hd hf ?_)
  dsimp only
  refine wpAny_bind (wpAny_byText ?_)
  by_cases hbt : w.params.followText "set-order" = true
  · refine wp_if_pos hbt ?_
    exact wpAny_bind (wpAny_askSetting (wpAny_pure (h _ s.drawn (pick_perm _ es))))
  · have hl := hl.resolve_left hbt
    refine wp_if_neg hbt ?_
    try refine wpAny_bind (wpAny_pure ?_)
    by_cases c : (!t.plain && decide (es.size > 1)) = true
    · refine wp_if_pos c ?_
      refine wpAny_bind (drawOrder_at _ _ _ _ (by simp) fun ys d hp => ?_)
      exact wpAny_pure (h _ d (by first | (rw [List.toList_toArray]; exact hp) | exact hp))
    · refine wp_if_neg c ?_
      try refine wpAny_bind (wpAny_pure ?_)
      refine wpAny_bind (wpAny_of_eq (a := ()) ?_ ?_)
      · show (if (!t.led && decide (es.size > 1)) = true then unsupported "set:maker-not-led" else pure ()) = pure ()
        rw [hl] <;> rfl
      · exact wpAny_pure (h es s.drawn (List.Perm.refl _))
theorem unseen_set {o : Obj} {es : Array (Int × Value)} {ep : Nat} {t : SetTable} {Q : Array (Int × Value) → Shared → Prop} (hab : a ≠ b) (ho : s.heap.get? b = some o) (hex : o.ExactSet) (hd : o.data = .set es ep t) (hf : t.fits es.size = true)
    (hl : w.params.followText "set-order" = true ∨ t.led = true) (R1 : SetR w s.heap b S' m) (R : SetR w s.heap a S n)
    (h : ∀ es' d h', es'.toList.Perm es.toList → Heap.SameBut a s.heap h' → SetR w h' a S n → Q es' { s with heap := h', drawn := d }) : wpAny (model P w) A (setWalkUnseen b [a] (some a)) Q E s := by
  have hw : wpAny (model P w) A (setWalk b) Q E s := walk_set ho hd hf hl fun es' d p => h es' d s.heap p (Heap.SameBut.refl a _) R
  unfold setWalkUnseen
  refine wpAny_bind (wpAny_setState_of ho hd hf ?_)
  dsimp only
  refine wpAny_bind (wpAny_byText ?_)
  by_cases c : (w.params.followText "set-order" || (t.led && t.plain) || decide (es.size ≤ 1)) = true
  · refine wp_if_pos c ?_
    exact hw
  · refine wp_if_neg c ?_
    try refine wpAny_bind (wpAny_pure ?_)
    refine wpAny_bind (quiet_ints (fun z hz => ?_) ?_)
    · rcases List.mem_cons.mp hz with rfl | hz
      · exact ⟨_, _, R1⟩
      · have : z = a := by simpa using hz
        subst this
        exact ⟨_, _, R⟩
    refine wp_if_neg (by simp) ?_
    try refine wpAny_bind (wpAny_pure ?_)
    refine wpAny_bind (wpAny_rule ?_)
    obtain ⟨o1, es1, ep1, t1, ho1, hex1, hd1, g1, nd1, hm1, hb1, hf1, hsz1, hr1, hl1⟩ := R
    have hnt : ¬ w.params.followText "set-order" = true := fun z => c (by rw [z]; rfl)
    have hl := hl.resolve_left hnt
    have hl1' := hl1.resolve_left hnt
    refine wpAny_bind (wpAny_setState_of ho1 hd1 hf1 ?_)
    dsimp only
    split
    · refine wpAny_bind (wpAny_storeSet_of ho1 hd1 ?_ (fits_of_scanBound hb1))
      refine wpAny_pure (h es s.drawn _ (List.Perm.refl _) (Heap.SameBut.update _ a _) ?_)
      rw [← hsz1]
      exact setR_tab ho1 hex1 hd1 g1 nd1 hm1 hb1 hf1 hr1 (.inr (by show (t1.led && t.led) = true; rw [hl, hl1']; rfl))
    · exact wpAny_pure (h es s.drawn s.heap (List.Perm.refl _) (Heap.SameBut.refl a _) ⟨o1, es1, ep1, t1, ho1, hex1, hd1, g1, nd1, hm1, hb1, hf1, hsz1, hr1, hl1⟩)
theorem pos_of {k : Int} (R : SetR w s.heap a S n) (h : S k = true) : 0 < n := by
  obtain ⟨o, es, ep, t, ho, hex, hd, g, nd, hm, hb, hf, hsz, hr, hl⟩ := R
  have := List.length_pos_of_mem ((hm k).mp h)
  rw [List.length_map, Array.length_toList] at this
  omega
theorem emp_pos {h : Heap} {j : Nat} (R : SetR w h a S n) (hn : 0 < n) : Emp h a j := fun o1 es1 ep1 t1 g1 g2 g3 => by
  obtain ⟨o, es, ep, t, ho, hex, hd, g, nd, hm, hb, hf, hsz, hr, hl⟩ := R
  rw [ho] at g1
  cases g1
  rw [hd] at g2
  cases g2
  simp only [SetTable.fits, Bool.and_eq_true, beq_iff_eq, decide_eq_true_eq] at hf
  unfold SetTable.fill at g3
  omega
theorem add_good {e : Int × Value} {Q : Bool → Shared → Prop} (g : GoodE e) (R : SetR w s.heap a S n) (room : n + 1 < scanBound)
    (hQ : ∀ h', Heap.SameBut a s.heap h' → SetR w h' a (fun j => S j || decide (j = keyOf e)) (if S (keyOf e) = true then n else n + 1) → Q (!S (keyOf e)) { s with heap := h' }) : wpAny (model P w) A (setAddHashed a e.2 e.1) Q E s := by
  obtain ⟨k, tk, e1, e2⟩ := g
  obtain ⟨z, x⟩ := e
  dsimp only at e1 e2
  subst e1 e2
  exact setR_add_hashed (P := P) (tk := tk) R room hQ
theorem merge_set {each : Sem Unit} {Q : Unit → Shared → Prop} (hab : a ≠ b) (R : SetR w s.heap a S n) (hE : Emp s.heap a 0) (R1 : SetR w s.heap b S' m) (hroom : n + m + 1 < scanBound)
    (heach : ∀ (s' : Shared) (Q' : Unit → Shared → Prop), (∀ o, s.heap.get? b = some o → s'.heap.get? b = some o) → Q' () s' → wpAny (model P w) A each Q' E s')
    (h : ∀ h' d c, Heap.SameBut a s.heap h' → SetR w h' a (fun j => S j || S' j) c → c ≤ n + m → Emp h' a 0 → Q () { s with heap := h', drawn := d }) : wpAny (model P w) A (setMerge a b each) Q E s := by
  have R10 := R1
  obtain ⟨o1, eo, ep1, to, ho1, hex1, hd1, g1, nd1, hm1, hb1, hf1, hsz1, hr1, hl1⟩ := R1
  have hb : n + m + 1 < 4096 := hroom
  unfold setMerge
  refine wp_if_neg (by simpa using hab) ?_
  try refine wpAny_bind (wpAny_pure ?_)
  refine wpAny_bind (wpAny_setState_of ho1 hd1 hf1 ?_)
  dsimp only
  by_cases hemp : eo.isEmpty = true
  · refine wp_if_pos hemp ?_
    have e0 : eo = #[] := by simpa using hemp
    refine wpAny_pure (h s.heap s.drawn n (Heap.SameBut.refl a _) (R.congr fun k => ?_) (by omega) hE)
    have : S' k = false := by
      cases e : S' k with
      | false => rfl
      | true =>
        have := (hm1 k).mp e
        rw [e0] at this
        simp at this
    rw [this, Bool.or_false]
  · refine wp_if_neg hemp ?_
    try refine wpAny_bind (wpAny_pure ?_)
    have hpos : 0 < eo.size := by
      rcases Nat.eq_zero_or_pos eo.size with z | z
      · exact absurd (by simpa using z) hemp
      · exact z
    obtain ⟨e0, he0⟩ : ∃ e, e ∈ eo.toList := ⟨eo[0], by simp⟩
    have hS0 : S' (keyOf e0) = true := (hm1 _).mpr (List.mem_map.mpr ⟨e0, he0, rfl⟩)
    refine wpAny_bind (setR_room R hE (by omega) fun h2 sb2 R2 E2 => ?_)
    have ho2 : h2.get? b = some o1 := (sb2.2 b hab.symm).trans ho1
    have fin : ∀ h' d c, Heap.SameBut a h2 h' → SetR w h' a (fun j => S j || S' j) c → c ≤ n + m → Q () { s with heap := h', drawn := d } := fun h' d c sb r hc =>
      h h' d c (sb2.trans sb) r hc (emp_pos r (pos_of (s := { s with heap := h' }) (k := keyOf e0) r (by rw [hS0, Bool.or_true])))
    have R20 := R2
    obtain ⟨o, es, ep, t, ho, hex, hd, g, nd, hm, hbb, hf, hsz, hr, hl⟩ := R2
    refine wpAny_bind (wpAny_setState_of (s := { s with heap := h2 }) ho hd hf ?_)
    dsimp only
    have noneS : t.fill = 0 → ∀ k, (S k || S' k) = true ↔ k ∈ eo.toList.map keyOf := fun hz k => by
      have : es.size = 0 := by
        simp only [SetTable.fits, Bool.and_eq_true, beq_iff_eq, decide_eq_true_eq] at hf
        unfold SetTable.fill at hz
        omega
      have e : es = #[] := Array.eq_empty_of_size_eq_zero this
      have : S k = false := by
        cases e2 : S k with
        | false => rfl
        | true =>
          have := (hm k).mp e2
          rw [e] at this
          simp at this
      rw [this, Bool.false_or]
      exact hm1 k
    cases hroad : t.road to with
    | slotForSlot =>
      dsimp only
      have hz : t.fill = 0 := by
        unfold SetTable.road at hroad
        split at hroad
        · cases hroad
        · rename_i hh; simpa using hh
      refine wpAny_storeSet_of (s := { s with heap := h2 }) ho hd ?_ (fits_of_scanBound hb1)
      refine fin _ s.drawn eo.size (Heap.SameBut.update _ a _) (setR_tab (s := { s with heap := h2 }) ho hex hd g1 nd1 (noneS hz) hb1 ?_ hr1 ?_) (by omega)
      · exact hf1
      · rcases hl with z | z
        · exact .inl z
        · rcases hl1 with z1 | z1
          · exact .inl z1
          · exact .inr (by show (t.led && to.led) = true; rw [z, z1]; rfl)
    | clean =>
      dsimp only
      have hz : t.fill = 0 := by
        unfold SetTable.road at hroad
        split at hroad
        · cases hroad
        · rename_i hh; simpa using hh
      obtain ⟨k, ek, hk⟩ := E2 o es ep t ho hd hz
      obtain ⟨t', order, q1, q2, q3, q4, q5, q6, q7⟩ := laid_ok (k := k) t.finger t.moves (t.led && to.led) (t.plain && to.plain) (eo.map (·.1)) (by rw [Array.size_map]; exact hk)
      rw [Array.size_map] at q2 q3
      rw [ek, q1]
      have pm := order_perm (es := eo) q2
      have hs2 : (order.filterMap (eo[·]?)).size = eo.size := by rw [← Array.length_toList, pm.length_eq, Array.length_toList]
      try dsimp only
      refine wpAny_bind (wp_if_neg (by simp [hs2]) (wpAny_pure ?_))
      dsimp only
      refine wpAny_storeSet_of (s := { s with heap := h2 }) ho hd ?_ (fits_of_scanBound (by rw [hs2]; exact hb1))
      refine fin _ s.drawn _ (Heap.SameBut.update _ a _) (setR_tab (s := { s with heap := h2 }) ho hex hd (fun e he => g1 e (pm.mem_iff.mp he)) ((pm.map keyOf).nodup_iff.mpr nd1) (fun k => (noneS hz k).trans (pm.map keyOf).mem_iff.symm) (by rw [hs2]; exact hb1) (by rw [hs2]; exact q3) q4 ?_) (by rw [hs2]; omega)
      rcases hl with z | z
      · exact .inl z
      · rcases hl1 with z1 | z1
        · exact .inl z1
        · exact .inr (by rw [q5, z, z1]; rfl)
    | oneByOne =>
      dsimp only
      refine wpAny_bind (unseen_set (s := { s with heap := h2 }) hab ho2 hex1 hd1 hf1 hl1 ⟨o1, eo, ep1, to, ho2, hex1, hd1, g1, nd1, hm1, hb1, hf1, hsz1, hr1, hl1⟩ R20 fun es' d h3 pm sb3 R3 => ?_)
      refine wpAny_bind (wpAny_forIn_array' _ (fun rest _ s' => ∃ h' done c, s' = { s with heap := h', drawn := d } ∧ es'.toList = done ++ rest ∧ Heap.SameBut a h2 h' ∧ SetR w h' a (fun j => S j || decide (j ∈ done.map keyOf)) c ∧ c ≤ n + done.length) _ ?_ ?_ _ _
        ⟨h3, [], n, rfl, rfl, sb3, R3.congr fun k => by simp, by simp⟩)
      · rintro ⟨z, x⟩ rest b' s' ⟨h', done, c, rfl, e1, sb, r, hc⟩
        have hlen : es'.toList.length = eo.size := by rw [pm.length_eq, Array.length_toList]
        rw [e1, List.length_append, List.length_cons] at hlen
        have gx : GoodE (z, x) := g1 _ (pm.mem_iff.mp (by rw [e1]; simp))
        refine wpAny_bind (wpAny_holding (add_good (s := { s with heap := h', drawn := d }) gx r (by show _ < 4096; omega) fun h4 sb4 r4 => ?_))
        have sb5 := sb.trans sb4
        have ho4 : h4.get? b = some o1 := (sb5.2 b hab.symm).trans ho2
        refine wpAny_bind (heach _ _ (fun u e => by rw [ho1] at e; cases e; exact ho4) ?_)
        refine wpAny_bind (wpAny_setState_of (s := { s with heap := h4, drawn := d }) ho4 hd1 hf1 ?_)
        dsimp only
        refine wp_if_neg (by simp) ?_
        try refine wpAny_bind (wpAny_pure ?_)
        refine wpAny_pure ⟨h4, done ++ [(z, x)], _, rfl, by rw [e1]; simp, sb5, r4.congr fun k => ?_, ?_⟩
        · rw [Bool.eq_iff_iff]
          simp
          exact ⟨fun q => by rcases q with q | q | q; exact .inl (.inl q); exact .inl (.inr q); exact .inr q, fun q => by rcases q with (q | q) | q; exact .inl q; exact .inr (.inl q); exact .inr (.inr q)⟩
        · rw [List.length_append, List.length_singleton]
          split <;> omega
      · rintro b' s' ⟨h', done, c, rfl, e1, sb, r, hc⟩
        rw [List.append_nil] at e1
        have hlen : es'.toList.length = eo.size := by rw [pm.length_eq, Array.length_toList]
        rw [e1] at hlen
        refine wpAny_pure (fin h' d c sb (r.congr fun k => ?_) (by omega))
        rw [Bool.eq_iff_iff, Bool.or_eq_true, Bool.or_eq_true, hm1 k, ← (pm.map keyOf).mem_iff, e1]
        simp
end
end GU

/-! set(d), s | t -/
namespace GU
open PySem PySem.Spec PyProof.Rows L2 GS
section
variable {P : Program} {w : World} {A : Around} {E : Value → Shared → Prop} {s : Shared} {a b d : Addr} {S S' : Int → Bool} {n m : Nat}
theorem slot_set_or : Slot "set" (dunder "or") "set.__or__" :=
  .of (owner := "set") (n := "__or__") (by rw [typeLookup_type, builtinLookup_eq_fast]; kernel_rfl) (by decide +kernel) (by decide +kernel) (by decide +kernel)
    (by first | exact .inl (by decide +kernel) | exact .inr (by decide +kernel)) (by rw [isSubtype_type]; kernel_rfl)
theorem fills_set_or : fillsNumberSlot (.type "set") "or" = pure true :=
  fillsNumberSlot_of (id := "set.__or__") (r := some (.builtin "set.__ror__")) (by rw [typeLookup_type, builtinLookup_eq_fast]; kernel_rfl) (by decide +kernel) (by rw [typeLookup_type, builtinLookup_eq_fast]; kernel_rfl)
theorem entry_set_or : entryFor table "set.__or__" = some Builtin.«frozenset.__or__» := entryFor_alias (id' := "frozenset.__or__") (by kernel_rfl) rfl (by decide +kernel) (by kernel_rfl)
theorem args_set_or (a b : Value) : argsOk "set.__or__" ⟨[a, b], []⟩ := by unfold argsOk; kernel_rfl
theorem emp_fresh {h : Heap} {x : Addr} (hS : h.get? x = some (mt w)) : Emp h x 0 := fun o es ep t e1 e2 _ => by
  rw [hS] at e1
  cases e1
  cases e2
  exact ⟨3, rfl, by decide⟩
set_option maxHeartbeats 8000000 in
theorem set_dict {od : Obj} {es : Array DictEntry} {ep : Nat} (ns : List Int) {Q : Value → Shared → Prop} (hh : A.handled = none) (hod : s.heap.get? d = some od) (hc : od.cls = .type "dict") (hdd : od.data = .dict es ep) (hm : (d == sysModules) = false)
    (hes : es.size = ns.length) (hk : ∀ (i : Nat) (e : DictEntry), es[i]? = some e → ∃ (k : Int) (t : Tok), ns[i]? = some k ∧ e.key = Value.int k t ∧ e.hash = hashInt k) (hb : ns.length + 1 < scanBound)
    (h : ∀ (h' : Heap) (tk c : Nat), SetR w h' s.heap.objs.size (fun j => decide (j ∈ ns)) c → c ≤ ns.length → (∀ b o, s.heap.get? b = some o → h'.get? b = some o) → Q (.ref s.heap.objs.size) { s with heap := h', toks := tk }) :
    wpAny (model P w) A (call (.type "set") [.ref d]) Q E s := by
  refine set_call ?_
  have hlS : d < s.heap.objs.size := Heap.lt_size hod
  have o1 : (s.heap.push (mt w)).get? d = some od := Heap.get?_push_of_some _ hod
  have hS : (s.heap.push (mt w)).get? s.heap.objs.size = some (mt w) := Heap.get?_push_size _ rfl
  obtain ⟨oc, odd, odt, osl⟩ := od
  dsimp only at hc hdd
  subst hc hdd
  have b1 := F.sub_dict_set; have b2 := F.sub_dict_frozenset
  unfold Builtin.«set.__init__» noKeywords Builtin.Frozenset.updateFrom
  generalize hSR : setRoomFor = SR
  wp_walk
  subst hSR
  have fr : SetR w (s.heap.push (mt w)) s.heap.objs.size (fun _ => false) 0 := setR_fresh w
  have em : Emp (s.heap.push (mt w)) s.heap.objs.size 0 := emp_fresh hS
  have hdS : d ≠ s.heap.objs.size := Nat.ne_of_lt hlS
  have hb' : ns.length + 1 < 4096 := hb
  refine setR_room (s := { s with heap := s.heap.push (mt w) }) fr em (by omega) fun h1 sb1 R1 _ => ?_
  have o2 : h1.get? d = some { cls := .type "dict", dict := odd, data := .dict es ep, slots := osl } := (sb1.2 d hdS).trans o1
  refine wpAny_bind (wpAny_dictEntries o2 rfl ?_)
  refine wpAny_bind (PySem.SeqAt.wpAny_forIn_span 0 es.size _ (fun i _ s' => ∃ h2 c, s' = { s with heap := h2 } ∧ Heap.SameBut s.heap.objs.size (s.heap.push (mt w)) h2 ∧ SetR w h2 s.heap.objs.size (fun j => decide (j ∈ ns.take i)) c ∧ c ≤ i) _ ?_ ?_ _
    ⟨h1, 0, rfl, sb1, R1.congr fun k => by simp, Nat.le_refl _⟩)
  · rintro i _ s' _ hi ⟨h2, c, rfl, sb2, R2, hc⟩
    have o3 : h2.get? d = some { cls := .type "dict", dict := odd, data := .dict es ep, slots := osl } := (sb2.2 d hdS).trans o1
    refine wpAny_bind (wpAny_dictEntries o3 rfl ?_)
    obtain ⟨k, t, e1, e2, e3⟩ := hk i es[i] (Array.getElem?_eq_getElem hi)
    rw [Array.getElem?_eq_getElem hi]
    dsimp only
    have gx : GoodE (es[i].hash, es[i].key) := ⟨k, t, e2, e3⟩
    refine wpAny_bind (wpAny_holding (add_good (s := { s with heap := h2 }) gx R2 (by show _ < 4096; omega) fun h3 sb3 R3 => ?_))
    have sb4 := sb2.trans sb3
    have o4 : h3.get? d = some { cls := .type "dict", dict := odd, data := .dict es ep, slots := osl } := (sb4.2 d hdS).trans o1
    refine wpAny_bind (wpAny_dictEpoch o4 rfl ?_)
    refine wp_if_neg (by simp) ?_
    refine wpAny_pure ⟨h3, _, rfl, sb4, R3.congr fun j => ?_, by split <;> omega⟩
    have ek : keyOf (es[i].hash, es[i].key) = k := by unfold keyOf; dsimp only; rw [e2]
    rw [ek, List.take_add_one, e1, Bool.eq_iff_iff]
    simp
  · rintro _ s' ⟨h2, c, rfl, sb2, R2, hc⟩
    rw [Nat.max_eq_right (Nat.zero_le _), hes, List.take_length] at R2
    rw [Nat.max_eq_right (Nat.zero_le _)] at hc
    refine wpAny_pure ?_
    show wpAny _ _ (ret Value.none) _ _ _
    refine wpAny_pure ⟨rfl, h h2 s.toks c R2 (by omega) fun b o e => ?_⟩
    have hb0 : b < s.heap.objs.size := Heap.lt_size e
    exact (sb2.2 b (Nat.ne_of_lt hb0)).trans (Heap.get?_push_of_some _ e)
end
end GU

/-! s | t -/
namespace GU
open PySem PySem.Spec PyProof.Rows L2 GS
section
variable {P : Program} {w : World} {A : Around} {E : Value → Shared → Prop} {s : Shared} {a b d : Addr} {S S' : Int → Bool} {n m : Nat}
theorem or_eq (args : Args) : Builtin.«frozenset.__or__» args = (do
  let (self, other) ← Builtin.Frozenset.slot1 "__or__" args
  let (l, r) := if false then (other, self) else (self, other)
  if !(← Builtin.Frozenset.isAnySet l <&&> Builtin.Frozenset.isAnySet r) then rule s!"frozenset.{"__or__"}.declined"; return ← ret .notImplemented
  ret (← (fun (id : String) (l : Addr) (r : Value) => (do
    let result ← Builtin.Frozenset.copyOf l
    if r != .ref l then holding [result] (Builtin.Frozenset.updateFrom id (← Builtin.Frozenset.addrOf result) r)
    return result : Sem Value)) s!"frozenset.{"__or__"}" (← Builtin.Frozenset.addrOf l) r)) := rfl
set_option maxHeartbeats 8000000 in
theorem or_sets {Q : Value → Shared → Prop} (hab : a ≠ b) (R : SetR w s.heap a S n) (R1 : SetR w s.heap b S' m) (hroom : n + m + 1 < scanBound)
    (h : ∀ (h' : Heap) (d : Drawn) (c : Nat), SetR w h' s.heap.objs.size (fun j => S j || S' j) c → c ≤ n + m → (∀ b o, s.heap.get? b = some o → h'.get? b = some o) → Q (.ref s.heap.objs.size) { s with heap := h', drawn := d }) :
    wpAny (model P w) A (binaryOp .BitOr (.ref a) (.ref b)) Q E s := by
  have R0 := R
  have R10 := R1
  obtain ⟨o, es, ep, t, ho, ⟨hc1, hc2, hc3⟩, hd, g, nd, hm, hb, hf, hsz, hr, hl⟩ := R
  obtain ⟨o', es', ep', t', ho', ⟨hc1', hc2', hc3'⟩, hd', g', nd', hm', hb', hf', hsz', hr', hl'⟩ := R1
  obtain ⟨oc, odd, odt, osl⟩ := o
  obtain ⟨oc', odd', odt', osl'⟩ := o'
  dsimp only at hc1 hc2 hc3 hd hc1' hc2' hc3' hd'
  subst hc1 hc2 hc3 hd hc1' hc2' hc3' hd'
  refine wpAny_binaryOp_same (op := .BitOr) (T := "set") ⟨_, ho, rfl⟩ ⟨_, ho', rfl⟩ fills_set_or slot_set_or ?_
  refine wpAny_call_entry slot_set_or ⟨_, ho, rfl⟩ entry_set_or ?_ (args_set_or _ _)
  rw [or_eq]
  have b1 := sub_set_self
  unfold Builtin.Frozenset.copyOf Builtin.Frozenset.updateFrom Builtin.Frozenset.merge
  generalize hSM : setMerge = SM
  wp_walk
  subst hSM
  have hS : (s.heap.push (mt w)).get? s.heap.objs.size = some (mt w) := Heap.get?_push_size _ rfl
  have k1 : ∀ b o, s.heap.get? b = some o → (s.heap.push (mt w)).get? b = some o := fun b o e => Heap.get?_push_of_some _ e
  have fr : SetR w (s.heap.push (mt w)) s.heap.objs.size (fun _ => false) 0 := setR_fresh w
  have na : s.heap.objs.size ≠ a := Nat.ne_of_gt (Heap.lt_size ho)
  have nb : s.heap.objs.size ≠ b := Nat.ne_of_gt (Heap.lt_size ho')
  have hroom' : n + m + 1 < 4096 := hroom
  refine wpAny_askSetting ?_
  refine wpAny_pure ?_
  refine wpAny_newObj_type ?_
  refine wpAny_bind (wpAny_pure ?_)
  refine wpAny_bind (merge_set (s := { s with heap := s.heap.push (mt w) }) na fr (emp_fresh hS) (R0.at fun o e => k1 _ o e) (by show _ < 4096; omega) (fun s' Q' _ q => wpAny_pure q) fun h1 d1 c1 sb1 r1 hc1 em1 => ?_)
  refine wpAny_pure ?_
  have kb1 : ∀ o, s.heap.get? b = some o → h1.get? b = some o := fun o e => (sb1.2 b nb.symm).trans (k1 _ _ e)
  have hob := kb1 _ ho'
  refine wp_if_pos (by simpa using hab.symm) ?_
  refine wpAny_bind (wpAny_pure ?_)
  refine wpAny_bind (wpAny_holding ?_)
  unfold Builtin.Frozenset.isAnySet
  refine wpAny_bind ?_
  refine wpAny_bind (wpAny_isInstance (s := { s with heap := h1, drawn := d1 }) (b := true) ⟨_, hob, rfl⟩ b1 ?_)
  refine wpAny_pure ?_
  refine wp_if_pos rfl ?_
  refine wpAny_bind (wpAny_pure ?_)
  unfold setEpoch
  refine wpAny_bind ?_
  refine wpAny_bind (wpAny_setState_of (s := { s with heap := h1, drawn := d1 }) hob rfl hf' (wpAny_pure ?_))
  refine merge_set (s := { s with heap := h1, drawn := d1 }) nb r1 em1 (R10.at kb1) (by show _ < 4096; omega) (fun s' Q' hk q => ?_) fun h2 d2 c2 sb2 r2 hc2 _ => ?_
  · unfold Builtin.Frozenset.unchanged setEpoch
    refine wpAny_bind (wpAny_bind (wpAny_setState_of (hk _ hob) rfl hf' (wpAny_pure ?_)))
    exact wp_if_neg (by simp) (wpAny_pure q)
  · refine wpAny_pure ?_
    refine wpAny_pure ⟨_, rfl, (by simp), h h2 d2 c2 (r2.congr fun k => by simp) (by omega) fun x o e => ?_⟩
    have hx : x < s.heap.objs.size := Heap.lt_size e
    exact (sb2.2 x (Nat.ne_of_lt hx)).trans ((sb1.2 x (Nat.ne_of_lt hx)).trans (k1 _ _ e))
end
end GU

/-! sets as rules of the layer -/
namespace GU
open PySem PySem.Spec PyProof.Rows L2 GS
section
variable {X : Cx}
theorem keys_ints {P : Program} {w : World} : ∀ {es : List DictEntry} {vs : List (Key × Value)} {ns : List Int}, PySem.Pairs (mixKind P w) es vs → vs.map (·.1) = ns.map Sum.inl → (∀ e ∈ es, ∃ k, (mixKind P w).is k e.key = true ∧ e.hash = (mixKind P w).hash k) →
    es.length = ns.length ∧ ∀ (i : Nat) (e : DictEntry), es[i]? = some e → ∃ (k : Int) (t : Tok), ns[i]? = some k ∧ e.key = Value.int k t ∧ e.hash = hashInt k
  | [], _, ns, h, hn, _ => by
    cases h
    cases ns with
    | nil => exact ⟨rfl, fun i e h => by simp at h⟩
    | cons n ns => cases hn
  | e :: es, _, ns, h, hn, hk => by
    cases h with
    | cons h1 h2 h3 =>
      rename_i kv kvs
      cases ns with
      | nil => cases hn
      | cons n ns =>
        rw [List.map_cons, List.map_cons, List.cons.injEq] at hn
        obtain ⟨a, b⟩ := keys_ints h3 hn.2 fun e he => hk e (List.mem_cons_of_mem _ he)
        refine ⟨by rw [List.length_cons, List.length_cons, a], fun i e' hi => ?_⟩
        cases i with
        | zero =>
          cases hi
          obtain ⟨k, i1, i2⟩ := hk e (List.mem_cons_self ..)
          rw [hn.1] at h1
          rcases keyIs_shape (show keyIs (Sum.inl n) e.key = true from h1) with ⟨j, t, e1, e2⟩ | ⟨x, t, e1, _⟩
          · cases e1
            have : k = Sum.inl n := (mixKind P w).inj _ _ _ i1 h1
            subst this
            exact ⟨n, t, rfl, e2, i2⟩
          · cases e1
        | succ i => exact b i e' (by simpa using hi)
/-- set(d), d a dict of int keys -/
def rSetD (w : World) : List V → Hp → VK → Prop := fun vs H Q => ∃ (a : Addr) (kvs : List (Key × V)) (ns : List Int), vs = [V.ref a] ∧ Rd H a (.dK kvs) ∧ kvs.map (·.1) = ns.map Sum.inl ∧ ns.length + 1 < scanBound ∧
  ∀ (p : Addr) (c : Nat), H p = none → c ≤ ns.length → Q (.ref p) (upd H p (SetO w p (fun j => decide (j ∈ ns)) c))
theorem cr_setD (hc : X.calm = true) : CallR X (.type "set") (rSetD X.w) := by
  intro pins s σ H vs us Q I r h
  obtain ⟨a, kvs, ns, rfl, hd, hk, hb, q⟩ := h
  rw [Vals.ref1 r]
  obtain ⟨z, hm, prs, rel, o, es, ep, ho, hx, hdat, hke, hps, _⟩ := dk_rd I.hok hd
  have ek : prs.map (·.1) = ns.map Sum.inl := rel.keys.symm.trans hk
  obtain ⟨l1, l2⟩ := keys_ints hps ek fun e he => hke e (by simpa using he)
  refine set_dict ns (I.ok.hd hc) ho hx.1 hdat hm (by simpa using l1) (fun i e he => l2 i e (by simpa using he)) hb fun h' tk c R hcn k => ?_
  have hn : H s.heap.objs.size = none := I.hok.fresh (Nat.le_refl _)
  exact ⟨.ref s.heap.objs.size, _, I.laid k (Nat.le_refl _) (setO_new R), rfl, q _ c hn hcn⟩
/-- s | t -/
def rSetOr (w : World) : R2 := fun x y H Q => ∃ (a b : Addr) (S S' : Int → Bool) (n m : Nat), x = V.ref a ∧ y = V.ref b ∧ a ≠ b ∧ H a = some (SetO w a S n) ∧ H b = some (SetO w b S' m) ∧ n + m + 1 < scanBound ∧
  ∀ (p : Addr) (c : Nat), H p = none → c ≤ n + m → Q (.ref p) (upd H p (SetO w p (fun j => S j || S' j) c))
theorem op_setOr : OpR X (binaryOp .BitOr) (rSetOr X.w) := by
  intro pins s σ H x y v u Q I rx ry h
  obtain ⟨a, b, S, S', n, m, rfl, rfl, hab, ha, hb, hr, q⟩ := h
  cases rx
  cases ry
  refine or_sets hab (setO_get I ha) (setO_get I hb) hr fun h' d c R hcn k => ?_
  have hn : H s.heap.objs.size = none := I.hok.fresh (Nat.le_refl _)
  have J : Inv X pins σ (upd H s.heap.objs.size (SetO X.w s.heap.objs.size (fun j => S j || S' j) c)) { s with heap := h', gens := s.gens, drawn := d, toks := s.toks } :=
    I.call (ch := []) (Un.laid k (Nat.le_refl _) hn) (I.hok.laid k (Nat.le_refl _) (setO_new R)) I.bare (fun _ z => nomatch z)
  exact ⟨.ref s.heap.objs.size, _, J, rfl, q _ c hn hcn⟩
end
end GU
namespace GU
open PySem PySem.Spec PyProof.Rows L2 GS
theorem nodup_le {α : Type} [DecidableEq α] : ∀ {l m : List α}, l.Nodup → (∀ x ∈ l, x ∈ m) → l.length ≤ m.length
  | [], _, _, _ => Nat.zero_le _
  | x :: l, m, h, hm => by
    rw [List.nodup_cons] at h
    have hx : x ∈ m := hm x (List.mem_cons_self ..)
    have := nodup_le (l := l) (m := m.erase x) h.2 fun y hy => (List.mem_erase_of_ne (fun e : y = x => h.1 (by rw [← e]; exact hy))).mpr (hm y (List.mem_cons_of_mem _ hy))
    rw [List.length_erase_of_mem hx] at this
    have := List.length_pos_of_mem hx
    rw [List.length_cons]
    omega
theorem card_le {w : World} {h : Heap} {a : Addr} {S : Int → Bool} {n : Nat} {l : List Int} (R : SetR w h a S n) (hl : ∀ k, S k = true → k ∈ l) : n ≤ l.length := by
  obtain ⟨o, es, ep, t, ho, hex, hd, g, nd, hm, hb, hf, hsz, hr, hl'⟩ := R
  have := nodup_le (l := es.toList.map keyOf) (m := l) nd fun k hk => hl k ((hm k).mpr hk)
  rw [List.length_map, Array.length_toList] at this
  omega
/-- sorted(s), its members among fewer than 64 -/
def rSortedU (w : World) : List V → Hp → VK → Prop := fun vs H Q => ∃ (a : Addr) (S : Int → Bool) (n : Nat) (l : List Int), vs = [V.ref a] ∧ H a = some (SetO w a S n) ∧ l.length < 64 ∧ (∀ k, S k = true → k ∈ l) ∧
  ∀ (ns : List Int) (p : Addr), ns.Pairwise (· < ·) → (∀ k : Int, k ∈ ns ↔ S k = true) → H p = none → Q (.ref p) (upd H p (.lst (ns.map V.int)))
theorem cr_sortedU {X : Cx} (hc : X.calm = true) : CallR X (.builtin "sorted") (rSortedU X.w) := by
  intro pins s σ H vs us Q I r h
  obtain ⟨a, S, n, l, rfl, ha, h64, hl, q⟩ := h
  have := card_le (setO_get I ha) hl
  exact cr_sortedSet hc pins s σ H [.ref a] us Q I r ⟨a, S, n, rfl, ha, by omega, fun ns p h1 h2 _ h4 => q ns p h1 h2 h4⟩
end GU

/-! list(d.keys()) -/
namespace GU
open PySem PySem.Spec PyProof.Rows L2 GS
/-- the view of a dict's keys -/
def KeysO (v a : Addr) : HO := .ext fun h => PySem.W.KdlKeysView h v a
def tKeysV (td : TE) : TE := fun σ H Q => td σ H fun x H1 => ∃ a kvs, x = V.ref a ∧ Rd H1 a (.dK kvs) ∧ ∀ v, H1 v = none → Q (.ref v) (upd H1 v (KeysO v a))
def rListKV : List V → Hp → VK → Prop := fun vs H Q => ∃ (v a : Addr) (kvs : List (Key × V)), vs = [V.ref v] ∧ H v = some (KeysO v a) ∧ Rd H a (.dK kvs) ∧ ∀ p, H p = none → Q (.ref p) (upd H p (.lst (kvs.map fun kv => kV kv.1)))
section
variable {X : Cx} {e : Expr} {td : TE} {apos cpos : Pos}
theorem pe_keysV (he : PE X e td) (hbase : attributeBase e "keys" X.env (eval e X.env) = eval e X.env := by rfl) (hline : (apos.endLine == cpos.line) = true := by rfl) : PE X (.Call (.Attribute e "keys" apos) [] [] cpos) (tKeysV td) := by
  refine ⟨fun pins s σ H R I h => ?_⟩
  refine wpAny_Call_method (T := "dict") (id := "dict.keys") hbase rfl hline F.plainAttrs_dict F.slot_dict_keys F.type_dict_keys (thn (he.run pins s σ H _ I h) fun u s1 ⟨x, H1, I1, rx, d, kvs, ex, hd, q⟩ => ?_)
  subst ex
  obtain rfl : u = Value.ref d := rx
  obtain ⟨z, hs, vs, kv, hm⟩ := dk_rd I1.hok hd
  refine ⟨hm.typeIs, hm.mapOf.noDict, ?_⟩
  have hn : H1 s1.heap.objs.size = none := I1.hok.fresh (Nat.le_refl _)
  have hv : (s1.heap.push { cls := .type "dict_keys", data := .fields #[.ref d] }).get? s1.heap.objs.size = some { cls := .type "dict_keys", data := .fields #[.ref d] } := Heap.get?_push_size _ rfl
  have I2 : Inv X pins σ (upd H1 s1.heap.objs.size (KeysO s1.heap.objs.size d)) { s1 with heap := s1.heap.push { cls := .type "dict_keys", data := .fields #[.ref d] } } :=
    I1.laid (t' := s1.toks) (fun b ob q => Heap.get?_push_of_some _ q) (Nat.le_refl _) (show ObjOk X.prog X.w _ _ _ (KeysO _ _) from ⟨⟨_, hv, rfl, rfl⟩, ⟨_, hv⟩, fun h1 h2 p k => let ⟨o, ho, x⟩ := p; ⟨o, k o ho, x⟩⟩)
  show wpAny _ _ (callWith cpos (.builtin "dict.keys") [.ref d] [] []) _ X.xe s1
  exact method_meetsIn F.slot_dict_keys F.entry_dict_keys rfl (PySem.evalArgs_none ⟨rfl, hm.typeIs, F.args_dict_keys_1 _, _, PySem.W.kdl_meets_keys (mixKind X.prog X.w) d hs, ⟨vs, hm⟩, ⟨.ref s1.heap.objs.size, _, I2, rfl, q _ hn⟩⟩)
theorem cr_listKV (hc : X.calm = true) : CallR X (.type "list") rListKV := by
  intro pins s σ H xs us Q I r h
  obtain ⟨v, p, kvs, rfl, hv, hk, q⟩ := h
  rw [Vals.ref1 r]
  obtain ⟨z, lo, vs, rk, hd⟩ := dk_rd I.hok hk
  obtain ⟨ep, hat⟩ := hd.dictAt
  have hl : kvs.length = vs.length := Paired.length rk
  have hview : PySem.W.KdlKeysView s.heap v p := (I.hok v _ hv).1
  refine PySem.W.kdl_call (PySem.W.kdl_keys (knd := mixKind X.prog X.w) (kvs := vs) (ep := ep)) (I.ok.hd hc) ⟨hview, hat⟩ (by rw [← hl]; exact z) fun h' tk acc' c' hkeep hS hacc => ?_
  refine ⟨.ref s.heap.objs.size, upd H s.heap.objs.size (.lst (kvs.map fun kv => kV kv.1)), I.laid hkeep (Nat.le_refl _) (show ObjOk X.prog X.w _ _ _ (.lst (kvs.map fun kv => kV kv.1)) from ⟨?_, acc'.toList, c', ?_, ?_⟩), rfl, q _ (I.hok.fresh (Nat.le_refl _))⟩
  · rw [List.length_map]; exact z
  · have el : acc'.toList.length = acc'.size := by simp
    refine vals_of_at (by rw [List.length_map, el, hacc.1, hl]) fun j x w h1 h2 => ?_
    obtain ⟨k, y, hky, hi⟩ := hacc.2 j w (by rw [← Array.getElem?_toList]; exact h2)
    have e1 : (kvs.map (·.1))[j]? = some k := by
      rw [KV.keys rk, List.getElem?_map, hky] <;> rfl
    have e2 : (kvs.map fun kv => kV kv.1)[j]? = some (kV k) := by
      have e3 : (kvs.map fun kv => kV kv.1) = (kvs.map (·.1)).map kV := by rw [List.map_map] <;> rfl
      rw [e3, List.getElem?_map, e1] <;> rfl
    rw [e2] at h1
    cases h1
    exact keyIs_rel hi
  · rw [Array.toArray_toList]; exact hS
end
end GU

namespace Z
open PySem PySem.Spec PyProof.Rows L2 G
section
variable {K : PySem.W.Frag} {J : List (Nat × V)} {F F' R R' M M' H H' : Hp} {v : V} {t t' : T} {as bs : List Addr} {cs c1 c2 tmp : List Cell} {c : Cell} {p a b : Addr} {d : D} {o : HO} {vs xs ys zs : List V} {ds es : List D} {σ σ' : L2.St} {st st' : DS} {Jn : List Nat} {i : Nat} {w w' : World}
/-! ### a thing put aside -/
theorem Rep.aside (h : Rep K J F R tmp st σ H) (n : H p = none) : R p = none ∧ Rep K J F (upd R p o) tmp st σ (upd H p o) := by
  obtain ⟨hl, hJ, M, as, S, C, nd⟩ := h
  have nR := S.freeR n
  refine ⟨nR, hl, hJ, M, as, ⟨same_updR S.f (S.freeF n), same_upd2 S.r, same_updR S.m (S.freeM n), fun a => ?_, S.fm, fun a => ?_⟩, C, nd⟩
  · by_cases h : a = p
    · exact .inl (h ▸ S.freeF n)
    · rw [upd_ne h]; exact S.fr a
  · by_cases h : a = p
    · exact .inr (h ▸ S.freeM n)
    · rw [upd_ne h]; exact S.rm a
theorem Rep.lessR (h : Rep K J F R tmp st σ H) (s : Same R' R) : Rep K J F R' tmp st σ H := by
  obtain ⟨hl, hJ, M, as, S, C, nd⟩ := h
  have e : ∀ a, R a = none → R' a = none := fun a n => by
    cases e : R' a with
    | none => rfl
    | some o =>
      have := s a o e
      rw [n] at this
      cases this
  exact ⟨hl, hJ, M, as, ⟨S.f, s.trans S.r, S.m, fun a => (S.fr a).imp id (e a), S.fm, fun a => (S.rm a).imp (e a) id⟩, C, nd⟩
theorem Rep.atR (h : Rep K J F R tmp st σ H) (e : R p = some o) : H p = some o := by
  obtain ⟨hl, hJ, M, as, S, C, nd⟩ := h
  exact S.r p o e
/-! ### expressions that tell a set of ints -/
abbrev DSE := DS → (List Int → DS → Prop) → Prop
structure RSE (w : World) (K : PySem.W.Frag) (Jn : List Nat) (t : TE) (f : DSE) : Prop where
  run : ∀ (J : List (Nat × V)) (F R : Hp) (tmp : List Cell) (st : DS) (σ : L2.St) (H : Hp) (Q : VK) (QD : List Int → DS → Prop), J.map (·.1) = Jn → Rep K J F R tmp st σ H → f st QD →
    (∀ a S c ns st' F' H', Le F F' → R a = none → Rep K J F' (upd R a (SetO w a S c)) tmp st' σ H' → (∀ k : Int, S k = true ↔ k ∈ ns) → c ≤ ns.length → QD ns st' → Q (.ref a) H') → t σ H Q
/-- set(xs) -/
def seLst (f : DE) : DSE := fun st Q => f st fun o st1 => match res st1 o with
  | some (.lst l) => ∃ ns : List Int, l = ns.map D.int ∧ ns.length < 1000 ∧ Q ns st1
  | _ => False
theorem se_lst {t : TE} {f : DE} (hw : w' = w) (h : RE K Jn t f) : RSE w K Jn (tCB (GS.rSetLI K w') (tCons t tNil)) (seLst f) := by
  subst hw
  refine ⟨fun J F R tmp st σ H Q QD hJ hr q k => h.run J F R tmp st σ H _ _ hJ hr q fun o st1 v F1 H1 s1 h1 ok q1 => ?_⟩
  cases e : res st1 o with
  | none => rw [e] at q1; exact q1.elim
  | some d =>
    rw [e] at q1
    cases d <;> try exact q1.elim
    obtain ⟨ns, rfl, hl, q1⟩ := q1
    obtain ⟨a, ws, rfl, e, rl⟩ := h1.rs ok e
    have := rpl_ints rl
    subst this
    refine ⟨a, ns, rfl, .inl (.inl e), by show _ < 4096; omega, fun p c np hc => ?_⟩
    obtain ⟨nR, h2⟩ := (Rep.dropL h1).aside (o := SetO w' p (fun j => decide (j ∈ ns)) c) np
    exact k p _ c ns st1 F1 _ s1 nR h2 (fun k => by simp) hc q1
/-- set(d) -/
def seDct (f : DE) : DSE := fun st Q => f st fun o st1 => match res st1 o with
  | some (.dct ks _) => ∃ ns : List Int, ks = ns.map Sum.inl ∧ ns.length < 1000 ∧ Q ns st1
  | _ => False
theorem se_dct {t : TE} {f : DE} (hw : w' = w) (h : RE K Jn t f) : RSE w K Jn (tCB (GU.rSetD w') (tCons t tNil)) (seDct f) := by
  subst hw
  refine ⟨fun J F R tmp st σ H Q QD hJ hr q k => h.run J F R tmp st σ H _ _ hJ hr q fun o st1 v F1 H1 s1 h1 ok q1 => ?_⟩
  cases e : res st1 o with
  | none => rw [e] at q1; exact q1.elim
  | some d =>
    rw [e] at q1
    cases d <;> try exact q1.elim
    obtain ⟨ns, rfl, hl, q1⟩ := q1
    obtain ⟨a, kvs, rfl, e, e2, rl⟩ := h1.rs ok e
    refine ⟨a, kvs, ns, rfl, e, e2, by show _ < 4096; omega, fun p c np hc => ?_⟩
    obtain ⟨nR, h2⟩ := (Rep.dropL h1).aside (o := SetO w' p (fun j => decide (j ∈ ns)) c) np
    exact k p _ c ns st1 F1 _ s1 nR h2 (fun k => by simp) hc q1
/-- s | t -/
def seOr (f g : DSE) : DSE := fun st Q => f st fun ns st1 => g st1 fun ms st2 => GRD (ns.length + ms.length < 1000) (Q (ns ++ ms) st2)
theorem se_or {t u : TE} {f g : DSE} (hw : w' = w) (h1 : RSE w K Jn t f) (h2 : RSE w K Jn u g) : RSE w K Jn (tOp (GU.rSetOr w') t u) (seOr f g) := by
  subst hw
  refine ⟨fun J F R tmp st σ H Q QD hJ hr q k => h1.run J F R tmp st σ H _ _ hJ hr q fun a S c ns st1 F1 H1 s1 n1 r1 m1 c1 q1 => ?_⟩
  refine h2.run J F1 _ tmp st1 σ H1 _ _ hJ r1 q1 fun b S' c' ms st2 F2 H2 s2 n2 r2 m2 c2 q2 => ?_
  obtain ⟨gl, q2⟩ := GRD.out q2
  have hab : a ≠ b := fun e => by
    subst e
    rw [upd_same] at n2
    cases n2
  refine ⟨a, b, S, S', c, c', rfl, rfl, hab, r2.atR (by rw [upd_ne hab, upd_same]), r2.atR upd_same, by show _ < 4096; omega, fun p z np hz => ?_⟩
  have r3 : Rep K J F2 R tmp st2 σ H2 := r2.lessR fun x o e => by
    have h1 : x ≠ a := ne_of_none e n1
    have h2 : x ≠ b := by
      rw [upd_ne hab.symm] at n2
      exact ne_of_none e n2
    rw [upd_ne h2, upd_ne h1]
    exact e
  obtain ⟨nR, r4⟩ := r3.aside (o := SetO w' p (fun j => S j || S' j) z) np
  refine k p _ z (ns ++ ms) st2 F2 _ (s1.trans s2) nR r4 (fun k => ?_) (by rw [List.length_append]; omega) q2
  rw [Bool.or_eq_true, m1, m2, List.mem_append]
/-- sorted(s) -/
def dSortSE (f : DSE) : DE := fun st Q => f st fun ns st1 => ∃ l : List Int, l.length < 64 ∧ (∀ k ∈ ns, k ∈ l) ∧ ∀ ys : List Int, ys.Pairwise (· < ·) → (∀ k : Int, k ∈ ys ↔ k ∈ ns) → Q (.tm (.ls (ys.map D.int))) st1
theorem re_sortSE {t : TE} {f : DSE} (h : RSE w K Jn t f) : RE K Jn (tCB (GU.rSortedU w) (tCons t tNil)) (dSortSE f) := by
  refine ⟨fun J F R tmp st σ H Q QD hJ hr q k => h.run J F R tmp st σ H _ _ hJ hr q fun a S c ns st1 F1 H1 s1 n1 r1 m1 c1 q1 => ?_⟩
  obtain ⟨l, gl, gm, q1⟩ := q1
  refine ⟨a, S, c, l, rfl, r1.atR upd_same, gl, fun k hk => gm k ((m1 k).mp hk), fun ys p hy hm np => ?_⟩
  have r3 : Rep K J F1 R tmp st1 σ H1 := r1.lessR fun x o e => by
    rw [upd_ne (ne_of_none e n1)]
    exact e
  exact k (.tm (.ls (ys.map D.int))) st1 _ F1 _ s1 (r3.own np (ints_rpl ys)) True.intro (q1 ys hy fun k => (hm k).trans (m1 k))
end
end Z

namespace Z
open PySem PySem.Spec PyProof.Rows L2 G
section
variable {K : PySem.W.Frag} {J : List (Nat × V)} {F F' R R' M M' H H' : Hp} {v : V} {t t' : T} {as bs : List Addr} {cs c1 c2 tmp : List Cell} {c : Cell} {p a b : Addr} {d : D} {o : HO} {vs xs ys zs : List V} {ds es : List D} {σ σ' : L2.St} {st st' : DS} {Jn : List Nat} {i : Nat} {w w' : World}
/-! ### list(d.keys()) -/
def dListK (f : DE) : DE := fun st Q => f st fun o st1 => match res st1 o with
  | some (.dct ks _) => Q (.tm (.ls (ks.map kD))) st1
  | _ => False
theorem keys_rpl : ∀ ks : List Key, RpL K F (ks.map kV) (ks.map kD)
  | [] => .nil
  | k :: ks => .cons (kD_rp k) (keys_rpl ks)
theorem re_listK {t : TE} {f : DE} (h : RE K Jn t f) : RE K Jn (tCB GU.rListKV (tCons (GU.tKeysV t) tNil)) (dListK f) := by
  refine ⟨fun J F R tmp st σ H Q QD hJ hr q k => h.run J F R tmp st σ H _ _ hJ hr q fun o st1 v F1 H1 s1 h1 ok q1 => ?_⟩
  cases e : res st1 o with
  | none => rw [e] at q1; exact q1.elim
  | some d =>
    rw [e] at q1
    cases d <;> try exact q1.elim
    obtain ⟨a, kvs, rfl, e, e2, rl⟩ := h1.rs ok e
    refine ⟨a, kvs, rfl, e, fun v nv => ?_⟩
    obtain ⟨nR, h2⟩ := (Rep.dropL h1).aside (o := GU.KeysO v a) nv
    have hrd : Rd (upd H1 v (GU.KeysO v a)) a (.dK kvs) := by
      rcases e with e | ⟨od, e⟩
      · exact .inl (by rw [upd_ne (ne_of_none e nv)]; exact e)
      · exact .inr ⟨od, by rw [upd_ne (ne_of_none e nv)]; exact e⟩
    refine ⟨v, a, kvs, rfl, upd_same, hrd, fun p np => ?_⟩
    have r3 := h2.lessR (R' := R) fun x o e => by
      rw [upd_ne (ne_of_none e nR)]
      exact e
    have e3 : (kvs.map fun kv => kV kv.1) = (kvs.map (·.1)).map kV := by rw [List.map_map]; rfl
    rw [e3, e2]
    exact k (.tm (.ls _)) st1 _ F1 _ s1 (r3.own np (keys_rpl _)) True.intro q1
/-! ### dict(pairs) -/
def mergeD (m : List (Key × D)) : List (Key × D) := m.foldl (fun acc p => kvPut acc p.1 p.2) []
def bDictP : List D → (T → Prop) → Prop := fun ds Q => match ds with
  | [.lst l] => ∃ m : List (Key × D), l = m.map (fun p => .tup [kD p.1, p.2]) ∧ Q (.dk (mergeD m))
  | _ => False
abbrev rDictP (K : PySem.W.Frag) : List V → Hp → VK → Prop := fun xs H Q => ∃ (a : Addr) (ps : List Addr) (kvs : List (Key × V)), xs = [.ref a] ∧ SqL K H a (ps.map V.ref) ∧ Paired (fun p kv => SqT K H p [kV kv.1, kv.2]) ps kvs ∧
    ∀ p, H p = none → Q (.ref p) (upd H p (.dK (mergeK [] kvs)))
theorem kD_of {x : V} {k : Key} (h : Rp K F x (kD k)) : x = kV k := by
  cases k with
  | inl i => cases h; rfl
  | inr i => cases h; rfl
theorem pairs_rpl (s : Le F H) (s' : Same F H) : ∀ {ws : List V} {m : List (Key × D)}, RpL K F ws (m.map fun p => .tup [kD p.1, p.2]) → ∃ (ps : List Addr) (kvs : List (Key × V)), ws = ps.map V.ref ∧ Paired (fun p kv => SqT K H p [kV kv.1, kv.2]) ps kvs ∧
    kvs.map (·.1) = m.map (·.1) ∧ RpL K F (kvs.map (·.2)) (m.map (·.2))
  | _, [], h => by
    cases h
    exact ⟨[], [], rfl, .nil, rfl, .nil⟩
  | _, p :: m, h => by
    cases h with
    | cons h t =>
      obtain ⟨ps, kvs, rfl, b, c, e⟩ := pairs_rpl s s' t
      cases h with
      | tup hs ha =>
        rename_i a us
        obtain _ | ⟨r1, ha⟩ := ha
        obtain _ | ⟨r2, ha⟩ := ha
        cases ha
        rename_i x y
        have := kD_of r1
        subst this
        exact ⟨a :: ps, (p.1, y) :: kvs, rfl, .cons (Same.tup s' hs) b, by rw [List.map_cons, List.map_cons, c], .cons r2 e⟩
theorem merge_rel : ∀ {kvs : List (Key × V)} {m : List (Key × D)} {kvs0 : List (Key × V)} {m0 : List (Key × D)}, kvs0.map (·.1) = m0.map (·.1) → RpL K F (kvs0.map (·.2)) (m0.map (·.2)) → kvs.map (·.1) = m.map (·.1) → RpL K F (kvs.map (·.2)) (m.map (·.2)) →
    (mergeK kvs0 kvs).map (·.1) = (m.foldl (fun acc p => kvPut acc p.1 p.2) m0).map (·.1) ∧ RpL K F ((mergeK kvs0 kvs).map (·.2)) ((m.foldl (fun acc p => kvPut acc p.1 p.2) m0).map (·.2))
  | [], [], _, _, h1, h2, _, _ => ⟨h1, h2⟩
  | [], _ :: _, _, _, _, _, h, _ => by cases h
  | _ :: _, [], _, _, _, _, h, _ => by cases h
  | kv :: kvs, p :: m, kvs0, m0, h1, h2, h3, h4 => by
    rw [List.map_cons, List.map_cons, List.cons.injEq] at h3
    rw [List.map_cons, List.map_cons] at h4
    obtain _ | ⟨r1, r2⟩ := h4
    have := put_rel (k := kv.1) h1 h2 r1
    rw [h3.1] at this
    show (mergeK (putK kvs0 kv.1 kv.2) kvs).map (·.1) = _ ∧ RpL K F ((mergeK (putK kvs0 kv.1 kv.2) kvs).map (·.2)) _
    rw [h3.1]
    exact merge_rel (m0 := kvPut m0 p.1 p.2) this.1 this.2 h3.2 r2
theorem rb_dictP : RB K (rDictP K) bDictP := by
  refine ⟨fun J F R tmp st σ H vs ds Q QD h r q k => ?_⟩
  unfold bDictP at q
  split at q
  · obtain _ | ⟨r, rr⟩ := r
    cases rr
    obtain ⟨a, ws, rfl, e, rl⟩ := r
    obtain ⟨m, rfl, q⟩ := q
    obtain ⟨ps, kvs, rfl, h1, h2, h3⟩ := pairs_rpl (.of h.fH) h.fH rl
    obtain ⟨h4, h5⟩ := merge_rel (kvs0 := []) (m0 := []) rfl .nil h2 h3
    exact ⟨a, ps, kvs, rfl, .inl (.inl e), h1, fun p np => k _ _ F _ (Le.refl _) (h.ownD np h4 h5) q⟩
  · exact q.elim
/-! ### d.get(k) -/
def dDget1 (fd fk : DE) : DE := fun st Q => fd st fun od st1 => match res st1 od with
  | some (.dct _ _) => fk st1 fun ok st2 => match res st2 od, res st2 ok with
    | some (.dct ks ds), some d => match keyD d with
      | some k => Q (.tm (.fr ((kvGet (ks.zip ds) k).getD .non))) st2
      | none => False
    | _, _ => False
  | _ => False
theorem re_dget1 {td tk : TE} {fd fk : DE} (hd : RE K Jn td fd) (hk : RE K Jn tk fk) : RE K Jn (tDGet1 td tk) (dDget1 fd fk) := by
  refine ⟨fun J F R tmp st σ H Q QD hJ h q k => ?_⟩
  refine hd.run J F R tmp st σ H _ _ hJ h q fun od st1 x F1 H1 s1 h1 ok1 q1 => ?_
  cases e0 : res st1 od with
  | none => rw [e0] at q1; exact q1.elim
  | some d0 =>
    rw [e0] at q1
    cases d0 <;> try exact q1.elim
    obtain ⟨a, kvs0, rfl, hd0, _, _⟩ := h1.rs ok1 e0
    refine ⟨a, rfl, .inl ⟨kvs0, hd0⟩, ?_⟩
    refine hk.run J F1 R _ st1 σ H1 _ _ hJ h1 q1 fun ok st2 y F2 H2 s2 h2 ok2 q2 => ?_
    cases ea : res st2 od with
    | none => rw [ea] at q2; exact q2.elim
    | some dx =>
      cases eb : res st2 ok with
      | none => rw [ea, eb] at q2; cases dx <;> exact q2.elim
      | some dy =>
        rw [ea, eb] at q2
        cases dx <;> try exact q2.elim
        rename_i ks ds
        dsimp only at q2
        obtain ⟨a', kvs, ea', hd, e1, r⟩ := Rep.rs (Rep.dropL h2) ok1 ea
        cases ea'
        cases e3 : keyD dy with
        | none => rw [e3] at q2; exact q2.elim
        | some ky =>
          rw [e3] at q2
          have ek := keyD_eq e3 (h2.rs ok2 eb)
          subst ek
          dsimp only at q2
          rcases get_rel (k := ky) e1 r with ⟨v, d', h1', h2', rv⟩ | ⟨h1', h2'⟩
          · rw [h2'] at q2
            exact ⟨some v, .inl ⟨kvs, ky, hd, rfl, h1'.symm⟩, k (.tm (.fr d')) st2 v F2 H2 (s1.trans s2) ((Rep.dropL (Rep.dropL h2)).add rv) True.intro q2⟩
          · rw [h2'] at q2
            exact ⟨none, .inl ⟨kvs, ky, hd, rfl, h1'.symm⟩, k (.tm (.fr .non)) st2 .non F2 H2 (s1.trans s2) ((Rep.dropL (Rep.dropL h2)).add .non) True.intro q2⟩
end
end Z

namespace K26
open PySem PySem.Spec PyProof.Rows L2 G Z
local macro_rules | `(tactic| walk_at "z_g") => `(tactic| ((try dsimp only); first | omega | decide | (refine ⟨?_, ?_⟩ <;> omega) | (refine ⟨?_, ?_, ?_⟩ <;> omega) | (refine ⟨?_, ?_, ?_, ?_⟩ <;> omega) | (refine Or.inl ⟨?_, ?_⟩ <;> omega) | (refine Or.inr ⟨?_, ?_⟩ <;> omega) | exact ⟨by decide, by decide, by decide⟩))
local macro_rules | `(tactic| walk_at "z1") => `(tactic| (first
  | with_reducible refine BR.t ?_
  | with_reducible refine BR.f ?_
  | with_reducible refine BR.nt ?_
  | with_reducible refine BR.nf ?_
  | ((with_reducible refine IX.mk ?d ?h ?_); (case h => exact rfl))
  | ((with_reducible refine GRD.mk ?c ?_); (case c => walk_at "z_g"))
  | ((with_reducible refine GRD.mk ?c ?_); rotate_left)
  | with_reducible refine KIT.mk kb_int_int ?_
  | with_reducible refine KIT.mk kb_int_bool ?_
  | with_reducible refine KIT.mk kb_list_list ?_
  | with_reducible refine KIT.mk kb_tuple_tuple ?_))
local macro_rules | `(tactic| walk_at "z") => `(tactic| ((conv => whnf); (repeat (walk_at "z1"; (conv => whnf)))))
local macro_rules | `(tactic| walk_at "z_b") => `(tactic| ((repeat' (first | exact alld_nil | (refine alld_cons ⟨_, rfl, ?_, ?_⟩ ?_))) <;> (try dsimp only) <;> omega))
local macro_rules | `(tactic| walk_at "zd") => `(tactic| (walk_at "z"; (try dsimp only)))
def b1_last_rows : DSt := (dIfS (dTest (dOp (dI0 fun i j => .bl (decide (i ≤ j))) (dOp dIxT (dVar 3) (dC (.int 1))) (dVar 1))) (dDput 2 (dOp dIxT (dVar 3) (dC (.int 0))) (dVar 3)) dNext)
def mb_last_rows : DSt := (dSeq (dAsg dDnew (putO 2))
    (dSeq (dFor [0, 1] (iB (dVar 0)) (putO 3) b1_last_rows)
    (dRet [0, 1] (dVar 2))))
def m_last_rows : FZ := mBody [0, 1] 2 mb_last_rows
def mb_known : DSt := (dRet [0, 1] (dLc (iDi (dCall 2 m_last_rows [] (dCons (dVar 0) (dCons (dVar 1) dNil)))) (dGTup 2 (dGCons (putO 2) (dGCons (putO 3) dGNil))) (dTest (dOp dNotN (dOp dIxT (dVar 3) (dC (.int 2))) (dC .non))) (dTup (dCons (dVar 2) (dCons (dOp dIxT (dVar 3) (dC (.int 2))) dNil))) [2, 3]))
def m_known : FZ := mBody [0, 1] 2 mb_known
def mb_changes : DSt := (dSeq (dAsg (dCB bDictP (dCons (dCall 2 m_known [] (dCons (dVar 0) (dCons (dVar 1) dNil))) dNil)) (putO 3))
    (dSeq (dAsg (dCB bDictP (dCons (dCall 2 m_known [] (dCons (dVar 0) (dCons (dVar 2) dNil))) dNil)) (putO 4))
    (dSeq (dAsg (dSortSE (seOr (seDct (dVar 3)) (seDct (dVar 4)))) (putO 5))
    (dRet [0, 1, 2] (dLc (iB (dVar 5)) (putO 6) (dTest (dOp dNeD (dDget1 (dVar 3) (dVar 6)) (dDget1 (dVar 4) (dVar 6)))) (dTup (dCons (dVar 6) (dCons (dDget1 (dVar 3) (dVar 6)) (dCons (dDget1 (dVar 4) (dVar 6)) dNil)))) [6])))))
def m_changes : FZ := mBody [0, 1, 2] 4 mb_changes
def b1_l_draws : DSt := (dAsg (dOp (dI L2.CMulW fun i j => .int (i * j)) (dVar 1) (dVar 1)) (putO 1))
def mb_l_draws : DSt := (dSeq (dAsg (dC (.int 1000000000000000000000000000000000000000000000000000000000000)) (putO 1))
    (dSeq (dFor [0] (iR1 (dCons (dC (.int 7)) dNil)) (putO 2) b1_l_draws)
    (dRet [0] (dLst (dCons (dOp (dI (fun _ j => 0 < j) fun i j => .int (i % j)) (dVar 0) (dVar 1)) (dCons (dC (.int 0)) (dCons (dOp (dI0 fun i j => .bl (decide (j ≤ i))) (dVar 0) (dC (.int 1000000000000000000))) dNil)))))))
def m_l_draws : FZ := mBody [0] 2 mb_l_draws
def mb_l_next : DSt := (dSeq (dAsg (dOp (dI0 fun i j => .int (i + j)) (dOp dIxL (dVar 0) (dC (.int 1))) (dC (.int 1))) (dSetL 0 (dC (.int 1))))
    (dSeq (dAsg (dOp dIxL (dVar 0) (dC (.int 1))) (putO 1))
    (dSeq (dIfS (dTest (dOp dIxL (dVar 0) (dC (.int 2)))) (dSeq (dAsg (dOp (dI (fun _ j => 0 < j) fun i j => .int (i % j)) (dOp dIxL (dVar 0) (dC (.int 0))) (dC (.int 1000000))) (putO 2))
    (dSeq (dAsg (dOp (dI L2.CDiv fun i j => .int (i / j)) (dOp dIxL (dVar 0) (dC (.int 0))) (dC (.int 1000000))) (dSetL 0 (dC (.int 0))))
    (dRet [0] (dVar 2)))) dNext)
    (dSeq (dAsg (dOp (dI (fun _ j => 0 < j) fun i j => .int (i % j)) (dOp (dI L2.CMul fun i j => .int (i * j)) (dOp (dI0 fun i j => .int (i + j)) (dOp (dI0 fun i j => .int (i + j)) (dOp (dI (fun _ j => 0 < j) fun i j => .int (i % j)) (dOp dIxL (dVar 0) (dC (.int 0))) (dC (.int 1000003))) (dOp (dI L2.CMul fun i j => .int (i * j)) (dOp (dI L2.CMul fun i j => .int (i * j)) (dVar 1) (dVar 1)) (dC (.int 7919)))) (dVar 1)) (dC (.int 48271))) (dC (.int 2147483629))) (putO 2))
    (dSeq (dAsg (dOp (dI (fun _ j => 0 < j) fun i j => .int (i % j)) (dOp (dI L2.CMul fun i j => .int (i * j)) (dVar 2) (dVar 2)) (dC (.int 2147483587))) (putO 2))
    (dRet [0] (dOp (dI L2.CDiv fun i j => .int (i / j)) (dOp (dI (fun _ j => 0 < j) fun i j => .int (i % j)) (dOp (dI L2.CMul fun i j => .int (i * j)) (dVar 2) (dOp (dI0 fun i j => .int (i + j)) (dVar 2) (dC (.int 2)))) (dC (.int 2147483579))) (dC (.int 7)))))))))
def m_l_next : FZ := mBody [0] 2 mb_l_next
def b1_l_rows : DSt := (dSeq (dAsg (dCall 1 m_l_next [] (dCons (dVar 0) dNil)) (putO 8))
    (dSeq (dAsg (dOp (dI0 fun i j => .int (i + j)) (dOp (dI0 fun i j => .int (i + j)) (dVar 6) (dC (.int 1))) (dOp (dI (fun _ j => 0 < j) fun i j => .int (i % j)) (dVar 8) (dOp dIxL (dLst (dCons (dC (.int 2)) (dCons (dC (.int 9)) dNil))) (dOp (dI (fun _ j => 0 < j) fun i j => .int (i % j)) (dOp (dI L2.CDiv fun i j => .int (i / j)) (dVar 8) (dC (.int 16))) (dC (.int 2)))))) (putO 6))
    (dIfS (dTest (dOp (dI0 fun i j => .bl (decide (i ≤ j))) (dVar 6) (dVar 1))) (dDrop (dApp 2 (dTup (dCons (dVar 5) (dCons (dVar 6) (dCons (dOp dIxL (dLst (dCons (dOp (dI0 fun i j => .int (i - j)) (dOp (dI (fun _ j => 0 < j) fun i j => .int (i % j)) (dOp (dI L2.CDiv fun i j => .int (i / j)) (dVar 8) (dC (.int 32))) (dC (.int 9))) (dC (.int 4))) (dCons (dC .non) (dCons (dOp (dI L2.CMul fun i j => .int (i * j)) (dVar 8) (dC (.int 1000000))) (dCons (dC (.int 0)) dNil))))) (dOp (dI (fun _ j => 0 < j) fun i j => .int (i % j)) (dOp (dI L2.CDiv fun i j => .int (i / j)) (dVar 8) (dC (.int 8))) (dC (.int 4)))) dNil)))))) dNext)))
def b2_l_rows : DSt := (dSeq (dAsg (dCall 1 m_l_next [] (dCons (dVar 0) dNil)) (putO 4))
    (dSeq (dAsg (dOp (dI0 fun i j => .int (i + j)) (dOp dIxL (dLst (dCons (dVar 3) (dCons (dOp (dI L2.CMul fun i j => .int (i * j)) (dC (.int 10)) (dVar 3)) (dCons (dOp (dI0 fun i j => .int (i - j)) (dVar 3) (dC (.int 4))) (dCons (dOp (dI0 fun i j => .int (i - j)) (dOp (dI L2.CMul fun i j => .int (i * j)) (dVar 3) (dC (.int 1000000000))) (dC (.int 10000000000))) dNil))))) (dOp (dI (fun _ j => 0 < j) fun i j => .int (i % j)) (dVar 4) (dC (.int 4)))) (dOp (dI L2.CMul fun i j => .int (i * j)) (dC (.int 40)) (dOp (dI (fun _ j => 0 < j) fun i j => .int (i % j)) (dOp (dI L2.CDiv fun i j => .int (i / j)) (dVar 4) (dC (.int 4))) (dC (.int 3))))) (putO 5))
    (dSeq (dAsg (dC (.int 0)) (putO 6))
    (dFor [0, 1] (iR1 (dCons (dOp (dI0 fun i j => .int (i + j)) (dC (.int 1)) (dOp (dI (fun _ j => 0 < j) fun i j => .int (i % j)) (dCall 1 m_l_next [] (dCons (dVar 0) dNil)) (dC (.int 4)))) dNil)) (putO 7) b1_l_rows))))
def b3_l_rows : DSt := (dSeq (dAsg (dSortSet (dLc (iB (dVar 2)) (putO 9) (dTest (dOp dEqS (dOp dIxT (dVar 9) (dC (.int 0))) (dVar 5))) (dOp dIxT (dVar 9) (dC (.int 1))) [9])) (putO 12))
    (dAsg (dOp dCat (dVar 11) (dLc (iB (dVar 12)) (putO 6) dYes (dOp dIxL (dLc (iB (dVar 2)) (putO 9) (dTest (dOp dEqD (dSl sTup (dVar 9) dNoP (dPart (dC (.int 2)))) (dTup (dCons (dVar 5) (dCons (dVar 6) dNil))))) (dVar 9) [9]) (dC (.int 0))) [6])) (putO 11)))
def mb_l_rows : DSt := (dSeq (dAsg (dLst dNil) (putO 2))
    (dSeq (dFor [0, 1] (iR1 (dCons (dOp (dI (fun _ j => 0 < j) fun i j => .int (i % j)) (dCall 1 m_l_next [] (dCons (dVar 0) dNil)) (dC (.int 9))) dNil)) (putO 3) b2_l_rows)
    (dSeq (dAsg (dSortSet (dLc (iB (dVar 2)) (putO 9) dYes (dOp dIxT (dVar 9) (dC (.int 0))) [9])) (putO 10))
    (dSeq (dAsg (dLst dNil) (putO 11))
    (dSeq (dFor [0, 1] (iL (dVar 10)) (putO 5) b3_l_rows)
    (dRet [0, 1] (dVar 11)))))))
def m_l_rows : FZ := mBody [0, 1] 11 mb_l_rows
def b1_l_last : DSt := (dIfS (dTest (dOp (dI0 fun i j => .bl (decide (i ≤ j))) (dOp dIxT (dVar 3) (dC (.int 1))) (dVar 1))) (dDput 2 (dOp dIxT (dVar 3) (dC (.int 0))) (dVar 3)) dNext)
def mb_l_last : DSt := (dSeq (dAsg dDnew (putO 2))
    (dSeq (dFor [0, 1] (iB (dVar 0)) (putO 3) b1_l_last)
    (dRet [0, 1] (dVar 2))))
def m_l_last : FZ := mBody [0, 1] 2 mb_l_last
def mb_l_known : DSt := (dSeq (dAsg (dCall 2 m_l_last [] (dCons (dVar 0) (dCons (dVar 1) dNil))) (putO 2))
    (dRet [0, 1] (dLc (iL (dCB bSortDI (dCons (dVar 2) dNil))) (putO 3) (dTest (dOp dNotN (dOp dIxT (dDget (dVar 2) (dVar 3)) (dC (.int 2))) (dC .non))) (dTup (dCons (dVar 3) (dCons (dOp dIxT (dDget (dVar 2) (dVar 3)) (dC (.int 2))) dNil))) [3])))
def m_l_known : FZ := mBody [0, 1] 2 mb_l_known
def b1_l_changes : DSt := (dIfS (dTest (dOp dNeD (dDget1 (dVar 3) (dVar 6)) (dDget1 (dVar 4) (dVar 6)))) (dDrop (dApp 5 (dTup (dCons (dVar 6) (dCons (dDget1 (dVar 3) (dVar 6)) (dCons (dDget1 (dVar 4) (dVar 6)) dNil)))))) dNext)
def mb_l_changes : DSt := (dSeq (dAsg (dCB bDictP (dCons (dCall 2 m_l_known [] (dCons (dVar 0) (dCons (dVar 1) dNil))) dNil)) (putO 3))
    (dSeq (dAsg (dCB bDictP (dCons (dCall 2 m_l_known [] (dCons (dVar 0) (dCons (dVar 2) dNil))) dNil)) (putO 4))
    (dSeq (dAsg (dLst dNil) (putO 5))
    (dSeq (dFor [0, 1, 2] (iL (dSortSE (seLst (dOp dCat (dListK (dVar 3)) (dListK (dVar 4)))))) (putO 6) b1_l_changes)
    (dRet [0, 1, 2] (dVar 5))))))
def m_l_changes : FZ := mBody [0, 1, 2] 4 mb_l_changes
def mb_l_right : DSt := (dSeq (dAsg (dCB bList (dCons (dVar 0) dNil)) (putO 3))
    (dSeq (dAsg (dCall 2 m_known [] (dCons (dVar 3) (dCons (dVar 1) dNil))) (putO 4))
    (dSeq (dIfS (dOr (dNot (dTest (dCB bIsi (dCons (dVar 4) (dCons (dC (.ty "list")) dNil))))) (dTest (dOp dNeD (dVar 4) (dCall 2 m_l_known [] (dCons (dVar 0) (dCons (dVar 1) dNil)))))) (dRet [0, 1, 2] (dC (.bl false))) dNext)
    (dSeq (dDrop (dApp 4 (dC .non)))
    (dSeq (dIfS (dTest (dOp dNeD (dCallN 2 0 2 m_known [1, 0] dNil (dCons (dVar 1) (dCons (dVar 3) dNil))) (dCall 2 m_l_known [] (dCons (dVar 0) (dCons (dVar 1) dNil))))) (dRet [0, 1, 2] (dC (.bl false))) dNext)
    (dSeq (dAsg (dCall 3 m_changes [] (dCons (dVar 3) (dCons (dVar 1) (dCons (dVar 2) dNil)))) (putO 4))
    (dSeq (dIfS (dOr (dNot (dTest (dCB bIsi (dCons (dVar 4) (dCons (dC (.ty "list")) dNil))))) (dTest (dOp dNeD (dVar 4) (dCall 3 m_l_changes [] (dCons (dVar 0) (dCons (dVar 1) (dCons (dVar 2) dNil))))))) (dRet [0, 1, 2] (dC (.bl false))) dNext)
    (dSeq (dDrop (dApp 4 (dC .non)))
    (dSeq (dAsg (dLc (iL (dCall 3 m_l_changes [] (dCons (dVar 0) (dCons (dVar 1) (dCons (dVar 2) dNil))))) (putO 5) dYes (dTup (dCons (dOp dIxT (dVar 5) (dC (.int 0))) (dCons (dOp dIxT (dVar 5) (dC (.int 2))) (dCons (dOp dIxT (dVar 5) (dC (.int 1))) dNil)))) [5]) (putO 6))
    (dSeq (dIfS (dTest (dOp dNeD (dCallN 3 0 3 m_changes [2, 1, 0] dNil (dCons (dVar 1) (dCons (dVar 2) (dCons (dVar 3) dNil)))) (dVar 6))) (dRet [0, 1, 2] (dC (.bl false))) dNext)
    (dRet [0, 1, 2] (dOp dEqD (dVar 3) (dVar 0)))))))))))))
def m_l_right : FZ := mBody [0, 1, 2] 4 mb_l_right
def b1_law : DSt := (dIfS (dNot (dTest (dCall 3 m_l_right [] (dCons (dVar 3) (dCons (dVar 4) (dCons (dOp (dI (fun _ j => 0 < j) fun i j => .int (i % j)) (dCall 1 m_l_next [] (dCons (dVar 2) dNil)) (dC (.int 42))) dNil)))))) (dRet [0] (dC (.bl false))) dNext)
def b2_law : DSt := (dSeq (dAsg (dCall 1 m_l_draws [] (dCons (dVar 1) dNil)) (putO 2))
    (dSeq (dAsg (dCall 2 m_l_rows [] (dCons (dVar 2) (dCons (dC (.int 40)) dNil))) (putO 3))
    (dFor [0] (iL (dLst (dCons (dC (.int 0)) (dCons (dOp (dI (fun _ j => 0 < j) fun i j => .int (i % j)) (dCall 1 m_l_next [] (dCons (dVar 2) dNil)) (dC (.int 42))) (dCons (dC (.int 41)) dNil))))) (putO 4) b1_law)))
def mb_law : DSt := (dSeq (dFor [0] (iL (dOp dCat (dSl sLst (dVar 0) dNoP (dPart (dC (.int 8)))) (dLst (dCons (dC (.int 0)) dNil)))) (putO 1) b2_law)
    (dRet [0] (dC (.bl true))))
def m_law : FZ := mBody [0] 4 mb_law
/-! ### draws -/
def purse (n c : Int) (f : Bool) : T := .ls [.int n, .int c, .bl f]
theorem draws_ok (c : Int) {Q : T → List T → Prop} (h : ∀ n f, 0 ≤ n → Q (purse n 0 f) [.fr (.int c)]) : m_l_draws [.fr (.int c)] Q := by
  walk_at "z"
  refine forN.inv (fun i st => ∃ (z : Int) (v : Option T), st = [some (.fr (.int c)), some (.fr (.int z)), v] ∧ 0 < z ∧ z.natAbs < 2 ^ (200 * 2 ^ i)) ⟨10 ^ 60, none, rfl, by decide, by decide⟩ ?_ ?_
  · rintro i d st hi hd ⟨z, v, rfl, hz, hb⟩
    have hi : i < 7 := by simpa [upto] using hi
    walk_at "z"
    · refine ⟨z * z, _, rfl, Int.mul_pos hz hz, ?_⟩
      have e : 200 * 2 ^ (i + 1) = 200 * 2 ^ i + 200 * 2 ^ i := by omega
      rw [e]
      exact wide_lt hb hb
    · have h6 : 2 ^ i ≤ 2 ^ 6 := Nat.pow_le_pow_right (by decide) (by omega)
      have h1 : 1 ≤ 2 ^ i := Nat.one_le_two_pow
      exact wide_mul hb hb (by omega) (by omega) (by omega)
  · rintro st ⟨z, v, rfl, hz, hb⟩
    walk_at "z"
    exact h (c % z) _ (Int.emod_nonneg _ (by omega))
theorem next_ok (n c : Int) (f : Bool) (hn : 0 ≤ n) (hc : 0 ≤ c) (hm : c < 2 ^ 30) {Q : T → List T → Prop} (h : ∀ r n', 0 ≤ r → r < 306783369 → 0 ≤ n' → Q (.fr (.int r)) [purse n' (c + 1) f]) : m_l_next [purse n c f] Q := by
  walk_at "z"
  refine BR.both (fun hf => ?_) (fun hf => ?_)
  · walk_at "z"
    exact h _ _ (by omega) (by omega) (by omega)
  · walk_at "z"
    exact h _ _ (by omega) (by omega) (by omega)

/-! ### rows -/
abbrev Row := Int × Int × Option Int
def rowD (r : Row) : D := .tup [.int r.1, .int r.2.1, optD r.2.2]
def rowsD (rs : List Row) : D := .lst (rs.map rowD)
theorem enc_row : Enc rowD 1 := enc_tup3 enc_int enc_int enc_opt
theorem enc_rows : Enc rowsD 2 := enc_lst enc_row
/-- a list of rows, one's own or not -/
def IsRows (t : T) (rs : List Row) : Prop := t = .fr (rowsD rs) ∨ t = .ls (rs.map rowD)
def lastRows (n : Int) (rs : List Row) : List (Int × Row) := rs.foldl (fun m r => if r.2.1 ≤ n then putA m r.1 r else m) []
theorem last_take {n : Int} {rs : List Row} {i : Nat} {r : Row} (h : rs[i]? = some r) : lastRows n (rs.take (i + 1)) = if r.2.1 ≤ n then putA (lastRows n (rs.take i)) r.1 r else lastRows n (rs.take i) := by
  rw [List.take_add_one, h]
  unfold lastRows
  rw [Option.toList_some, List.foldl_append]
  rfl
theorem last_len (n : Int) (rs : List Row) : (lastRows n rs).length ≤ rs.length := by
  have : ∀ (rs : List Row) (m : List (Int × Row)), (rs.foldl (fun m r => if r.2.1 ≤ n then putA m r.1 r else m) m).length ≤ m.length + rs.length := by
    intro rs
    induction rs with
    | nil => intro m; exact Nat.le_refl _
    | cons r rs ih =>
      intro m
      rw [List.foldl_cons, List.length_cons]
      refine Nat.le_trans (ih _) ?_
      have := putA_len (m := m) (k := r.1) (v := r)
      split <;> omega
  have := this rs []
  simpa [lastRows] using this
theorem last_turn {n : Int} {rs : List Row} {t : T} {i : Nat} {d : D} {st : DS} {P : DS → Prop} {DE : DEnds} (hl : rs.length ≤ 1000) (hd : (rs.map rowD)[i]? = some d) (hst : ∃ v, st = [some t, some (.fr (.int n)), some (.dk (dictI rowD (lastRows n (rs.take i)))), v])
    (hP : ∀ v, DE.nx [some t, some (.fr (.int n)), some (.dk (dictI rowD (lastRows n (rs.take (i + 1))))), v]) : putO 3 (.tm (.fr d)) st fun st' => b1_last_rows DE st' := by
  obtain ⟨v, rfl⟩ := hst
  obtain ⟨r, hr, rfl⟩ := map_get hd
  have ll := last_len n (rs.take i)
  rw [List.length_take] at ll
  walk_at "z"
  refine BR.dec (fun h => ?_) (fun h => ?_)
  · walk_at "z"
    · rw [dictI_put]
      have := hP (some (.fr (rowD r)))
      rw [last_take hr, if_pos h] at this
      exact this
    · unfold dictI
      rw [List.length_map]
      omega
  · have := hP (some (.fr (rowD r)))
    rw [last_take hr, if_neg h] at this
    exact this
theorem last_ok {n : Int} {rs : List Row} {t : T} (ht : IsRows t rs) (hl : rs.length ≤ 1000) {Q : T → List T → Prop} (h : Q (.dk (dictI rowD (lastRows n rs))) [t, .fr (.int n)]) : m_last_rows [t, .fr (.int n)] Q := by
  have fin : ∀ (DE : DEnds) (st : DS), (∃ v, st = [some t, some (.fr (.int n)), some (.dk (dictI rowD (lastRows n (rs.take (rs.map rowD).length)))), v]) → DE.rt = (fun t' st => endT [0, 1] [t, .fr (.int n)] Q t' st) → dRet [0, 1] (dVar 2) DE st := by
    rintro DE st ⟨v, rfl⟩ e
    rw [List.length_map, List.take_length]
    show DE.rt _ _
    rw [e]
    exact h
  rcases ht with rfl | rfl
  · walk_at "z"
    refine forN.inv (fun i st => ∃ v, st = [some (.fr (rowsD rs)), some (.fr (.int n)), some (.dk (dictI rowD (lastRows n (rs.take i)))), v]) ⟨none, rfl⟩ ?_ ?_
    · intro i d st hi hd hst
      exact last_turn (P := fun _ => True) hl hd hst fun v => ⟨v, rfl⟩
    · intro st hst
      exact fin _ st hst rfl
  · walk_at "z"
    refine forK.inv (fun i st => ∃ v, st = [some (.ls (rs.map rowD)), some (.fr (.int n)), some (.dk (dictI rowD (lastRows n (rs.take i)))), v]) ⟨none, rfl⟩ ?_ ?_ ?_
    · rintro i st ⟨v, rfl⟩
      rfl
    · intro i d st hi hd hst
      exact last_turn (P := fun _ => True) hl hd hst fun v => ⟨v, rfl⟩
    · intro st hst
      exact fin _ st hst rfl
/-- what is known: times and worths -/
def knownL (n : Int) (rs : List Row) : List (Int × Int) := (lastRows n rs).filterMap fun p => p.2.2.2.map fun w => (p.1, w)
def pairD (p : Int × Int) : D := .tup [.int p.1, .int p.2]
theorem enc_pairs : Enc (fun l : List (Int × Int) => D.lst (l.map pairD)) 2 := enc_lst (enc_tup2 enc_int enc_int)
theorem known_ok {n : Int} {rs : List Row} {t : T} (ht : IsRows t rs) (hl : rs.length ≤ 1000) {Q : T → List T → Prop} (h : Q (.ls ((knownL n rs).map pairD)) [t, .fr (.int n)]) : m_known [t, .fr (.int n)] Q := by
  have ll := last_len n rs
  rcases ht with rfl | rfl
  all_goals
    walk_at "z"
    refine CALL.mk (last_ok (by first | exact .inl rfl | exact .inr rfl) hl ?_)
    walk_at "z"
    refine LC.typed (enc := fun p : Int × Row => D.tup [.int p.1, rowD p.2]) (out := pairD) (fun p => p.2.2.2.map fun w => (p.1, w)) dictI_items (by omega) ?_ ?_
    · rintro ⟨k, r1, r2, w⟩ _ Y N hy
      walk_at "z"
      cases w with
      | none => exact BR.f hy
      | some w =>
        refine BR.t ?_
        walk_at "z"
        exact hy
    · exact h

theorem valA_put {α : Type} (k : Int) (v : α) (t : Int) : ∀ m : List (Int × α), valA (putA m k v) t = if t = k then some v else valA m t := by
  intro m
  have e1 : ∀ m : List (Int × α), valA (m.map fun p => if p.1 = k then (p.1, v) else p) t = if t = k then (valA m t).map (fun _ => v) else valA m t := by
    intro m
    induction m with
    | nil => simp [valA]
    | cons p m ih =>
      unfold valA at ih ⊢
      rw [List.map_cons]
      by_cases h1 : p.1 = k
      · rw [if_pos h1]
        by_cases h2 : p.1 = t
        · rw [List.find?_cons_of_pos (by simpa using h2), List.find?_cons_of_pos (by simpa using h2), if_pos (h2.symm.trans h1)]
          rfl
        · rw [List.find?_cons_of_neg (by simpa using h2), List.find?_cons_of_neg (by simpa using h2), ih]
      · rw [if_neg h1]
        by_cases h2 : p.1 = t
        · rw [List.find?_cons_of_pos (by simpa using h2), List.find?_cons_of_pos (by simpa using h2), if_neg (fun h => h1 (h2.trans h))]
        · rw [List.find?_cons_of_neg (by simpa using h2), List.find?_cons_of_neg (by simpa using h2), ih]
  unfold putA
  split
  · rename_i h
    rw [e1]
    split
    · rename_i ht
      subst ht
      obtain ⟨p, hp, hk⟩ := List.any_eq_true.mp h
      unfold valA
      cases e : m.find? fun p => decide (p.1 = t) with
      | none =>
        rw [List.find?_eq_none] at e
        exact absurd hk (e p hp)
      | some q => rfl
    · rfl
  · rename_i h
    unfold valA
    rw [List.find?_append]
    split
    · rename_i ht
      subst ht
      have : m.find? (fun p => decide (p.1 = t)) = none := by
        rw [List.find?_eq_none]
        intro p hp hk
        exact h (List.any_eq_true.mpr ⟨p, hp, hk⟩)
      rw [this]
      simp
    · rename_i ht
      have : [(k, v)].find? (fun p => decide (p.1 = t)) = none := by
        rw [List.find?_cons_of_neg (by simpa using fun h => ht h.symm)]
        rfl
      rw [this]
      simp
/-- the rows of a time up to a number -/
def upTo (n t : Int) (r : Row) : Bool := decide (r.1 = t) && decide (r.2.1 ≤ n)
theorem val_last (n t : Int) (rs : List Row) : valA (lastRows n rs) t = (rs.filter (upTo n t)).getLast? := by
  have : ∀ (rs : List Row) (m : List (Int × Row)), valA (rs.foldl (fun m r => if r.2.1 ≤ n then putA m r.1 r else m) m) t = ((rs.filter (upTo n t)).getLast?).or (valA m t) := by
    intro rs
    induction rs with
    | nil => intro m; rfl
    | cons r rs ih =>
      intro m
      rw [List.foldl_cons, ih]
      by_cases h1 : r.2.1 ≤ n
      · rw [if_pos h1, valA_put]
        by_cases h2 : r.1 = t
        · rw [if_pos h2.symm, List.filter_cons_of_pos (by simp [upTo, h1, h2]), List.getLast?_cons]
          cases (rs.filter (upTo n t)).getLast? <;> rfl
        · rw [if_neg (fun h => h2 h.symm), List.filter_cons_of_neg (by simp [upTo, h2])]
      · rw [if_neg h1, List.filter_cons_of_neg (by simp [upTo, h1])]
  have h := this rs []
  rw [show valA ([] : List (Int × Row)) t = none from rfl, Option.or_none] at h
  exact h
theorem val_some {n : Int} {rs : List Row} {r : Row} (h : r ∈ rs) (hn : r.2.1 ≤ n) : ∃ r', valA (lastRows n rs) r.1 = some r' := by
  rw [val_last]
  have : r ∈ rs.filter (upTo n r.1) := List.mem_filter.mpr ⟨h, by simp [upTo, hn]⟩
  cases e : (rs.filter (upTo n r.1)).getLast? with
  | none =>
    rw [List.getLast?_eq_none_iff] at e
    rw [e] at this
    cases this
  | some q => exact ⟨q, rfl⟩
/-! ### in order -/
def ltR (a b : Row) : Prop := a.1 < b.1 ∨ a.1 = b.1 ∧ a.2.1 < b.2.1
theorem lt_ne {a b : Row} (h : ltR a b) : a ≠ b := fun e => by
  subst e
  unfold ltR at h
  omega
theorem putA_keys {m : List (Int × Row)} {k : Int} {v : Row} (h : (m.map (·.1)).Pairwise (· < ·)) (hk : ∀ p ∈ m, p.1 ≤ k) : ((putA m k v).map (·.1)).Pairwise (· < ·) ∧ ∀ p ∈ putA m k v, p.1 ≤ k := by
  unfold putA
  split
  · have e : (m.map fun p => if p.1 = k then (p.1, v) else p).map (·.1) = m.map (·.1) := by
      rw [List.map_map]
      congr 1
      funext p
      show (if p.1 = k then (p.1, v) else p).1 = p.1
      split <;> rfl
    rw [e]
    refine ⟨h, fun p hp => ?_⟩
    obtain ⟨q, hq, rfl⟩ := List.mem_map.mp hp
    have := hk q hq
    split <;> exact this
  · rename_i hn
    rw [List.map_append, List.pairwise_append]
    refine ⟨⟨h, by simp, fun x hx y hy => ?_⟩, fun p hp => ?_⟩
    · obtain ⟨p, hp, rfl⟩ := List.mem_map.mp hx
      have : y = k := by simpa using hy
      subst this
      have h1 := hk p hp
      have h2 : p.1 ≠ y := fun e => hn (List.any_eq_true.mpr ⟨p, hp, by simpa using e⟩)
      omega
    · rcases List.mem_append.mp hp with h | h
      · exact hk p h
      · have : p = (k, v) := by simpa using h
        rw [this]
        exact Int.le_refl _
theorem last_keys0 (n : Int) : ∀ (rs : List Row) (m : List (Int × Row)), rs.Pairwise ltR → (m.map (·.1)).Pairwise (· < ·) → (∀ p ∈ m, ∀ r ∈ rs, p.1 ≤ r.1) →
    ((rs.foldl (fun m r => if r.2.1 ≤ n then putA m r.1 r else m) m).map (·.1)).Pairwise (· < ·)
  | [], m, _, h, _ => h
  | r :: rs, m, hs, h, hk => by
    rw [List.pairwise_cons] at hs
    rw [List.foldl_cons]
    have hr := fun x hx => hs.1 x hx
    split
    · obtain ⟨h1, h2⟩ := putA_keys (v := r) h (fun p hp => hk p hp r (List.mem_cons_self ..))
      refine last_keys0 n rs _ hs.2 h1 fun p hp x hx => ?_
      have h3 := h2 p hp
      have h4 := hs.1 x hx
      unfold ltR at h4
      omega
    · exact last_keys0 n rs m hs.2 h fun p hp x hx => hk p hp x (List.mem_cons_of_mem _ hx)
theorem last_keys {n : Int} {rs : List Row} (h : rs.Pairwise ltR) : ((lastRows n rs).map (·.1)).Pairwise (· < ·) := last_keys0 n rs [] h .nil fun p hp => by cases hp
theorem val_mem {m : List (Int × Row)} : ∀ {p : Int × Row}, (m.map (·.1)).Pairwise (· < ·) → p ∈ m → valA m p.1 = some p.2 := by
  induction m with
  | nil => intro p _ h; cases h
  | cons q m ih =>
    intro p h hp
    rw [List.map_cons, List.pairwise_cons] at h
    unfold valA at ih ⊢
    rcases List.mem_cons.mp hp with rfl | hp
    · rw [List.find?_cons_of_pos (by simp)]
      rfl
    · rw [List.find?_cons_of_neg (by
        have := h.1 p.1 (List.mem_map.mpr ⟨p, hp, rfl⟩)
        simp
        omega)]
      exact ih h.2 hp
theorem mem_val {α : Type} {m : List (Int × α)} {t : Int} {v : α} (h : valA m t = some v) : (t, v) ∈ m := by
  unfold valA at h
  cases e : m.find? fun p => decide (p.1 = t) with
  | none => rw [e] at h; cases h
  | some p =>
    rw [e] at h
    cases h
    have h1 := List.find?_some e
    have h2 : p.1 = t := by simpa using h1
    rw [← h2]
    exact List.mem_of_find?_eq_some e
theorem known_mem {n : Int} {rs : List Row} (h : rs.Pairwise ltR) (p : Int × Int) : p ∈ knownL n rs ↔ ∃ r, (rs.filter (upTo n p.1)).getLast? = some r ∧ r.2.2 = some p.2 := by
  unfold knownL
  rw [List.mem_filterMap]
  constructor
  · rintro ⟨q, hq, e⟩
    have hv := val_mem (last_keys h) hq
    rw [val_last] at hv
    cases ew : q.2.2.2 with
    | none => rw [ew] at e; cases e
    | some w =>
      rw [ew] at e
      cases e
      exact ⟨q.2, hv, ew⟩
  · rintro ⟨r, e1, e2⟩
    rw [← val_last] at e1
    exact ⟨(p.1, r), mem_val e1, by simp [e2]⟩
theorem known_sorted {n : Int} {rs : List Row} (h : rs.Pairwise ltR) : (knownL n rs).Pairwise fun a b => a.1 < b.1 := by
  have := last_keys (n := n) h
  rw [List.pairwise_map] at this
  unfold knownL
  rw [List.pairwise_filterMap]
  refine this.imp fun {a b} hab x hx y hy => ?_
  cases ea : a.2.2.2 with
  | none => rw [ea] at hx; cases hx
  | some w =>
    cases eb : b.2.2.2 with
    | none => rw [eb] at hy; cases hy
    | some u =>
      rw [ea] at hx
      rw [eb] at hy
      cases hx
      cases hy
      exact hab
theorem sorted_eq {xs ys : List (Int × Int)} (hx : xs.Pairwise fun a b => a.1 < b.1) (hy : ys.Pairwise fun a b => a.1 < b.1) (h : ∀ p, p ∈ xs ↔ p ∈ ys) : xs = ys := by
  have nx : xs.Nodup := hx.imp fun {a b} h e => by subst e; omega
  have ny : ys.Nodup := hy.imp fun {a b} h e => by subst e; omega
  have pm : xs.Perm ys := (List.perm_ext_iff_of_nodup nx ny).mpr h
  refine pm.eq_of_pairwise (le := fun a b => a.1 < b.1) ?_ hx hy
  intro a b _ _ h1 h2
  omega

theorem optD_isN (o : Option Int) : (optD o).isN = o.isNone := by cases o <;> rfl
theorem filterMap_guard {α : Type} (p : α → Bool) : ∀ l : List α, (l.filterMap fun a => if p a = true then some a else none) = l.filter p
  | [] => rfl
  | a :: l => by
    rw [List.filterMap_cons]
    cases h : p a
    · rw [List.filter_cons_of_neg (by simp [h])]
      exact filterMap_guard p l
    · rw [List.filter_cons_of_pos h, ← filterMap_guard p l]
      rfl
theorem l_last_eq : m_l_last = m_last_rows := rfl
theorem sort_eq {xs ys : List Int} (h : xs.Perm ys) (hx : xs.Pairwise (· ≤ ·)) (hy : ys.Pairwise (· < ·)) : xs = ys := by
  refine List.Perm.eq_of_pairwise (le := fun a b => a ≤ b) ?_ hx (hy.imp fun h => Int.le_of_lt h) h
  intro a b _ _ h1 h2
  exact Int.le_antisymm h1 h2
theorem l_known_ok {n : Int} {rs : List Row} {t : T} (ht : IsRows t rs) (hl : rs.length < 64) (hs : rs.Pairwise ltR) {Q : T → List T → Prop} (h : Q (.ls ((knownL n rs).map pairD)) [t, .fr (.int n)]) : m_l_known [t, .fr (.int n)] Q := by
  have ll := last_len n rs
  rcases ht with rfl | rfl
  all_goals
    walk_at "z"
    refine CALL.mk (last_ok (by first | exact .inl rfl | exact .inr rfl) (by omega) ?_)
    walk_at "z"
    refine ⟨(lastRows n rs).map (·.1), dictI_keys, by rw [List.length_map]; omega, fun ys hp hw => ?_⟩
    have ey := sort_eq hp hw (last_keys hs)
    subst ey
    refine LC.typed (enc := fun p : Int × Row => D.int p.1) (out := pairD) (l := lastRows n rs) (fun p => p.2.2.2.map fun w => (p.1, w)) (by rw [List.map_map]; rfl) (by omega) ?_ ?_
    · rintro ⟨k, r1, r2, w⟩ hm Y N hy
      have hv := val_mem (last_keys hs) hm
      walk_at "z"
      refine KG.mk (rowD (r1, r2, w)) (by rw [dictI_get, hv]; rfl) ?_
      walk_at "z"
      cases w with
      | none => exact BR.f hy
      | some w =>
        refine BR.t ?_
        walk_at "z"
        refine KG.mk (rowD (r1, r2, some w)) (by rw [dictI_get, hv]; rfl) ?_
        walk_at "z"
        exact hy
    · exact h

/-- nothing of one's own stands there -/
def Pl (v : Option T) : Prop := v = none ∨ ∃ d, v = some (.fr d)
theorem nodup_len {α : Type} [DecidableEq α] : ∀ {l m : List α}, l.Pairwise (· ≠ ·) → (∀ x ∈ l, x ∈ m) → l.length ≤ m.length
  | [], _, _, _ => Nat.zero_le _
  | x :: l, m, h, hm => by
    rw [List.pairwise_cons] at h
    have hx : x ∈ m := hm x (List.mem_cons_self ..)
    have := nodup_len (l := l) (m := m.erase x) h.2 fun y hy => (List.mem_erase_of_ne (h.1 y hy).symm).mpr (hm y (List.mem_cons_of_mem _ hy))
    rw [List.length_erase_of_mem hx] at this
    have := List.length_pos_of_mem hx
    rw [List.length_cons]
    omega
theorem take_lt {ys : List Int} {i : Nat} {t x : Int} (h : ys.Pairwise (· < ·)) (e : ys[i]? = some t) (hx : x ∈ ys.take i) : x < t := by
  obtain ⟨j, hj, rfl⟩ := List.mem_iff_getElem.mp hx
  obtain ⟨hi, rfl⟩ := List.getElem?_eq_some_iff.mp e
  rw [List.length_take] at hj
  rw [List.getElem_take]
  exact List.pairwise_iff_getElem.mp h j i (by omega) hi (by omega)
theorem fm_some {α β : Type} (g : α → β) (l : List α) : l.filterMap (fun a => some (g a)) = l.map g := congrFun List.filterMap_eq_map l
theorem fm_if {α β : Type} (p : α → Bool) (g : α → β) : ∀ l : List α, (l.filterMap fun a => if p a = true then some (g a) else none) = (l.filter p).map g
  | [] => rfl
  | a :: l => by
    rw [List.filterMap_cons]
    cases h : p a
    · rw [List.filter_cons_of_neg (by simp [h])]
      exact fm_if p g l
    · rw [List.filter_cons_of_pos h, List.map_cons, ← fm_if p g l]
      rfl
theorem enc_pair : Enc pairD 1 := enc_tup2 enc_int enc_int
theorem rows_ok (n c most : Int) (f : Bool) (hn : 0 ≤ n) (hc : 0 ≤ c) (hm : c < 100000) {Q : T → List T → Prop} (h : ∀ (rs : List Row) (n' c' : Int), rs.Pairwise ltR → rs.length < 64 → 0 ≤ n' → 0 ≤ c' → c' ≤ c + 60 → Q (.ls (rs.map rowD)) [purse n' c' f, .fr (.int most)]) : m_l_rows [purse n c f, .fr (.int most)] Q := by
  walk_at "z"
  refine CALL.mk (next_ok _ _ _ hn hc (by omega) fun z n1 z0 z1 hn1 => ?_)
  walk_at "z"
  refine forN.inv (fun i st => ∃ (told : List Row) (n' c' : Int) (v3 v4 v5 v6 v7 v8 : Option T), st = [some (purse n' c' f), some (.fr (.int most)), some (.ls (told.map rowD)), v3, v4, v5, v6, v7, v8, none, none, none, none] ∧ 0 ≤ n' ∧ 0 ≤ c' ∧ c' ≤ c + 1 + 6 * i ∧ told.length ≤ 4 * i ∧ Pl v6)
    ⟨[], n1, c + 1, _, _, _, _, _, _, rfl, hn1, by omega, by omega, Nat.le_refl _, .inl rfl⟩ ?_ ?_
  · rintro i d st hi hd ⟨told, n2, c2, v3, v4, v5, v6, v7, v8, rfl, hn2, hc2, hcb, htl, hp6⟩
    obtain ⟨hi, rfl⟩ := upto_get hd
    have hi9 : i < 9 := by omega
    walk_at "z"
    refine CALL.mk (next_ok _ _ _ hn2 hc2 (by omega) fun pk n3 pk0 pk1 hn3 => ?_)
    walk_at "z"
    refine IX.bnd (-10000000000) 100 (by walk_at "z_b") ⟨by omega, by simp; omega⟩ (fun tm _ _ => ?_)
    walk_at "zd"
    generalize tm + 40 * (pk / 4 % 3) = time
    refine CALL.mk (next_ok _ _ _ hn3 (by omega) (by omega) fun z2 n4 _ _ hn4 => ?_)
    walk_at "z"
    refine forN.inv (fun j st => ∃ (told : List Row) (n' c' nr : Int) (v7 v8 : Option T), st = [some (purse n' c' f), some (.fr (.int most)), some (.ls (told.map rowD)), some (.fr (.int (0 + (i : Nat)))), some (.fr (.int pk)), some (.fr (.int time)), some (.fr (.int nr)), v7, v8, none, none, none, none] ∧ 0 ≤ n' ∧ 0 ≤ c' ∧ c' ≤ c + 3 + 6 * i + j ∧ told.length ≤ 4 * i + j ∧ 0 ≤ nr ∧ nr ≤ 10 * j)
      ⟨told, n4, c2 + 1 + 1, 0, _, _, rfl, hn4, by omega, by omega, by omega, by omega, by omega⟩ ?_ ?_
    · rintro j d st hj hd ⟨told, n5, c5, nr, v7, v8, rfl, hn5, hc5, hcb5, htl5, hr0, hr1⟩
      obtain ⟨hj, rfl⟩ := upto_get hd
      have hj4 : j < 4 := by omega
      walk_at "z"
      refine CALL.mk (next_ok _ _ _ hn5 hc5 (by omega) fun so n6 _ _ hn6 => ?_)
      walk_at "z"
      refine IX.bnd 2 9 (by walk_at "z_b") ⟨by omega, by simp; omega⟩ (fun mo mo0 mo1 => ?_)
      have hmo := Int.emod_nonneg so (show mo ≠ 0 by omega)
      have hmo2 := Int.emod_lt_of_pos so (show 0 < mo by omega)
      walk_at "zd"
      generalize en : nr + 1 + so % mo = num
      refine BR.dec (fun hle => ?_) (fun hgt => ?_)
      · walk_at "z"
        refine IX.all (fun d => ∃ o, d = optD o) (fun d hd => ?_) ⟨by omega, by simp; omega⟩ (fun d ⟨o, eo⟩ => ?_)
        · simp at hd
          rcases hd with rfl | rfl | rfl | rfl
          · exact ⟨some _, rfl⟩
          · exact ⟨none, rfl⟩
          · exact ⟨some _, rfl⟩
          · exact ⟨some _, rfl⟩
        subst eo
        walk_at "z"
        · refine ⟨told ++ [(time, num, o)], n6, c5 + 1, num, _, _, by rw [List.map_append]; rfl, hn6, by omega, by omega, by simp; omega, by omega, by omega⟩
        · rw [List.length_map]; omega
      · walk_at "z"
        exact ⟨told, n6, c5 + 1, num, _, _, rfl, hn6, by omega, by omega, by omega, by omega, by omega⟩
    · rintro st ⟨told, n5, c5, nr, v7, v8, rfl, hn5, hc5, hcb5, htl5, hr0, hr1⟩
      rw [upto_len] at hcb5 htl5
      exact ⟨told, n5, c5, _, _, _, _, _, _, rfl, hn5, hc5, by omega, by omega, .inr ⟨_, rfl⟩⟩
  · rintro st ⟨told, n2, c2, v3, v4, v5, v6, v7, v8, rfl, hn2, hc2, hcb, htl, hp6⟩
    rw [upto_len] at hcb htl
    have hz8 : (z % 9).toNat ≤ 8 := by omega
    walk_at "z"
    refine LC.typed (enc := rowD) (out := D.int) (fun r => some r.1) rfl (by omega) ?_ ?_
    · intro r _ Y N hy
      walk_at "z"
      exact hy
    walk_at "z"
    refine ⟨_, rfl, Nat.lt_of_le_of_lt (List.length_filterMap_le _ _) (by omega), fun ys hyw hym => ?_⟩
    rw [fm_some] at hym
    walk_at "z"
    refine forN.inv (fun i st => ∃ (found : List Row) (v5 v6 v12 : Option T), st = [some (purse n2 c2 f), some (.fr (.int most)), some (.ls (told.map rowD)), v3, v4, v5, v6, v7, v8, none, some (.fr (.lst (ys.map D.int))), some (.ls (found.map rowD)), v12] ∧ found.Pairwise ltR ∧ (∀ r ∈ found, r ∈ told ∧ r.1 ∈ ys.take i) ∧ Pl v6)
      ⟨[], _, _, _, rfl, .nil, fun r hr => (by cases hr), hp6⟩ ?_ ?_
    · rintro i d st hi hd ⟨found, v5, v6, v12, rfl, hpw, hmem, hp6⟩
      obtain ⟨t, ht, rfl⟩ := map_get hd
      walk_at "z"
      refine LC.typed (enc := rowD) (out := D.int) (fun r => if decide (r.1 = t) = true then some r.2.1 else none) rfl (by omega) ?_ ?_
      · intro r _ Y N hy
        walk_at "z"
        refine BR.dec (fun he => ?_) (fun he => ?_)
        · walk_at "z"
          rw [decide_eq_true he] at hy
          exact hy
        · rw [decide_eq_false he] at hy
          exact hy
      walk_at "z"
      refine ⟨_, rfl, Nat.lt_of_le_of_lt (List.length_filterMap_le _ _) (by omega), fun ns hnw hnm => ?_⟩
      rw [fm_if] at hnm
      have hnl : ns.length ≤ told.length := by
        have h1 := nodup_len (l := ns) (m := (told.filter fun r => decide (r.1 = t)).map (·.2.1)) (hnw.imp fun h => by omega) fun x hx => (hnm x).mp hx
        rw [List.length_map] at h1
        exact Nat.le_trans h1 (List.length_filter_le _ _)
      walk_at "z"
      refine LC.typed (enc := D.int) (out := rowD) (fun n => told.find? fun r => decide (r.1 = t ∧ r.2.1 = n)) rfl (by omega) ?_ ?_ (hp := by rcases hp6 with rfl | ⟨_, rfl⟩ <;> rfl)
      · intro u hu Y N hy
        obtain ⟨r, hfr⟩ : ∃ r, told.find? (fun r => decide (r.1 = t ∧ r.2.1 = u)) = some r := by
          cases e : told.find? (fun r => decide (r.1 = t ∧ r.2.1 = u)) with
          | none =>
            rw [List.find?_eq_none] at e
            obtain ⟨r, hr, h⟩ := List.mem_map.mp ((hnm u).mp hu)
            obtain ⟨h1, h2⟩ := List.mem_filter.mp hr
            exact absurd (decide_eq_true ⟨by simpa using h2, h⟩) (e r h1)
          | some r => exact ⟨r, rfl⟩
        rw [hfr] at hy
        walk_at "z"
        refine LC.typed (enc := rowD) (out := rowD) (fun r => if decide (r.1 = t ∧ r.2.1 = u) = true then some r else none) rfl (by omega) ?_ ?_
        · intro r _ Y N hy
          walk_at "z"
          refine enc_pair.eqv (a := (r.1, r.2.1)) (b := (t, u)) ?_
          walk_at "z"
          refine BR.dec (fun he => ?_) (fun he => ?_)
          · walk_at "z"
            rw [decide_eq_true (by simpa using he)] at hy
            exact hy
          · rw [decide_eq_false (by simpa using he)] at hy
            exact hy
        walk_at "z"
        refine IX.mk (rowD r) ?_ hy
        refine atI_nat (j := 0) ?_
        rw [filterMap_guard (fun r : Row => decide (r.1 = t ∧ r.2.1 = u)), List.getElem?_map, ← List.head?_eq_getElem?, List.head?_filter, hfr]
        rfl
      have hB : ∀ b ∈ ns.filterMap (fun n => told.find? fun r => decide (r.1 = t ∧ r.2.1 = n)), b ∈ told ∧ b.1 = t := fun b hb => by
        obtain ⟨n, _, h⟩ := List.mem_filterMap.mp hb
        have := List.find?_some h
        simp at this
        exact ⟨List.mem_of_find?_eq_some h, this.1⟩
      have hlen : found.length ≤ told.length := nodup_len (hpw.imp lt_ne) fun r hr => (hmem r hr).1
      walk_at "z"
      · refine ⟨found ++ ns.filterMap (fun n => told.find? fun r => decide (r.1 = t ∧ r.2.1 = n)), _, _, _, by rw [List.map_append]; rfl, ?_, ?_, hp6⟩
        · rw [List.pairwise_append]
          refine ⟨hpw, ?_, fun x hx y hy => ?_⟩
          · rw [List.pairwise_filterMap]
            refine hnw.imp fun {n1 n2} h x hx y hy => ?_
            have h1 := List.find?_some hx
            have h2 := List.find?_some hy
            simp at h1 h2
            exact .inr ⟨h1.1.trans h2.1.symm, by omega⟩
          · refine .inl ?_
            rw [(hB y hy).2]
            exact take_lt hyw ht (hmem x hx).2
        · intro r hr
          rw [List.take_add_one, ht]
          rcases List.mem_append.mp hr with h | h
          · exact ⟨(hmem r h).1, List.mem_append_left _ (hmem r h).2⟩
          · exact ⟨(hB r h).1, List.mem_append_right _ (by rw [(hB r h).2]; simp)⟩
      · rw [List.length_map, List.length_map]
        have := List.length_filterMap_le (fun n => told.find? fun r => decide (r.1 = t ∧ r.2.1 = n)) ns
        omega
    · rintro st ⟨found, v5, v6, v12, rfl, hpw, hmem, hp6⟩
      have hlen : found.length ≤ told.length := nodup_len (hpw.imp lt_ne) fun r hr => (hmem r hr).1
      walk_at "z"
      exact h found n2 c2 hpw (by omega) hn2 hc2 (by omega)

/-! ### changes -/
theorem fold_put {α : Type} : ∀ (m m0 : List (Int × α)), ((m0 ++ m).map (·.1)).Nodup → m.foldl (fun acc p => putA acc p.1 p.2) m0 = m0 ++ m
  | [], m0, _ => (List.append_nil _).symm
  | p :: m, m0, h => by
    rw [List.foldl_cons]
    have hn : (m0.any fun q => decide (q.1 = p.1)) = false := by
      rw [List.any_eq_false]
      intro q hq e
      rw [List.map_append, List.nodup_append] at h
      exact h.2.2 q.1 (List.mem_map.mpr ⟨q, hq, rfl⟩) p.1 (by simp) (by simpa using e)
    have e : putA m0 p.1 p.2 = m0 ++ [p] := by
      unfold putA
      rw [if_neg (by rw [hn]; exact Bool.false_ne_true)]
    rw [e, fold_put m (m0 ++ [p]) (by rw [List.append_assoc]; exact h), List.append_assoc]
    rfl
theorem merge_dictI {m : List (Int × Int)} (h : m.Pairwise fun a b => a.1 < b.1) : mergeD (dictI D.int m) = dictI D.int m := by
  have nd : (m.map (·.1)).Nodup := by
    unfold List.Nodup
    rw [List.pairwise_map]
    exact h.imp fun {a b} h e => by omega
  have e : ∀ (m m0 : List (Int × Int)), (dictI D.int m).foldl (fun acc p => kvPut acc p.1 p.2) (dictI D.int m0) = dictI D.int (m.foldl (fun acc p => putA acc p.1 p.2) m0) := by
    intro m
    induction m with
    | nil => intro m0; rfl
    | cons p m ih =>
      intro m0
      show (dictI D.int m).foldl _ (kvPut (dictI D.int m0) (.inl p.1) (D.int p.2)) = _
      rw [dictI_put, ih]
      rfl
  show (dictI D.int m).foldl (fun acc p => kvPut acc p.1 p.2) (dictI D.int []) = _
  rw [e, fold_put m [] nd]
  rfl
theorem getD_optD (o : Option Int) : (o.map D.int).getD .non = optD o := by cases o <;> rfl
def valK (n : Int) (rs : List Row) (t : Int) : Option Int := valA (knownL n rs) t
/-- the times known at one of two numbers -/
def IsT (a b : Int) (rs : List Row) (ys : List Int) : Prop := ys.Pairwise (· < ·) ∧ ∀ k : Int, k ∈ ys ↔ k ∈ (knownL a rs).map (·.1) ++ (knownL b rs).map (·.1)
theorem isT_uniq {a b : Int} {rs : List Row} {xs ys : List Int} (hx : IsT a b rs xs) (hy : IsT a b rs ys) : xs = ys := by
  have nx : xs.Nodup := hx.1.imp fun {a b} h e => by omega
  have ny : ys.Nodup := hy.1.imp fun {a b} h e => by omega
  exact sort_eq ((List.perm_ext_iff_of_nodup nx ny).mpr fun k => (hx.2 k).trans (hy.2 k).symm) (hx.1.imp fun h => by omega) hy.1
theorem isT_swap {a b : Int} {rs : List Row} {ys : List Int} (h : IsT a b rs ys) : IsT b a rs ys := ⟨h.1, fun k => by rw [h.2, List.mem_append, List.mem_append]; exact Or.comm⟩
abbrev Chg := Int × Option Int × Option Int
def chD (c : Chg) : D := .tup [.int c.1, optD c.2.1, optD c.2.2]
theorem enc_chs : Enc (fun l : List Chg => D.lst (l.map chD)) 2 := enc_lst (enc_tup3 enc_int enc_opt enc_opt)
def chg (a b : Int) (rs : List Row) (t : Int) : Option Chg := if decide (valK a rs t ≠ valK b rs t) = true then some (t, valK a rs t, valK b rs t) else none
theorem known_times {n : Int} {rs : List Row} (h : rs.Pairwise ltR) {k : Int} (hk : k ∈ (knownL n rs).map (·.1)) : k ∈ rs.map (·.1) := by
  obtain ⟨p, hp, rfl⟩ := List.mem_map.mp hk
  obtain ⟨r, e, _⟩ := (known_mem h p).mp hp
  have := List.mem_of_getLast? e
  obtain ⟨h1, h2⟩ := List.mem_filter.mp this
  unfold upTo at h2
  simp at h2
  exact List.mem_map.mpr ⟨r, h1, h2.1⟩
theorem known_len (n : Int) (rs : List Row) : (knownL n rs).length ≤ rs.length := Nat.le_trans (List.length_filterMap_le _ _) (last_len n rs)
theorem pairs_dict (l : List (Int × Int)) : l.map pairD = (dictI D.int l).map fun p => .tup [kD p.1, p.2] := by
  unfold dictI
  rw [List.map_map]
  rfl
theorem changes_ok {a b : Int} {rs : List Row} {t : T} (ht : IsRows t rs) (hs : rs.Pairwise ltR) (hl : rs.length < 64) {Q : T → List T → Prop} (h : ∀ ys, IsT a b rs ys → Q (.ls ((ys.filterMap (chg a b rs)).map chD)) [t, .fr (.int a), .fr (.int b)]) :
    m_changes [t, .fr (.int a), .fr (.int b)] Q := by
  have la := known_len a rs
  have lb := known_len b rs
  rcases ht with rfl | rfl
  all_goals
    walk_at "z"
    refine CALL.mk (known_ok (by first | exact .inl rfl | exact .inr rfl) (by omega) ?_)
    walk_at "z"
    refine ⟨dictI D.int (knownL a rs), pairs_dict _, ?_⟩
    rw [merge_dictI (known_sorted hs)]
    walk_at "z"
    refine CALL.mk (known_ok (by first | exact .inl rfl | exact .inr rfl) (by omega) ?_)
    walk_at "z"
    refine ⟨dictI D.int (knownL b rs), pairs_dict _, ?_⟩
    rw [merge_dictI (known_sorted hs)]
    walk_at "z"
    refine ⟨(knownL a rs).map (·.1), dictI_keys, by rw [List.length_map]; omega, ?_⟩
    walk_at "z"
    refine ⟨(knownL b rs).map (·.1), dictI_keys, by rw [List.length_map]; omega, ?_⟩
    walk_at "z"
    refine ⟨rs.map (·.1), by rw [List.length_map]; exact hl, fun k hk => ?_, fun ys hy hm => ?_⟩
    · rcases List.mem_append.mp hk with hk | hk
      · exact known_times hs hk
      · exact known_times hs hk
    have hT : IsT a b rs ys := ⟨hy, hm⟩
    have ly : ys.length ≤ rs.length := by
      have := nodup_len (l := ys) (m := rs.map (·.1)) (hy.imp fun h => by omega) fun k hk => by
        rcases List.mem_append.mp ((hm k).mp hk) with hk | hk
        · exact known_times hs hk
        · exact known_times hs hk
      rw [List.length_map] at this
      exact this
    walk_at "z"
    refine LC.typed (enc := D.int) (out := chD) (chg a b rs) rfl (by omega) ?_ ?_
    · intro k _ Y N hy
      walk_at "z"
      rw [dictI_get, dictI_get, getD_optD, getD_optD]
      refine enc_opt.eqv (a := valA (knownL a rs) k) (b := valA (knownL b rs) k) ?_
      walk_at "z"
      unfold chg valK at hy
      refine BR.nd (fun hne => ?_) (fun he => ?_)
      · rw [decide_eq_true hne] at hy
        walk_at "z"
        rw [dictI_get, dictI_get, getD_optD, getD_optD]
        exact hy
      · rw [decide_eq_false (by simpa using he)] at hy
        exact hy
    · exact h ys hT
    · rw [List.length_map, List.length_map]; omega
theorem l_changes_ok {a b : Int} {rs : List Row} {t : T} (ht : IsRows t rs) (hs : rs.Pairwise ltR) (hl : rs.length < 64) {Q : T → List T → Prop} (h : ∀ ys, IsT a b rs ys → Q (.ls ((ys.filterMap (chg a b rs)).map chD)) [t, .fr (.int a), .fr (.int b)]) :
    m_l_changes [t, .fr (.int a), .fr (.int b)] Q := by
  have la := known_len a rs
  have lb := known_len b rs
  rcases ht with rfl | rfl
  all_goals
    walk_at "z"
    refine CALL.mk (l_known_ok (by first | exact .inl rfl | exact .inr rfl) (by omega) hs ?_)
    walk_at "z"
    refine ⟨dictI D.int (knownL a rs), pairs_dict _, ?_⟩
    rw [merge_dictI (known_sorted hs)]
    walk_at "z"
    refine CALL.mk (l_known_ok (by first | exact .inl rfl | exact .inr rfl) (by omega) hs ?_)
    walk_at "z"
    refine ⟨dictI D.int (knownL b rs), pairs_dict _, ?_⟩
    rw [merge_dictI (known_sorted hs)]
    walk_at "z"
    rotate_left
    · simp only [List.length_map, dictI]; omega
    refine ⟨(knownL a rs).map (·.1) ++ (knownL b rs).map (·.1), ?_, by rw [List.length_append, List.length_map, List.length_map]; omega, ?_⟩
    · rw [dictI_keys, dictI_keys, List.map_append, List.map_map, List.map_map, List.map_map, List.map_map, List.map_map, List.map_map]
      rfl
    walk_at "z"
    refine ⟨rs.map (·.1), by rw [List.length_map]; exact hl, fun k hk => ?_, fun ys hy hm => ?_⟩
    · rcases List.mem_append.mp hk with hk | hk
      · exact known_times hs hk
      · exact known_times hs hk
    have hT : IsT a b rs ys := ⟨hy, hm⟩
    have ly : ys.length ≤ rs.length := by
      have := nodup_len (l := ys) (m := rs.map (·.1)) (hy.imp fun h => by omega) fun k hk => by
        rcases List.mem_append.mp ((hm k).mp hk) with hk | hk
        · exact known_times hs hk
        · exact known_times hs hk
      rw [List.length_map] at this
      exact this
    walk_at "z"
    refine forN.inv (fun i st => ∃ v6, st = [_, some (.fr (.int a)), some (.fr (.int b)), some (.dk (dictI D.int (knownL a rs))), some (.dk (dictI D.int (knownL b rs))), some (.ls (((ys.take i).filterMap (chg a b rs)).map chD)), v6]) ⟨_, rfl⟩ ?_ ?_
    · rintro i d st hi hd ⟨v6, rfl⟩
      obtain ⟨k, hk, rfl⟩ := map_get hd
      have lt := List.length_filterMap_le (chg a b rs) (ys.take i)
      rw [List.length_take] at lt
      have et : (ys.take (i + 1)).filterMap (chg a b rs) = (ys.take i).filterMap (chg a b rs) ++ (chg a b rs k).toList := by
        rw [List.take_add_one, hk, List.filterMap_append]
        cases hf : chg a b rs k <;> simp [hf]
      walk_at "z"
      rw [dictI_get, dictI_get, getD_optD, getD_optD]
      refine enc_opt.eqv (a := valA (knownL a rs) k) (b := valA (knownL b rs) k) ?_
      walk_at "z"
      refine BR.nd (fun hne => ?_) (fun he => ?_)
      · have ec : chg a b rs k = some (k, valA (knownL a rs) k, valA (knownL b rs) k) := by
          unfold chg valK
          rw [decide_eq_true hne]
          rfl
        walk_at "z"
        · rw [dictI_get, dictI_get, getD_optD, getD_optD]
          refine ⟨some (.fr (.int k)), ?_⟩
          rw [et, ec, List.map_append]
          rfl
        · rw [List.length_map]; omega
      · have ec : chg a b rs k = none := by
          unfold chg valK
          rw [decide_eq_false (by simpa using he)]
          rfl
        refine ⟨some (.fr (.int k)), ?_⟩
        rw [et, ec, Option.toList_none, List.append_nil]
        rfl
    · rintro st ⟨v6, rfl⟩
      rw [List.length_map, List.take_length]
      exact h ys hT
theorem swap_chg (a b : Int) (rs : List Row) (ys : List Int) : ys.filterMap (chg b a rs) = (ys.filterMap (chg a b rs)).filterMap fun c => some (c.1, c.2.2, c.2.1) := by
  rw [List.filterMap_filterMap]
  congr 1
  funext k
  unfold chg
  by_cases h : valK a rs k = valK b rs k
  · have e1 : decide (valK a rs k ≠ valK b rs k) = false := by simp [h]
    have e2 : decide (valK b rs k ≠ valK a rs k) = false := by simp [h]
    rw [e1, e2]
    rfl
  · have e1 : decide (valK a rs k ≠ valK b rs k) = true := by simp [h]
    have e2 : decide (valK b rs k ≠ valK a rs k) = true := by
      have h' : ¬ valK b rs k = valK a rs k := fun e => h e.symm
      simp [h']
    rw [e1, e2]
    rfl
theorem cutD_map {α β : Type} (f : α → β) (l : List α) (lo hi : Option Int) : Z.cutD (l.map f) lo hi = (Z.cutD l lo hi).map f := by
  unfold Z.cutD
  rw [List.length_map, List.map_take, List.map_drop]
local macro_rules | `(tactic| walk_at "zn") => `(tactic| (try simp (maxSteps := 100000) only [Z.pickO, Z.putL, List.set_cons_zero, List.set_cons_succ, List.map_cons, List.map_nil, List.getD_cons_zero, List.getD_cons_succ, List.cons_append, List.nil_append, List.append_nil, List.reduceReplicate, List.replicate_succ, List.replicate_zero]))
theorem right_ok {a b : Int} {rs : List Row} (hs : rs.Pairwise ltR) (hl : rs.length < 64) {Q : T → List T → Prop} (q : Q (.fr (.bl true)) [.ls (rs.map rowD), .fr (.int a), .fr (.int b)]) : m_l_right [.ls (rs.map rowD), .fr (.int a), .fr (.int b)] Q := by
  have la := known_len a rs
  walk_at "z"
  refine CALL.mk (known_ok (.inr rfl) (by omega) ?_)
  walk_at "zn"
  walk_at "z"
  refine CALL.mk (l_known_ok (.inr rfl) (by omega) hs ?_)
  walk_at "zn"
  walk_at "z"
  refine enc_pairs.same (a := knownL a rs) ?_
  walk_at "zn"
  walk_at "z"
  rotate_left
  · rw [List.length_map]; omega
  refine CALL.mk (known_ok (.inr rfl) (by omega) ?_)
  walk_at "zn"
  walk_at "z"
  refine CALL.mk (l_known_ok (.inr rfl) (by omega) hs ?_)
  walk_at "zn"
  walk_at "z"
  refine enc_pairs.same (a := knownL a rs) ?_
  walk_at "zn"
  walk_at "z"
  refine CALL.mk (changes_ok (.inr rfl) hs hl fun ys hT => ?_)
  walk_at "zn"
  walk_at "z"
  refine CALL.mk (l_changes_ok (.inr rfl) hs hl fun ys2 hT2 => ?_)
  have := isT_uniq hT2 hT
  subst this
  have ly : ys2.length ≤ rs.length := by
    have := nodup_len (l := ys2) (m := rs.map (·.1)) (hT.1.imp fun h => by omega) fun k hk => by
      rcases List.mem_append.mp ((hT.2 k).mp hk) with hk | hk
      · exact known_times hs hk
      · exact known_times hs hk
    rw [List.length_map] at this
    exact this
  have lf := List.length_filterMap_le (chg a b rs) ys2
  walk_at "zn"
  walk_at "z"
  refine enc_chs.same (a := ys2.filterMap (chg a b rs)) ?_
  walk_at "zn"
  walk_at "z"
  rotate_left
  · rw [List.length_map]; omega
  refine CALL.mk (l_changes_ok (.inr rfl) hs hl fun ys3 hT3 => ?_)
  have := isT_uniq hT3 hT
  subst this
  walk_at "zn"
  walk_at "z"
  refine LC.typed (enc := chD) (out := chD) (fun c => some (c.1, c.2.2, c.2.1)) rfl (by omega) ?_ ?_
  · intro c _ Y N hy
    walk_at "zn"
    walk_at "z"
    exact hy
  walk_at "zn"
  walk_at "z"
  refine CALL.mk (changes_ok (.inr rfl) hs hl fun ys4 hT4 => ?_)
  have := isT_uniq hT4 (isT_swap hT)
  subst this
  walk_at "zn"
  walk_at "z"
  refine enc_chs.eqT (a := ys4.filterMap (chg b a rs)) (b := (ys4.filterMap (chg a b rs)).filterMap fun c => some (c.1, c.2.2, c.2.1)) (swap_chg a b rs ys4) ?_
  walk_at "zn"
  walk_at "z"
  refine enc_rows.same (a := rs) ?_
  walk_at "zn"
  walk_at "z"
  exact q
theorem law_true (ns : List Int) (hl : ns.length ≤ 63) : m_law [.fr (.ro (ns.map D.int))] (fun t _ => t = .fr (.bl true)) := by
  walk_at "z"
  · rw [cutD_map]
    have ec : (Z.cutD ns none (some 8)).map D.int ++ [D.int 0] = (Z.cutD ns none (some 8) ++ [0]).map D.int := by rw [List.map_append]; rfl
    rw [ec]
    refine forN.inv (fun i st => ∃ v1 v2 v3 v4, st = [some (.fr (.ro (ns.map D.int))), v1, v2, v3, v4]) ⟨_, _, _, _, rfl⟩ ?_ ?_
    · rintro i d st hi hd ⟨v1, v2, v3, v4, rfl⟩
      obtain ⟨c, hc, rfl⟩ := map_get hd
      walk_at "z"
      refine CALL.mk (draws_ok c fun n f hn => ?_)
      walk_at "z"
      refine CALL.mk (rows_ok n 0 40 f hn (by omega) (by omega) fun rs n' c' hw hlr hn' hc' hcb => ?_)
      walk_at "z"
      refine CALL.mk (next_ok n' c' f hn' hc' (by omega) fun r n2 r0 r1 hn2 => ?_)
      walk_at "z"
      refine forN.inv (fun i st => ∃ n3 c3 v4, st = [some (.fr (.ro (ns.map D.int))), some (.fr (.int c)), some (purse n3 c3 f), some (.ls (rs.map rowD)), v4] ∧ 0 ≤ n3 ∧ 0 ≤ c3 ∧ c3 ≤ c' + 1 + i) ⟨n2, c' + 1, _, rfl, hn2, by omega, by omega⟩ ?_ ?_
      · rintro i d st hi hd ⟨n3, c3, v4, rfl, h3, hc3, hc3b⟩
        obtain ⟨z, rfl⟩ : ∃ z : Int, d = .int z := by
          have hm := List.mem_of_getElem? hd
          simp at hm
          rcases hm with rfl | rfl | rfl <;> exact ⟨_, rfl⟩
        have hi3 : i < 3 := hi
        walk_at "z"
        refine CALL.mk (next_ok n3 c3 f h3 hc3 (by omega) fun r2 n4 r20 r21 hn4 => ?_)
        walk_at "z"
        refine CALL.mk (right_ok hw hlr ?_)
        walk_at "z"
        exact ⟨n4, c3 + 1, _, rfl, hn4, by omega, by omega⟩
      · rintro st ⟨n3, c3, v4, rfl, _, _⟩
        exact ⟨_, _, _, _, rfl⟩
    · rintro st ⟨v1, v2, v3, v4, rfl⟩
      rfl
  · have : (Z.cutD (ns.map D.int) none (some 8)).length ≤ 63 := by
      unfold Z.cutD
      rw [List.length_take, List.length_drop, List.length_map]
      omega
    simp
    omega


def topS (i : Nat) : Stmt := PySem.Challenge.pw_timegranary_k26_what_rows_know.main.body.getD i (.Pass ⟨0, 0, 0, 0⟩)
abbrev s_last_rows : Stmt := topS 1
abbrev s_known : Stmt := topS 2
abbrev s_changes : Stmt := topS 3
abbrev s_l_draws : Stmt := topS 5
abbrev s_l_next : Stmt := topS 6
abbrev s_l_rows : Stmt := topS 7
abbrev s_l_last : Stmt := topS 8
abbrev s_l_known : Stmt := topS 9
abbrev s_l_changes : Stmt := topS 10
abbrev s_l_right : Stmt := topS 11
abbrev s_law : Stmt := topS 12
theorem sc_last_rows : FnScope ["rows", "number", "told", "row"] ["rows", "number"] (defScope s_last_rows) := ⟨rfl, rfl, rfl, by decide +kernel, rfl, by decide +kernel, by decide +kernel⟩
theorem sc_known : FnScope ["rows", "number", "time", "row"] ["rows", "number"] (defScope s_known) := ⟨rfl, rfl, rfl, by decide +kernel, rfl, by decide +kernel, by decide +kernel⟩
theorem sc_changes : FnScope ["rows", "one", "two", "soon", "late", "times", "time"] ["rows", "one", "two"] (defScope s_changes) := ⟨rfl, rfl, rfl, by decide +kernel, rfl, by decide +kernel, by decide +kernel⟩
theorem sc_l_draws : FnScope ["_law_cell", "_law_cut", "_law_k"] ["_law_cell"] (defScope s_l_draws) := ⟨rfl, rfl, rfl, by decide +kernel, rfl, by decide +kernel, by decide +kernel⟩
theorem sc_l_next : FnScope ["_law_draws_here", "_law_k", "_law_a_number"] ["_law_draws_here"] (defScope s_l_next) := ⟨rfl, rfl, rfl, by decide +kernel, rfl, by decide +kernel, by decide +kernel⟩
theorem sc_l_rows : FnScope ["_law_draws_here", "_law_most", "_law_told", "_law_k", "_law_pick", "_law_time", "_law_a_number", "_law_j", "_law_some", "_law_row", "_law_times", "_law_found", "_law_numbers"] ["_law_draws_here", "_law_most"] (defScope s_l_rows) := ⟨rfl, rfl, rfl, by decide +kernel, rfl, by decide +kernel, by decide +kernel⟩
theorem sc_l_last : FnScope ["_law_a_rows", "_law_a_number", "_law_last_here", "_law_row"] ["_law_a_rows", "_law_a_number"] (defScope s_l_last) := ⟨rfl, rfl, rfl, by decide +kernel, rfl, by decide +kernel, by decide +kernel⟩
theorem sc_l_known : FnScope ["_law_a_rows", "_law_a_number", "_law_last_here", "_law_time"] ["_law_a_rows", "_law_a_number"] (defScope s_l_known) := ⟨rfl, rfl, rfl, by decide +kernel, rfl, by decide +kernel, by decide +kernel⟩
theorem sc_l_changes : FnScope ["_law_a_rows", "_law_a_one", "_law_a_two", "_law_soon", "_law_late", "_law_told", "_law_time"] ["_law_a_rows", "_law_a_one", "_law_a_two"] (defScope s_l_changes) := ⟨rfl, rfl, rfl, by decide +kernel, rfl, by decide +kernel, by decide +kernel⟩
theorem sc_l_right : FnScope ["_law_a_rows", "_law_a_one", "_law_a_two", "_law_handed", "_law_told", "_law_row", "_law_due"] ["_law_a_rows", "_law_a_one", "_law_a_two"] (defScope s_l_right) := ⟨rfl, rfl, rfl, by decide +kernel, rfl, by decide +kernel, by decide +kernel⟩
theorem sc_law : FnScope ["_law_script", "_law_cell", "_law_draws_here", "_law_a_rows", "_law_a_one"] ["_law_script"] (defScope s_law) := ⟨rfl, rfl, rfl, by decide +kernel, rfl, by decide +kernel, by decide +kernel⟩
section
variable {P : Program} {w : World} {K : PySem.W.Frag} {mg : Str → Option Value} {base : Heap} {x : Tx}
structure Tx where
  f_last_rows : Addr
  d_last_rows : FuncData
  f_known : Addr
  d_known : FuncData
  f_changes : Addr
  d_changes : FuncData
  f_l_draws : Addr
  d_l_draws : FuncData
  f_l_next : Addr
  d_l_next : FuncData
  f_l_rows : Addr
  d_l_rows : FuncData
  f_l_last : Addr
  d_l_last : FuncData
  f_l_known : Addr
  d_l_known : FuncData
  f_l_changes : Addr
  d_l_changes : FuncData
  f_l_right : Addr
  d_l_right : FuncData
  f_law : Addr
  d_law : FuncData
structure Top (K : PySem.W.Frag) (mg : Str → Option Value) (x : Tx) : Prop where
  d_last_rows : G.DefAt K mg "last_rows" s_last_rows x.f_last_rows x.d_last_rows ["rows", "number"]
  d_known : G.DefAt K mg "known" s_known x.f_known x.d_known ["rows", "number"]
  d_changes : G.DefAt K mg "changes" s_changes x.f_changes x.d_changes ["rows", "one", "two"]
  d_l_draws : G.DefAt K mg "_law_draws" s_l_draws x.f_l_draws x.d_l_draws ["_law_cell"]
  d_l_next : G.DefAt K mg "_law_next" s_l_next x.f_l_next x.d_l_next ["_law_draws_here"]
  d_l_rows : G.DefAt K mg "_law_rows" s_l_rows x.f_l_rows x.d_l_rows ["_law_draws_here", "_law_most"]
  d_l_last : G.DefAt K mg "_law_last" s_l_last x.f_l_last x.d_l_last ["_law_a_rows", "_law_a_number"]
  d_l_known : G.DefAt K mg "_law_known" s_l_known x.f_l_known x.d_l_known ["_law_a_rows", "_law_a_number"]
  d_l_changes : G.DefAt K mg "_law_changes" s_l_changes x.f_l_changes x.d_l_changes ["_law_a_rows", "_law_a_one", "_law_a_two"]
  d_l_right : G.DefAt K mg "_law_right" s_l_right x.f_l_right x.d_l_right ["_law_a_rows", "_law_a_one", "_law_a_two"]
  d_law : G.DefAt K mg "law" s_law x.f_law x.d_law ["_law_script"]
  k_changes_0_2_1_0 : KBn K x.d_changes ["rows", "one", "two"] 0 ["two", "one", "rows"] (G.pickU [2, 1, 0]) (G.pickV [2, 1, 0])
  k_known_0_1_0 : KBn K x.d_known ["rows", "number"] 0 ["number", "rows"] (G.pickU [1, 0]) (G.pickV [1, 0])
  n_dict : mg "dict" = none
  n_isinstance : mg "isinstance" = none
  n_list : mg "list" = none
  n_range : mg "range" = none
  n_set : mg "set" = none
  n_sorted : mg "sorted" = none
theorem ok_last_rows (T : Top K mg x) : FnOk P w K mg base CX0 1 x.f_last_rows x.d_last_rows ["rows", "number"] (SpZ K 2 m_last_rows) := by
  refine T.d_last_rows.F.ok sc_last_rows (fun vs H Q E h => h.1) (fun cdv A outer s H vs Q E hr h => ⟨_, (pss_cons (ps_set (i := 2) sc_last_rows.nd rfl (Or.inl rfl) pe_dnewK)
    (pss_cons (ps_for PassesOwn.never rfl (pi_list (pv 0)) (pg_name (i := 3) sc_last_rows.nd rfl (Or.inl rfl))
      (pss_one (ps_if (pt_cmpR op_le (pe_ix ix_tup (pv 3) pe_int (fun _ _ => rfl)) (pv 1) (nomark _)) (pss_one (ps_dput (hu_of hr) (pv 2) (pe_ix ix_tup (pv 3) pe_int (fun _ _ => rfl)) (pv 3) rfl)) pss_nil)))
    (pss_one (ps_ret (pv 2))))), ?_⟩)
  exact body_run (Jn := [0, 1]) (k := 2) (b := mb_last_rows) (rs_seq (rs_asg re_dnew (rg_name 2))
    (rs_seq (rs_for (ri_own (re_var 0)) (rg_name 3) (f := b1_last_rows) (rs_ifS (rt_test (re_op (ro_I0 fun _ _ _ => .bl _) (re_op ro_ixT (re_var 3) (re_int _)) (re_var 1))) (rs_dput 2 (re_op ro_ixT (re_var 3) (re_int _)) (re_var 3)) rs_next))
    (rs_ret [0, 1] (re_var 2)))) rfl rfl h
theorem ok_known (T : Top K mg x) : FnOk P w K mg base CX0 2 x.f_known x.d_known ["rows", "number"] (SpZ K 2 m_known) := by
  have G_last_rows := ok_last_rows (P := P) (w := w) (K := K) (base := base) T
  refine T.d_known.F.ok sc_known (fun vs H Q E h => h.1) (fun cdv A outer s H vs Q E hr h => ⟨_, (pss_one (ps_ret (pe_lc (own := [("time", 2), ("row", 3)]) rfl sc_known.nd (pi_items (Z.pe_frz2 (pe_call G_last_rows (hr.mono (by decide)) rfl T.d_last_rows.m T.d_last_rows.F.kp T.d_last_rows.b .nil pass0 (pa_cons (pv 0) (pa_cons (pv 1) pa_nil))))) (blkOk_by (own := [("time", 2), ("row", 3)]) (N := ["rows", "number", "time", "row"]) (sc := defScope s_known) (by decide +kernel)) (fun _ _ _ _ _ => (G.k_pg_tup (K := K) (n := 2) rfl rfl (pgs_cons (pg_name (i := 2) sc_known.nd rfl (by first | exact Or.inl rfl | exact Or.inr rfl)) (pgs_cons (pg_name (i := 3) sc_known.nd rfl (by first | exact Or.inl rfl | exact Or.inr rfl)) pgs_nil)))) (fun _ _ _ _ _ => (pts_one (pt_cmpR op_notN (pe_ix (G.k_ix_tup (K := K) rfl) (pv 3) pe_int (fun _ _ => rfl)) pe_non (nomark _)))) (fun _ _ _ _ _ => (pe_tup (pa_cons (pv 2) (pa_cons (pe_ix (G.k_ix_tup (K := K) rfl) (pv 3) pe_int (fun _ _ => rfl)) pa_nil))))))), ?_⟩)
  exact body_run (Jn := [0, 1]) (k := 2) (b := mb_known) (rs_ret [0, 1] (re_lc (ri_items (re_call (f := m_last_rows) [] rfl (fun _ => .nil) (ra_cons (re_var 0) (ra_cons (re_var 1) ra_nil)))) (rg_tup (rgs_cons (rg_name 2) (rgs_cons (rg_name 3) rgs_nil))) (own_tup (own_cons (own_name 2) (own_cons (own_name 3) own_nil))) (rt_test (re_op ro_notN (re_op ro_ixT (re_var 3) (re_int _)) re_non)) (re_tup (ra_cons (re_var 2) (ra_cons (re_op ro_ixT (re_var 3) (re_int _)) ra_nil))))) rfl rfl h
theorem ok_changes (T : Top K mg x) : FnOk P w K mg base CX0 3 x.f_changes x.d_changes ["rows", "one", "two"] (SpZ K 3 m_changes) := by
  have G_known := ok_known (P := P) (w := w) (K := K) (base := base) T
  refine T.d_changes.F.ok sc_changes (fun vs H Q E h => h.1) (fun cdv A outer s H vs Q E hr h => ⟨_, (pss_cons (ps_set (i := 3) sc_changes.nd rfl (by first | exact Or.inl rfl | exact Or.inr rfl) (pe_callTy (call_dictP rfl) (by rfl) T.n_dict (by decide +kernel) (pa_cons (pe_call G_known (hr.mono (by decide)) rfl T.d_known.m T.d_known.F.kp T.d_known.b .nil pass0 (pa_cons (pv 0) (pa_cons (pv 1) pa_nil))) pa_nil)))
    (pss_cons (ps_set (i := 4) sc_changes.nd rfl (by first | exact Or.inl rfl | exact Or.inr rfl) (pe_callTy (call_dictP rfl) (by rfl) T.n_dict (by decide +kernel) (pa_cons (pe_call G_known (hr.mono (by decide)) rfl T.d_known.m T.d_known.F.kp T.d_known.b .nil pass0 (pa_cons (pv 0) (pa_cons (pv 2) pa_nil))) pa_nil)))
    (pss_cons (ps_set (i := 5) sc_changes.nd rfl (Or.inl rfl) (pe_callB (GU.cr_sortedU rfl) (by rfl) T.n_sorted (by decide +kernel) (pa_cons (pe_op GU.op_setOr (pe_callTy (GU.cr_setD rfl) (by rfl) T.n_set (by decide +kernel) (pa_cons (pv 3) pa_nil)) (pe_callTy (GU.cr_setD rfl) (by rfl) T.n_set (by decide +kernel) (pa_cons (pv 4) pa_nil))) pa_nil)))
    (pss_one (ps_ret (pe_lc (own := [("time", 6)]) rfl sc_changes.nd (pi_list (pv 5)) (blkOk_by (own := [("time", 6)]) (N := ["rows", "one", "two", "soon", "late", "times", "time"]) (sc := defScope s_changes) (by decide +kernel)) (fun _ _ _ _ _ => (pg_name (i := 6) sc_changes.nd rfl (by first | exact Or.inl rfl | exact Or.inr rfl))) (fun _ _ _ _ _ => (pts_one (pt_cmpR (G.k_neD (K := K) rfl hr.units) (pe_dget1 (hu_of hr) (pv 3) (pv 6) ⟨by rfl, by rfl, by rfl, by rfl⟩) (pe_dget1 (hu_of hr) (pv 4) (pv 6) ⟨by rfl, by rfl, by rfl, by rfl⟩) (nomark _)))) (fun _ _ _ _ _ => (pe_tup (pa_cons (pv 6) (pa_cons (pe_dget1 (hu_of hr) (pv 3) (pv 6) ⟨by rfl, by rfl, by rfl, by rfl⟩) (pa_cons (pe_dget1 (hu_of hr) (pv 4) (pv 6) ⟨by rfl, by rfl, by rfl, by rfl⟩) pa_nil))))))))))), ?_⟩)
  exact body_run (Jn := [0, 1, 2]) (k := 4) (b := mb_changes) (rs_seq (rs_asg (re_CB rb_dictP (ra_cons (re_call (f := m_known) [] rfl (fun _ => .nil) (ra_cons (re_var 0) (ra_cons (re_var 1) ra_nil))) ra_nil)) (rg_name 3))
    (rs_seq (rs_asg (re_CB rb_dictP (ra_cons (re_call (f := m_known) [] rfl (fun _ => .nil) (ra_cons (re_var 0) (ra_cons (re_var 2) ra_nil))) ra_nil)) (rg_name 4))
    (rs_seq (rs_asg (re_sortSE (se_or rfl (se_dct rfl (re_var 3)) (se_dct rfl (re_var 4)))) (rg_name 5))
    (rs_ret [0, 1, 2] (re_lc (ri_own (re_var 5)) (rg_name 6) (own_name 6) (rt_test (re_op ro_neD (re_dget1 (re_var 3) (re_var 6)) (re_dget1 (re_var 4) (re_var 6)))) (re_tup (ra_cons (re_var 6) (ra_cons (re_dget1 (re_var 3) (re_var 6)) (ra_cons (re_dget1 (re_var 4) (re_var 6)) ra_nil))))))))) rfl rfl h
theorem ok_l_draws (T : Top K mg x) : FnOk P w K mg base CX0 1 x.f_l_draws x.d_l_draws ["_law_cell"] (SpZ K 1 m_l_draws) := by
  refine T.d_l_draws.F.ok sc_l_draws (fun vs H Q E h => h.1) (fun cdv A outer s H vs Q E hr h => ⟨_, (pss_cons (ps_set (i := 1) sc_l_draws.nd rfl (Or.inl rfl) (pe_op op_pow pe_int pe_int))
    (pss_cons (ps_for PassesOwn.never rfl (pi_range1 rfl T.n_range (pa_cons pe_int pa_nil)) (pg_name (i := 2) sc_l_draws.nd rfl (Or.inl rfl))
      (pss_one (ps_set (i := 1) sc_l_draws.nd rfl (Or.inl rfl) (pe_op op_mulW (pv 1) (pv 1)))))
    (pss_one (ps_ret (pe_lst (pa_cons (pe_op op_mod (pv 0) (pv 1)) (pa_cons pe_int (pa_cons (pe_cmpR op_ge (pv 0) (pe_op op_pow pe_int pe_int) (nomark _)) pa_nil)))))))), ?_⟩)
  exact body_run (Jn := [0]) (k := 2) (b := mb_l_draws) (rs_seq (rs_asg (re_powc 10 60 1000000000000000000000000000000000000000000000000000000000000 ⟨by decide, by decide, by decide⟩ (by decide +kernel)) (rg_name 1))
    (rs_seq (rs_for (ri_rng1 (ra_cons (re_int _) ra_nil)) (rg_name 2) (f := b1_l_draws) (rs_asg (re_op (ro_I fun _ _ _ => .int _) (re_var 1) (re_var 1)) (rg_name 1)))
    (rs_ret [0] (re_lst (ra_cons (re_op (ro_I fun _ _ _ => .int _) (re_var 0) (re_var 1)) (ra_cons (re_int _) (ra_cons (re_op (ro_I0 fun _ _ _ => .bl _) (re_var 0) (re_powc 10 18 1000000000000000000 ⟨by decide, by decide, by decide⟩ (by decide +kernel))) ra_nil))))))) rfl rfl h
theorem ok_l_next (T : Top K mg x) : FnOk P w K mg base CX0 1 x.f_l_next x.d_l_next ["_law_draws_here"] (SpZ K 1 m_l_next) := by
  refine T.d_l_next.F.ok sc_l_next (fun vs H Q E h => h.1) (fun cdv A outer s H vs Q E hr h => ⟨_, (pss_cons (ps_asg (pe_op op_add (pe_ix ix_list (pv 0) pe_int (fun _ _ => rfl)) pe_int) (pg_sub (pv 0) pe_int set_list))
    (pss_cons (ps_set (i := 1) sc_l_next.nd rfl (Or.inl rfl) (pe_ix ix_list (pv 0) pe_int (fun _ _ => rfl)))
    (pss_cons (ps_if (pt_val (pe_ix ix_list (pv 0) pe_int (fun _ _ => rfl))) (pss_cons (ps_set (i := 2) sc_l_next.nd rfl (Or.inl rfl) (pe_op op_mod (pe_ix ix_list (pv 0) pe_int (fun _ _ => rfl)) (pe_op op_pow pe_int pe_int)))
    (pss_cons (ps_asg (pe_op op_fdiv (pe_ix ix_list (pv 0) pe_int (fun _ _ => rfl)) (pe_op op_pow pe_int pe_int)) (pg_sub (pv 0) pe_int set_list))
    (pss_one (ps_ret (pv 2))))) pss_nil)
    (pss_cons (ps_set (i := 2) sc_l_next.nd rfl (Or.inl rfl) (pe_op op_mod (pe_op op_mul (pe_op op_add (pe_op op_add (pe_op op_mod (pe_ix ix_list (pv 0) pe_int (fun _ _ => rfl)) pe_int) (pe_op op_mul (pe_op op_mul (pv 1) (pv 1)) pe_int)) (pv 1)) pe_int) pe_int))
    (pss_cons (ps_set (i := 2) sc_l_next.nd rfl (Or.inl rfl) (pe_op op_mod (pe_op op_mul (pv 2) (pv 2)) pe_int))
    (pss_one (ps_ret (pe_op op_fdiv (pe_op op_mod (pe_op op_mul (pv 2) (pe_op op_add (pv 2) pe_int)) pe_int) pe_int)))))))), ?_⟩)
  exact body_run (Jn := [0]) (k := 2) (b := mb_l_next) (rs_seq (rs_asg (re_op (ro_I0 fun _ _ _ => .int _) (re_op ro_ixL (re_var 0) (re_int _)) (re_int _)) (rg_setL 0 (re_int _)))
    (rs_seq (rs_asg (re_op ro_ixL (re_var 0) (re_int _)) (rg_name 1))
    (rs_seq (rs_ifS (rt_B (re_op ro_ixL (re_var 0) (re_int _))) (rs_seq (rs_asg (re_op (ro_I fun _ _ _ => .int _) (re_op ro_ixL (re_var 0) (re_int _)) (re_powc 10 6 1000000 ⟨by decide, by decide, by decide⟩ (by decide +kernel))) (rg_name 2))
    (rs_seq (rs_asg (re_op (ro_I fun _ _ _ => .int _) (re_op ro_ixL (re_var 0) (re_int _)) (re_powc 10 6 1000000 ⟨by decide, by decide, by decide⟩ (by decide +kernel))) (rg_setL 0 (re_int _)))
    (rs_ret [0] (re_var 2)))) rs_next)
    (rs_seq (rs_asg (re_op (ro_I fun _ _ _ => .int _) (re_op (ro_I fun _ _ _ => .int _) (re_op (ro_I0 fun _ _ _ => .int _) (re_op (ro_I0 fun _ _ _ => .int _) (re_op (ro_I fun _ _ _ => .int _) (re_op ro_ixL (re_var 0) (re_int _)) (re_int _)) (re_op (ro_I fun _ _ _ => .int _) (re_op (ro_I fun _ _ _ => .int _) (re_var 1) (re_var 1)) (re_int _))) (re_var 1)) (re_int _)) (re_int _)) (rg_name 2))
    (rs_seq (rs_asg (re_op (ro_I fun _ _ _ => .int _) (re_op (ro_I fun _ _ _ => .int _) (re_var 2) (re_var 2)) (re_int _)) (rg_name 2))
    (rs_ret [0] (re_op (ro_I fun _ _ _ => .int _) (re_op (ro_I fun _ _ _ => .int _) (re_op (ro_I fun _ _ _ => .int _) (re_var 2) (re_op (ro_I0 fun _ _ _ => .int _) (re_var 2) (re_int _))) (re_int _)) (re_int _)))))))) rfl rfl h
theorem ok_l_rows (T : Top K mg x) : FnOk P w K mg base CX0 2 x.f_l_rows x.d_l_rows ["_law_draws_here", "_law_most"] (SpZ K 2 m_l_rows) := by
  have G_l_next := ok_l_next (P := P) (w := w) (K := K) (base := base) T
  refine T.d_l_rows.F.ok sc_l_rows (fun vs H Q E h => h.1) (fun cdv A outer s H vs Q E hr h => ⟨_, (pss_cons (ps_set (i := 2) sc_l_rows.nd rfl (by first | exact Or.inl rfl | exact Or.inr rfl) (pe_lst pa_nil))
    (pss_cons (ps_for PassesOwn.never rfl (pi_range1 rfl T.n_range (pa_cons (pe_op op_mod (pe_call G_l_next (hr.mono (by decide)) rfl T.d_l_next.m T.d_l_next.F.kp T.d_l_next.b .nil pass0 (pa_cons (pv 0) pa_nil)) pe_int) pa_nil)) (pg_name (i := 3) sc_l_rows.nd rfl (Or.inl rfl))
      (pss_cons (ps_set (i := 4) sc_l_rows.nd rfl (Or.inl rfl) (pe_call G_l_next (hr.mono (by decide)) rfl T.d_l_next.m T.d_l_next.F.kp T.d_l_next.b .nil pass0 (pa_cons (pv 0) pa_nil)))
    (pss_cons (ps_set (i := 5) sc_l_rows.nd rfl (by first | exact Or.inl rfl | exact Or.inr rfl) (pe_op op_add (pe_ix ix_list (pe_lst (pa_cons (pv 3) (pa_cons (pe_op op_mul pe_int (pv 3)) (pa_cons (pe_op op_sub (pv 3) pe_int) (pa_cons (pe_op op_sub (pe_op op_mul (pv 3) (pe_op op_pow pe_int pe_int)) (pe_op op_pow pe_int pe_int)) pa_nil))))) (pe_op op_mod (pv 4) pe_int) (fun _ _ => rfl)) (pe_op op_mul pe_int (pe_op op_mod (pe_op op_fdiv (pv 4) pe_int) pe_int))))
    (pss_cons (ps_set (i := 6) sc_l_rows.nd rfl (by first | exact Or.inl rfl | exact Or.inr rfl) pe_int)
    (pss_one (ps_for PassesOwn.never rfl (pi_range1 rfl T.n_range (pa_cons (pe_op op_add pe_int (pe_op op_mod (pe_call G_l_next (hr.mono (by decide)) rfl T.d_l_next.m T.d_l_next.F.kp T.d_l_next.b .nil pass0 (pa_cons (pv 0) pa_nil)) pe_int)) pa_nil)) (pg_name (i := 7) sc_l_rows.nd rfl (Or.inl rfl))
      (pss_cons (ps_set (i := 8) sc_l_rows.nd rfl (Or.inl rfl) (pe_call G_l_next (hr.mono (by decide)) rfl T.d_l_next.m T.d_l_next.F.kp T.d_l_next.b .nil pass0 (pa_cons (pv 0) pa_nil)))
    (pss_cons (ps_set (i := 6) sc_l_rows.nd rfl (by first | exact Or.inl rfl | exact Or.inr rfl) (pe_op op_add (pe_op op_add (pv 6) pe_int) (pe_op op_mod (pv 8) (pe_ix ix_list (pe_lst (pa_cons pe_int (pa_cons pe_int pa_nil))) (pe_op op_mod (pe_op op_fdiv (pv 8) pe_int) pe_int) (fun _ _ => rfl)))))
    (pss_one (ps_if (pt_cmpR op_le (pv 6) (pv 1) (nomark _)) (pss_one (ps_expr (pe_bm PySem.F.plainAttrs_list PySem.F.slot_list_append PySem.F.type_list_append mt_append (pv 2) (pa_cons (pe_tup (pa_cons (pv 5) (pa_cons (pv 6) (pa_cons (pe_ix ix_list (pe_lst (pa_cons (pe_op op_sub (pe_op op_mod (pe_op op_fdiv (pv 8) pe_int) pe_int) pe_int) (pa_cons pe_non (pa_cons (pe_op op_mul (pv 8) (pe_op op_pow pe_int pe_int)) (pa_cons pe_int pa_nil))))) (pe_op op_mod (pe_op op_fdiv (pv 8) pe_int) pe_int) (fun _ _ => rfl)) pa_nil)))) pa_nil)))) pss_nil))))))))))
    (pss_cons (ps_set (i := 10) sc_l_rows.nd rfl (Or.inl rfl) (pe_callB (cr_sortedSet rfl) (by rfl) T.n_sorted (by decide +kernel) (pa_cons (pe_callTy (GS.cr_setLI rfl) (by rfl) T.n_set (by decide +kernel) (pa_cons (pe_lc (own := [("_law_row", 9)]) rfl sc_l_rows.nd (pi_list (pv 2)) (blkOk_by (own := [("_law_row", 9)]) (N := ["_law_draws_here", "_law_most", "_law_told", "_law_k", "_law_pick", "_law_time", "_law_a_number", "_law_j", "_law_some", "_law_row", "_law_times", "_law_found", "_law_numbers"]) (sc := defScope s_l_rows) (by decide +kernel)) (fun _ _ _ _ _ => (pg_name (i := 9) sc_l_rows.nd rfl (by first | exact Or.inl rfl | exact Or.inr rfl))) (fun _ _ _ _ _ => pts_nil) (fun _ _ _ _ _ => (pe_ix (G.k_ix_tup (K := K) rfl) (pv 9) pe_int (fun _ _ => rfl)))) pa_nil)) pa_nil)))
    (pss_cons (ps_set (i := 11) sc_l_rows.nd rfl (Or.inl rfl) (pe_lst pa_nil))
    (pss_cons (ps_for PassesOwn.never rfl (pi_list (pv 10)) (pg_name (i := 5) sc_l_rows.nd rfl (by first | exact Or.inl rfl | exact Or.inr rfl))
      (pss_cons (ps_set (i := 12) sc_l_rows.nd rfl (Or.inl rfl) (pe_callB (cr_sortedSet rfl) (by rfl) T.n_sorted (by decide +kernel) (pa_cons (pe_callTy (GS.cr_setLI rfl) (by rfl) T.n_set (by decide +kernel) (pa_cons (pe_lc (own := [("_law_row", 9)]) rfl sc_l_rows.nd (pi_list (pv 2)) (blkOk_by (own := [("_law_row", 9)]) (N := ["_law_draws_here", "_law_most", "_law_told", "_law_k", "_law_pick", "_law_time", "_law_a_number", "_law_j", "_law_some", "_law_row", "_law_times", "_law_found", "_law_numbers"]) (sc := defScope s_l_rows) (by decide +kernel)) (fun _ _ _ _ _ => (pg_name (i := 9) sc_l_rows.nd rfl (by first | exact Or.inl rfl | exact Or.inr rfl))) (fun _ _ _ _ _ => (pts_one (pt_cmpR op_eq (pe_ix (G.k_ix_tup (K := K) rfl) (pv 9) pe_int (fun _ _ => rfl)) (pv 5) (nomark _)))) (fun _ _ _ _ _ => (pe_ix (G.k_ix_tup (K := K) rfl) (pv 9) pe_int (fun _ _ => rfl)))) pa_nil)) pa_nil)))
    (pss_one (ps_set (i := 11) sc_l_rows.nd rfl (Or.inl rfl) (pe_op op_cat (pv 11) (pe_lc (own := [("_law_a_number", 6)]) rfl sc_l_rows.nd (pi_list (pv 12)) (blkOk_by (own := [("_law_a_number", 6)]) (N := ["_law_draws_here", "_law_most", "_law_told", "_law_k", "_law_pick", "_law_time", "_law_a_number", "_law_j", "_law_some", "_law_row", "_law_times", "_law_found", "_law_numbers"]) (sc := defScope s_l_rows) (by decide +kernel)) (fun _ _ _ _ _ => (pg_name (i := 6) sc_l_rows.nd rfl (by first | exact Or.inl rfl | exact Or.inr rfl))) (fun _ _ _ _ _ => pts_nil) (fun _ _ _ _ _ => (pe_ix (G.k_ix_list (K := K) rfl) (pe_lc (own := [("_law_row", 9)]) rfl sc_l_rows.nd (G.k_pi_list (K := K) rfl (pv 2)) (blkOk_by (own := [("_law_row", 9)]) (by rfl)) (fun _ _ _ _ _ => (pg_name (i := 9) sc_l_rows.nd rfl (by first | exact Or.inl rfl | exact Or.inr rfl))) (fun _ _ _ _ _ => (pts_one (pt_cmpR (G.k_eqD (K := K) rfl hr.units) (pe_slice (G.k_sl_tup (K := K) rfl) (pv 9) po_none (po_some pe_int)) (pe_tup (pa_cons (pv 5) (pa_cons (pv 6) pa_nil))) (nomark _)))) (fun _ _ _ _ _ => (pv 9))) pe_int (fun _ _ => rfl)))))))))
    (pss_one (ps_ret (pv 11)))))))), ?_⟩)
  exact body_run (Jn := [0, 1]) (k := 11) (b := mb_l_rows) (rs_seq (rs_asg (re_lst ra_nil) (rg_name 2))
    (rs_seq (rs_for (ri_rng1 (ra_cons (re_op (ro_I fun _ _ _ => .int _) (re_call (f := m_l_next) [] rfl (fun _ => .nil) (ra_cons (re_var 0) ra_nil)) (re_int _)) ra_nil)) (rg_name 3) (f := b2_l_rows) (rs_seq (rs_asg (re_call (f := m_l_next) [] rfl (fun _ => .nil) (ra_cons (re_var 0) ra_nil)) (rg_name 4))
    (rs_seq (rs_asg (re_op (ro_I0 fun _ _ _ => .int _) (re_op ro_ixL (re_lst (ra_cons (re_var 3) (ra_cons (re_op (ro_I fun _ _ _ => .int _) (re_int _) (re_var 3)) (ra_cons (re_op (ro_I0 fun _ _ _ => .int _) (re_var 3) (re_int _)) (ra_cons (re_op (ro_I0 fun _ _ _ => .int _) (re_op (ro_I fun _ _ _ => .int _) (re_var 3) (re_powc 10 9 1000000000 ⟨by decide, by decide, by decide⟩ (by decide +kernel))) (re_powc 10 10 10000000000 ⟨by decide, by decide, by decide⟩ (by decide +kernel))) ra_nil))))) (re_op (ro_I fun _ _ _ => .int _) (re_var 4) (re_int _))) (re_op (ro_I fun _ _ _ => .int _) (re_int _) (re_op (ro_I fun _ _ _ => .int _) (re_op (ro_I fun _ _ _ => .int _) (re_var 4) (re_int _)) (re_int _)))) (rg_name 5))
    (rs_seq (rs_asg (re_int _) (rg_name 6))
    (rs_for (ri_rng1 (ra_cons (re_op (ro_I0 fun _ _ _ => .int _) (re_int _) (re_op (ro_I fun _ _ _ => .int _) (re_call (f := m_l_next) [] rfl (fun _ => .nil) (ra_cons (re_var 0) ra_nil)) (re_int _))) ra_nil)) (rg_name 7) (f := b1_l_rows) (rs_seq (rs_asg (re_call (f := m_l_next) [] rfl (fun _ => .nil) (ra_cons (re_var 0) ra_nil)) (rg_name 8))
    (rs_seq (rs_asg (re_op (ro_I0 fun _ _ _ => .int _) (re_op (ro_I0 fun _ _ _ => .int _) (re_var 6) (re_int _)) (re_op (ro_I fun _ _ _ => .int _) (re_var 8) (re_op ro_ixL (re_lst (ra_cons (re_int _) (ra_cons (re_int _) ra_nil))) (re_op (ro_I fun _ _ _ => .int _) (re_op (ro_I fun _ _ _ => .int _) (re_var 8) (re_int _)) (re_int _))))) (rg_name 6))
    (rs_ifS (rt_test (re_op (ro_I0 fun _ _ _ => .bl _) (re_var 6) (re_var 1))) (rs_drop (re_app 2 (re_tup (ra_cons (re_var 5) (ra_cons (re_var 6) (ra_cons (re_op ro_ixL (re_lst (ra_cons (re_op (ro_I0 fun _ _ _ => .int _) (re_op (ro_I fun _ _ _ => .int _) (re_op (ro_I fun _ _ _ => .int _) (re_var 8) (re_int _)) (re_int _)) (re_int _)) (ra_cons re_non (ra_cons (re_op (ro_I fun _ _ _ => .int _) (re_var 8) (re_powc 10 6 1000000 ⟨by decide, by decide, by decide⟩ (by decide +kernel))) (ra_cons (re_int _) ra_nil))))) (re_op (ro_I fun _ _ _ => .int _) (re_op (ro_I fun _ _ _ => .int _) (re_var 8) (re_int _)) (re_int _))) ra_nil)))))) rs_next))))))))
    (rs_seq (rs_asg (re_sortSet rfl (re_lc (ri_own (re_var 2)) (rg_name 9) (own_name 9) rt_yes (re_op ro_ixT (re_var 9) (re_int _)))) (rg_name 10))
    (rs_seq (rs_asg (re_lst ra_nil) (rg_name 11))
    (rs_seq (rs_for (ri_list (re_var 10)) (rg_name 5) (f := b3_l_rows) (rs_seq (rs_asg (re_sortSet rfl (re_lc (ri_own (re_var 2)) (rg_name 9) (own_name 9) (rt_test (re_op ro_eq (re_op ro_ixT (re_var 9) (re_int _)) (re_var 5))) (re_op ro_ixT (re_var 9) (re_int _)))) (rg_name 12))
    (rs_asg (re_op ro_cat (re_var 11) (re_lc (ri_own (re_var 12)) (rg_name 6) (own_name 6) rt_yes (re_op ro_ixL (re_lc (ri_own (re_var 2)) (rg_name 9) (own_name 9) (rt_test (re_op ro_eqD (re_sl rsl_tup (re_var 9) ro_noP (ro_part (re_int _))) (re_tup (ra_cons (re_var 5) (ra_cons (re_var 6) ra_nil))))) (re_var 9)) (re_int _)))) (rg_name 11))))
    (rs_ret [0, 1] (re_var 11))))))) rfl rfl h
theorem ok_l_last (T : Top K mg x) : FnOk P w K mg base CX0 1 x.f_l_last x.d_l_last ["_law_a_rows", "_law_a_number"] (SpZ K 2 m_l_last) := by
  refine T.d_l_last.F.ok sc_l_last (fun vs H Q E h => h.1) (fun cdv A outer s H vs Q E hr h => ⟨_, (pss_cons (ps_set (i := 2) sc_l_last.nd rfl (Or.inl rfl) pe_dnewK)
    (pss_cons (ps_for PassesOwn.never rfl (pi_list (pv 0)) (pg_name (i := 3) sc_l_last.nd rfl (Or.inl rfl))
      (pss_one (ps_if (pt_cmpR op_le (pe_ix ix_tup (pv 3) pe_int (fun _ _ => rfl)) (pv 1) (nomark _)) (pss_one (ps_dput (hu_of hr) (pv 2) (pe_ix ix_tup (pv 3) pe_int (fun _ _ => rfl)) (pv 3) rfl)) pss_nil)))
    (pss_one (ps_ret (pv 2))))), ?_⟩)
  exact body_run (Jn := [0, 1]) (k := 2) (b := mb_l_last) (rs_seq (rs_asg re_dnew (rg_name 2))
    (rs_seq (rs_for (ri_own (re_var 0)) (rg_name 3) (f := b1_l_last) (rs_ifS (rt_test (re_op (ro_I0 fun _ _ _ => .bl _) (re_op ro_ixT (re_var 3) (re_int _)) (re_var 1))) (rs_dput 2 (re_op ro_ixT (re_var 3) (re_int _)) (re_var 3)) rs_next))
    (rs_ret [0, 1] (re_var 2)))) rfl rfl h
theorem ok_l_known (T : Top K mg x) : FnOk P w K mg base CX0 2 x.f_l_known x.d_l_known ["_law_a_rows", "_law_a_number"] (SpZ K 2 m_l_known) := by
  have G_l_last := ok_l_last (P := P) (w := w) (K := K) (base := base) T
  refine T.d_l_known.F.ok sc_l_known (fun vs H Q E h => h.1) (fun cdv A outer s H vs Q E hr h => ⟨_, (pss_cons (ps_set (i := 2) sc_l_known.nd rfl (by first | exact Or.inl rfl | exact Or.inr rfl) (pe_call G_l_last (hr.mono (by decide)) rfl T.d_l_last.m T.d_l_last.F.kp T.d_l_last.b .nil pass0 (pa_cons (pv 0) (pa_cons (pv 1) pa_nil))))
    (pss_one (ps_ret (pe_lc (own := [("_law_time", 3)]) rfl sc_l_known.nd (pi_list (pe_callB (G.c_sortedDI rfl) (by rfl) T.n_sorted (by decide +kernel) (pa_cons (pv 2) pa_nil))) (blkOk_by (own := [("_law_time", 3)]) (N := ["_law_a_rows", "_law_a_number", "_law_last_here", "_law_time"]) (sc := defScope s_l_known) (by decide +kernel)) (fun _ _ _ _ _ => (pg_name (i := 3) sc_l_known.nd rfl (by first | exact Or.inl rfl | exact Or.inr rfl))) (fun _ _ _ _ _ => (pts_one (pt_cmpR op_notN (pe_ix (G.k_ix_tup (K := K) rfl) (pe_dget (hu_of hr) (pv 2) (pv 3) (fun _ _ => rfl)) pe_int (fun _ _ => rfl)) pe_non (nomark _)))) (fun _ _ _ _ _ => (pe_tup (pa_cons (pv 3) (pa_cons (pe_ix (G.k_ix_tup (K := K) rfl) (pe_dget (hu_of hr) (pv 2) (pv 3) (fun _ _ => rfl)) pe_int (fun _ _ => rfl)) pa_nil)))))))), ?_⟩)
  exact body_run (Jn := [0, 1]) (k := 2) (b := mb_l_known) (rs_seq (rs_asg (re_call (f := m_l_last) [] rfl (fun _ => .nil) (ra_cons (re_var 0) (ra_cons (re_var 1) ra_nil))) (rg_name 2))
    (rs_ret [0, 1] (re_lc (ri_list (re_CB rb_sortDI (ra_cons (re_var 2) ra_nil))) (rg_name 3) (own_name 3) (rt_test (re_op ro_notN (re_op ro_ixT (re_dget (re_var 2) (re_var 3)) (re_int _)) re_non)) (re_tup (ra_cons (re_var 3) (ra_cons (re_op ro_ixT (re_dget (re_var 2) (re_var 3)) (re_int _)) ra_nil)))))) rfl rfl h
theorem ok_l_changes (T : Top K mg x) : FnOk P w K mg base CX0 3 x.f_l_changes x.d_l_changes ["_law_a_rows", "_law_a_one", "_law_a_two"] (SpZ K 3 m_l_changes) := by
  have G_l_known := ok_l_known (P := P) (w := w) (K := K) (base := base) T
  refine T.d_l_changes.F.ok sc_l_changes (fun vs H Q E h => h.1) (fun cdv A outer s H vs Q E hr h => ⟨_, (pss_cons (ps_set (i := 3) sc_l_changes.nd rfl (Or.inl rfl) (pe_callTy (call_dictP rfl) (by rfl) T.n_dict (by decide +kernel) (pa_cons (pe_call G_l_known (hr.mono (by decide)) rfl T.d_l_known.m T.d_l_known.F.kp T.d_l_known.b .nil pass0 (pa_cons (pv 0) (pa_cons (pv 1) pa_nil))) pa_nil)))
    (pss_cons (ps_set (i := 4) sc_l_changes.nd rfl (Or.inl rfl) (pe_callTy (call_dictP rfl) (by rfl) T.n_dict (by decide +kernel) (pa_cons (pe_call G_l_known (hr.mono (by decide)) rfl T.d_l_known.m T.d_l_known.F.kp T.d_l_known.b .nil pass0 (pa_cons (pv 0) (pa_cons (pv 2) pa_nil))) pa_nil)))
    (pss_cons (ps_set (i := 5) sc_l_changes.nd rfl (Or.inl rfl) (pe_lst pa_nil))
    (pss_cons (ps_for PassesOwn.never rfl (pi_list (pe_callB (GU.cr_sortedU rfl) (by rfl) T.n_sorted (by decide +kernel) (pa_cons (pe_callTy (GS.cr_setLI rfl) (by rfl) T.n_set (by decide +kernel) (pa_cons (pe_op op_cat (pe_callTy (GU.cr_listKV rfl) (by rfl) T.n_list (by decide +kernel) (pa_cons (GU.pe_keysV (pv 3)) pa_nil)) (pe_callTy (GU.cr_listKV rfl) (by rfl) T.n_list (by decide +kernel) (pa_cons (GU.pe_keysV (pv 4)) pa_nil))) pa_nil)) pa_nil))) (pg_name (i := 6) sc_l_changes.nd rfl (Or.inl rfl))
      (pss_one (ps_if (pt_cmpR (op_neD hr.units) (pe_dget1 (hu_of hr) (pv 3) (pv 6) ⟨by rfl, by rfl, by rfl, by rfl⟩) (pe_dget1 (hu_of hr) (pv 4) (pv 6) ⟨by rfl, by rfl, by rfl, by rfl⟩) (nomark _)) (pss_one (ps_expr (pe_bm PySem.F.plainAttrs_list PySem.F.slot_list_append PySem.F.type_list_append mt_append (pv 5) (pa_cons (pe_tup (pa_cons (pv 6) (pa_cons (pe_dget1 (hu_of hr) (pv 3) (pv 6) ⟨by rfl, by rfl, by rfl, by rfl⟩) (pa_cons (pe_dget1 (hu_of hr) (pv 4) (pv 6) ⟨by rfl, by rfl, by rfl, by rfl⟩) pa_nil)))) pa_nil)))) pss_nil)))
    (pss_one (ps_ret (pv 5))))))), ?_⟩)
  exact body_run (Jn := [0, 1, 2]) (k := 4) (b := mb_l_changes) (rs_seq (rs_asg (re_CB rb_dictP (ra_cons (re_call (f := m_l_known) [] rfl (fun _ => .nil) (ra_cons (re_var 0) (ra_cons (re_var 1) ra_nil))) ra_nil)) (rg_name 3))
    (rs_seq (rs_asg (re_CB rb_dictP (ra_cons (re_call (f := m_l_known) [] rfl (fun _ => .nil) (ra_cons (re_var 0) (ra_cons (re_var 2) ra_nil))) ra_nil)) (rg_name 4))
    (rs_seq (rs_asg (re_lst ra_nil) (rg_name 5))
    (rs_seq (rs_for (ri_list (re_sortSE (se_lst rfl (re_op ro_cat (re_listK (re_var 3)) (re_listK (re_var 4)))))) (rg_name 6) (f := b1_l_changes) (rs_ifS (rt_test (re_op ro_neD (re_dget1 (re_var 3) (re_var 6)) (re_dget1 (re_var 4) (re_var 6)))) (rs_drop (re_app 5 (re_tup (ra_cons (re_var 6) (ra_cons (re_dget1 (re_var 3) (re_var 6)) (ra_cons (re_dget1 (re_var 4) (re_var 6)) ra_nil)))))) rs_next))
    (rs_ret [0, 1, 2] (re_var 5)))))) rfl rfl h
theorem ok_l_right (T : Top K mg x) : FnOk P w K mg base CX0 4 x.f_l_right x.d_l_right ["_law_a_rows", "_law_a_one", "_law_a_two"] (SpZ K 3 m_l_right) := by
  have G_l_changes := ok_l_changes (P := P) (w := w) (K := K) (base := base) T
  have G_l_known := ok_l_known (P := P) (w := w) (K := K) (base := base) T
  have G_changes := ok_changes (P := P) (w := w) (K := K) (base := base) T
  have G_known := ok_known (P := P) (w := w) (K := K) (base := base) T
  refine T.d_l_right.F.ok sc_l_right (fun vs H Q E h => h.1) (fun cdv A outer s H vs Q E hr h => ⟨_, (pss_cons (ps_set (i := 3) sc_l_right.nd rfl (Or.inl rfl) (pe_callTy G.c_listOf (by rfl) T.n_list (by decide +kernel) (pa_cons (pv 0) pa_nil)))
    (pss_cons (ps_set (i := 4) sc_l_right.nd rfl (Or.inl rfl) (pe_call G_known (hr.mono (by decide)) rfl T.d_known.m T.d_known.F.kp T.d_known.b .nil pass0 (pa_cons (pv 3) (pa_cons (pv 1) pa_nil))))
    (pss_cons (ps_if (PW.pt (pw_or (pt_not (pt_val (pe_callB call_isi (by rfl) T.n_isinstance (by decide +kernel) (pa_cons (pv 4) (pa_cons (pe_bltn (v := .ty "list") (by rfl) T.n_list (by decide +kernel) rfl) pa_nil))))) (pw_or1 (pt_cmpR (op_neD hr.units) (pv 4) (pe_call G_l_known (hr.mono (by decide)) rfl T.d_l_known.m T.d_l_known.F.kp T.d_l_known.b .nil pass0 (pa_cons (pv 0) (pa_cons (pv 1) pa_nil))) (nomark _))))) (pss_one (ps_ret pe_bl)) pss_nil)
    (pss_cons (ps_expr (pe_bm PySem.F.plainAttrs_list PySem.F.slot_list_append PySem.F.type_list_append mt_append (pv 4) (pa_cons pe_non pa_nil)))
    (pss_cons (ps_if (pt_cmpR (op_neD hr.units) (G.pe_callN0 G_known (hr.mono (by decide)) rfl T.d_known.m T.d_known.F.kp T.k_known_0_1_0 pass0 (pk_cons (pv 1) (pk_cons (pv 3) pk_nil))) (pe_call G_l_known (hr.mono (by decide)) rfl T.d_l_known.m T.d_l_known.F.kp T.d_l_known.b .nil pass0 (pa_cons (pv 0) (pa_cons (pv 1) pa_nil))) (nomark _)) (pss_one (ps_ret pe_bl)) pss_nil)
    (pss_cons (ps_set (i := 4) sc_l_right.nd rfl (Or.inl rfl) (pe_call G_changes (hr.mono (by decide)) rfl T.d_changes.m T.d_changes.F.kp T.d_changes.b .nil pass0 (pa_cons (pv 3) (pa_cons (pv 1) (pa_cons (pv 2) pa_nil)))))
    (pss_cons (ps_if (PW.pt (pw_or (pt_not (pt_val (pe_callB call_isi (by rfl) T.n_isinstance (by decide +kernel) (pa_cons (pv 4) (pa_cons (pe_bltn (v := .ty "list") (by rfl) T.n_list (by decide +kernel) rfl) pa_nil))))) (pw_or1 (pt_cmpR (op_neD hr.units) (pv 4) (pe_call G_l_changes (hr.mono (by decide)) rfl T.d_l_changes.m T.d_l_changes.F.kp T.d_l_changes.b .nil pass0 (pa_cons (pv 0) (pa_cons (pv 1) (pa_cons (pv 2) pa_nil)))) (nomark _))))) (pss_one (ps_ret pe_bl)) pss_nil)
    (pss_cons (ps_expr (pe_bm PySem.F.plainAttrs_list PySem.F.slot_list_append PySem.F.type_list_append mt_append (pv 4) (pa_cons pe_non pa_nil)))
    (pss_cons (ps_setLc (i := 6) (own := [("_law_row", 5)]) rfl sc_l_right.nd rfl rfl (sw_true rfl rfl rfl (by decide +kernel)) (pi_list (pe_call G_l_changes (hr.mono (by decide)) rfl T.d_l_changes.m T.d_l_changes.F.kp T.d_l_changes.b .nil pass0 (pa_cons (pv 0) (pa_cons (pv 1) (pa_cons (pv 2) pa_nil))))) (blkOk_by (own := [("_law_row", 5)]) (N := ["_law_a_rows", "_law_a_one", "_law_a_two", "_law_handed", "_law_told", "_law_row", "_law_due"]) (sc := defScope s_l_right) (by decide +kernel)) (fun _ _ _ _ _ => (pg_name (i := 5) sc_l_right.nd rfl (by first | exact Or.inl rfl | exact Or.inr rfl))) (fun _ _ _ _ _ => pts_nil) (fun _ _ _ _ _ => (pe_tup (pa_cons (pe_ix (G.k_ix_tup (K := K) rfl) (pv 5) pe_int (fun _ _ => rfl)) (pa_cons (pe_ix (G.k_ix_tup (K := K) rfl) (pv 5) pe_int (fun _ _ => rfl)) (pa_cons (pe_ix (G.k_ix_tup (K := K) rfl) (pv 5) pe_int (fun _ _ => rfl)) pa_nil))))))
    (pss_cons (ps_if (pt_cmpR (op_neD hr.units) (G.pe_callN0 G_changes (hr.mono (by decide)) rfl T.d_changes.m T.d_changes.F.kp T.k_changes_0_2_1_0 pass0 (pk_cons (pv 1) (pk_cons (pv 2) (pk_cons (pv 3) pk_nil)))) (pv 6) (nomark _)) (pss_one (ps_ret pe_bl)) pss_nil)
    (pss_one (ps_ret (pe_cmpR (op_eqD hr.units) (pv 3) (pv 0) (nomark _)))))))))))))), ?_⟩)
  exact body_run (Jn := [0, 1, 2]) (k := 4) (b := mb_l_right) (rs_seq (rs_asg (re_CB rb_list (ra_cons (re_var 0) ra_nil)) (rg_name 3))
    (rs_seq (rs_asg (re_call (f := m_known) [] rfl (fun _ => .nil) (ra_cons (re_var 3) (ra_cons (re_var 1) ra_nil))) (rg_name 4))
    (rs_seq (rs_ifS (rt_or (rt_not (rt_B (re_CB rb_isi (ra_cons (re_var 4) (ra_cons (re_ty _) ra_nil))))) (rt_test (re_op ro_neD (re_var 4) (re_call (f := m_l_known) [] rfl (fun _ => .nil) (ra_cons (re_var 0) (ra_cons (re_var 1) ra_nil)))))) (rs_ret [0, 1, 2] (re_bl _)) rs_next)
    (rs_seq (rs_drop (re_app 4 re_non))
    (rs_seq (rs_ifS (rt_test (re_op ro_neD (re_callN (f := m_known) [1, 0] rfl ra_nil (ra_cons (re_var 1) (ra_cons (re_var 3) ra_nil))) (re_call (f := m_l_known) [] rfl (fun _ => .nil) (ra_cons (re_var 0) (ra_cons (re_var 1) ra_nil))))) (rs_ret [0, 1, 2] (re_bl _)) rs_next)
    (rs_seq (rs_asg (re_call (f := m_changes) [] rfl (fun _ => .nil) (ra_cons (re_var 3) (ra_cons (re_var 1) (ra_cons (re_var 2) ra_nil)))) (rg_name 4))
    (rs_seq (rs_ifS (rt_or (rt_not (rt_B (re_CB rb_isi (ra_cons (re_var 4) (ra_cons (re_ty _) ra_nil))))) (rt_test (re_op ro_neD (re_var 4) (re_call (f := m_l_changes) [] rfl (fun _ => .nil) (ra_cons (re_var 0) (ra_cons (re_var 1) (ra_cons (re_var 2) ra_nil))))))) (rs_ret [0, 1, 2] (re_bl _)) rs_next)
    (rs_seq (rs_drop (re_app 4 re_non))
    (rs_seq (rs_asg (re_lc (ri_list (re_call (f := m_l_changes) [] rfl (fun _ => .nil) (ra_cons (re_var 0) (ra_cons (re_var 1) (ra_cons (re_var 2) ra_nil))))) (rg_name 5) (own_name 5) rt_yes (re_tup (ra_cons (re_op ro_ixT (re_var 5) (re_int _)) (ra_cons (re_op ro_ixT (re_var 5) (re_int _)) (ra_cons (re_op ro_ixT (re_var 5) (re_int _)) ra_nil))))) (rg_name 6))
    (rs_seq (rs_ifS (rt_test (re_op ro_neD (re_callN (f := m_changes) [2, 1, 0] rfl ra_nil (ra_cons (re_var 1) (ra_cons (re_var 2) (ra_cons (re_var 3) ra_nil)))) (re_var 6))) (rs_ret [0, 1, 2] (re_bl _)) rs_next)
    (rs_ret [0, 1, 2] (re_op ro_eqD (re_var 3) (re_var 0))))))))))))) rfl rfl h
theorem ok_law (T : Top K mg x) : FnOk P w K mg base CX0 5 x.f_law x.d_law ["_law_script"] (SpZ K 1 m_law) := by
  have G_l_draws := ok_l_draws (P := P) (w := w) (K := K) (base := base) T
  have G_l_next := ok_l_next (P := P) (w := w) (K := K) (base := base) T
  have G_l_right := ok_l_right (P := P) (w := w) (K := K) (base := base) T
  have G_l_rows := ok_l_rows (P := P) (w := w) (K := K) (base := base) T
  refine T.d_law.F.ok sc_law (fun vs H Q E h => h.1) (fun cdv A outer s H vs Q E hr h => ⟨_, (pss_cons (ps_for PassesOwn.never rfl (pi_list (pe_op op_cat (pe_slice sl_list (pv 0) po_none (po_some pe_int)) (pe_lst (pa_cons pe_int pa_nil)))) (pg_name (i := 1) sc_law.nd rfl (Or.inl rfl))
      (pss_cons (ps_set (i := 2) sc_law.nd rfl (Or.inl rfl) (pe_call G_l_draws (hr.mono (by decide)) rfl T.d_l_draws.m T.d_l_draws.F.kp T.d_l_draws.b .nil pass0 (pa_cons (pv 1) pa_nil)))
    (pss_cons (ps_set (i := 3) sc_law.nd rfl (Or.inl rfl) (pe_call G_l_rows (hr.mono (by decide)) rfl T.d_l_rows.m T.d_l_rows.F.kp T.d_l_rows.b .nil pass0 (pa_cons (pv 2) (pa_cons pe_int pa_nil))))
    (pss_one (ps_for PassesOwn.never rfl (pi_list (pe_lst (pa_cons pe_int (pa_cons (pe_op op_mod (pe_call G_l_next (hr.mono (by decide)) rfl T.d_l_next.m T.d_l_next.F.kp T.d_l_next.b .nil pass0 (pa_cons (pv 2) pa_nil)) pe_int) (pa_cons pe_int pa_nil))))) (pg_name (i := 4) sc_law.nd rfl (Or.inl rfl))
      (pss_one (ps_if (pt_not (pt_val (pe_call G_l_right (hr.mono (by decide)) rfl T.d_l_right.m T.d_l_right.F.kp T.d_l_right.b .nil pass0 (pa_cons (pv 3) (pa_cons (pv 4) (pa_cons (pe_op op_mod (pe_call G_l_next (hr.mono (by decide)) rfl T.d_l_next.m T.d_l_next.F.kp T.d_l_next.b .nil pass0 (pa_cons (pv 2) pa_nil)) pe_int) pa_nil)))))) (pss_one (ps_ret pe_bl)) pss_nil)))))))
    (pss_one (ps_ret pe_bl))), ?_⟩)
  exact body_run (Jn := [0]) (k := 4) (b := mb_law) (rs_seq (rs_for (ri_list (re_op ro_cat (re_sl rsl_list (re_var 0) ro_noP (ro_part (re_int _))) (re_lst (ra_cons (re_int _) ra_nil)))) (rg_name 1) (f := b2_law) (rs_seq (rs_asg (re_call (f := m_l_draws) [] rfl (fun _ => .nil) (ra_cons (re_var 1) ra_nil)) (rg_name 2))
    (rs_seq (rs_asg (re_call (f := m_l_rows) [] rfl (fun _ => .nil) (ra_cons (re_var 2) (ra_cons (re_int _) ra_nil))) (rg_name 3))
    (rs_for (ri_list (re_lst (ra_cons (re_int _) (ra_cons (re_op (ro_I fun _ _ _ => .int _) (re_call (f := m_l_next) [] rfl (fun _ => .nil) (ra_cons (re_var 2) ra_nil)) (re_int _)) (ra_cons (re_int _) ra_nil))))) (rg_name 4) (f := b1_law) (rs_ifS (rt_not (rt_B (re_call (f := m_l_right) [] rfl (fun _ => .nil) (ra_cons (re_var 3) (ra_cons (re_var 4) (ra_cons (re_op (ro_I fun _ _ _ => .int _) (re_call (f := m_l_next) [] rfl (fun _ => .nil) (ra_cons (re_var 2) ra_nil)) (re_int _)) ra_nil)))))) (rs_ret [0] (re_bl _)) rs_next)))))
    (rs_ret [0] (re_bl _))) rfl rfl h
def spLaw (K : PySem.W.Frag) : Sp := fun vs H Q _ => ∃ (a : Addr) (ns : List Int), vs = [.ref a] ∧ SqL K H a (ns.map V.int) ∧ ns.length ≤ 63 ∧ ∀ H', Q (.bl true) H'
end
section
variable {P : Program} {w : World} {K : PySem.W.Frag} {mg : Str → Option Value} {base : Heap} {x : Tx}
theorem ok_law2 (T : Top K mg x) : FnOk P w K mg base CX0 5 x.f_law x.d_law ["_law_script"] (spLaw K) := by
  refine FnOk.imp (ok_law T) fun vs H Q E h => ?_
  obtain ⟨a, ns, rfl, hS, hl, k⟩ := h
  exact law_run hS (law_true ns hl) fun H' => k H'
end
theorem all_mk {l : PySem.W.OpenLaw} {w : World} {K : PySem.W.Frag} {h : Heap} {mg : Str → Option Value} {fa f1 f2 f3 f4 f5 f6 f7 f8 f9 f10 f11 : Addr} (X : K.In h) (hG : h.Ns mainGlobals mg) (hfa : mg "law" = some (.ref fa))
    {oc1 : Value} {od1 an1 : Option Addr} {sl1 : Array (Option Value)} {kV1 dc1 pm1 cd1 ct1 : Value} {oc2 : Value} {od2 an2 : Option Addr} {sl2 : Array (Option Value)} {kV2 dc2 pm2 cd2 ct2 : Value} {oc3 : Value} {od3 an3 : Option Addr} {sl3 : Array (Option Value)} {kV3 dc3 pm3 cd3 ct3 : Value} {oc4 : Value} {od4 an4 : Option Addr} {sl4 : Array (Option Value)} {kV4 dc4 pm4 cd4 ct4 : Value} {oc5 : Value} {od5 an5 : Option Addr} {sl5 : Array (Option Value)} {kV5 dc5 pm5 cd5 ct5 : Value} {oc6 : Value} {od6 an6 : Option Addr} {sl6 : Array (Option Value)} {kV6 dc6 pm6 cd6 ct6 : Value} {oc7 : Value} {od7 an7 : Option Addr} {sl7 : Array (Option Value)} {kV7 dc7 pm7 cd7 ct7 : Value} {oc8 : Value} {od8 an8 : Option Addr} {sl8 : Array (Option Value)} {kV8 dc8 pm8 cd8 ct8 : Value} {oc9 : Value} {od9 an9 : Option Addr} {sl9 : Array (Option Value)} {kV9 dc9 pm9 cd9 ct9 : Value} {oc10 : Value} {od10 an10 : Option Addr} {sl10 : Array (Option Value)} {kV10 dc10 pm10 cd10 ct10 : Value} {oc11 : Value} {od11 an11 : Option Addr} {sl11 : Array (Option Value)} {kV11 dc11 pm11 cd11 ct11 : Value}
    (a1 : PySem.W.nsIn K mainGlobals "last_rows" = some (some (.ref f1))) (l1 : K.lookup f1 = some ⟨oc1, od1, .func (PySem.W.fnOf "last_rows" "last_rows" (defArgs s_last_rows) (defBody s_last_rows) (defScope s_last_rows) .none kV1 dc1 pm1 an1 cd1 ct1), sl1⟩) (c1 : PySem.W.codeIn K cd1 "last_rows" = true) (k1 : PySem.W.keepIn K (.ref f1) = true)
    (a2 : PySem.W.nsIn K mainGlobals "known" = some (some (.ref f2))) (l2 : K.lookup f2 = some ⟨oc2, od2, .func (PySem.W.fnOf "known" "known" (defArgs s_known) (defBody s_known) (defScope s_known) .none kV2 dc2 pm2 an2 cd2 ct2), sl2⟩) (c2 : PySem.W.codeIn K cd2 "known" = true) (k2 : PySem.W.keepIn K (.ref f2) = true)
    (a3 : PySem.W.nsIn K mainGlobals "changes" = some (some (.ref f3))) (l3 : K.lookup f3 = some ⟨oc3, od3, .func (PySem.W.fnOf "changes" "changes" (defArgs s_changes) (defBody s_changes) (defScope s_changes) .none kV3 dc3 pm3 an3 cd3 ct3), sl3⟩) (c3 : PySem.W.codeIn K cd3 "changes" = true) (k3 : PySem.W.keepIn K (.ref f3) = true)
    (a4 : PySem.W.nsIn K mainGlobals "_law_draws" = some (some (.ref f4))) (l4 : K.lookup f4 = some ⟨oc4, od4, .func (PySem.W.fnOf "_law_draws" "_law_draws" (defArgs s_l_draws) (defBody s_l_draws) (defScope s_l_draws) .none kV4 dc4 pm4 an4 cd4 ct4), sl4⟩) (c4 : PySem.W.codeIn K cd4 "_law_draws" = true) (k4 : PySem.W.keepIn K (.ref f4) = true)
    (a5 : PySem.W.nsIn K mainGlobals "_law_next" = some (some (.ref f5))) (l5 : K.lookup f5 = some ⟨oc5, od5, .func (PySem.W.fnOf "_law_next" "_law_next" (defArgs s_l_next) (defBody s_l_next) (defScope s_l_next) .none kV5 dc5 pm5 an5 cd5 ct5), sl5⟩) (c5 : PySem.W.codeIn K cd5 "_law_next" = true) (k5 : PySem.W.keepIn K (.ref f5) = true)
    (a6 : PySem.W.nsIn K mainGlobals "_law_rows" = some (some (.ref f6))) (l6 : K.lookup f6 = some ⟨oc6, od6, .func (PySem.W.fnOf "_law_rows" "_law_rows" (defArgs s_l_rows) (defBody s_l_rows) (defScope s_l_rows) .none kV6 dc6 pm6 an6 cd6 ct6), sl6⟩) (c6 : PySem.W.codeIn K cd6 "_law_rows" = true) (k6 : PySem.W.keepIn K (.ref f6) = true)
    (a7 : PySem.W.nsIn K mainGlobals "_law_last" = some (some (.ref f7))) (l7 : K.lookup f7 = some ⟨oc7, od7, .func (PySem.W.fnOf "_law_last" "_law_last" (defArgs s_l_last) (defBody s_l_last) (defScope s_l_last) .none kV7 dc7 pm7 an7 cd7 ct7), sl7⟩) (c7 : PySem.W.codeIn K cd7 "_law_last" = true) (k7 : PySem.W.keepIn K (.ref f7) = true)
    (a8 : PySem.W.nsIn K mainGlobals "_law_known" = some (some (.ref f8))) (l8 : K.lookup f8 = some ⟨oc8, od8, .func (PySem.W.fnOf "_law_known" "_law_known" (defArgs s_l_known) (defBody s_l_known) (defScope s_l_known) .none kV8 dc8 pm8 an8 cd8 ct8), sl8⟩) (c8 : PySem.W.codeIn K cd8 "_law_known" = true) (k8 : PySem.W.keepIn K (.ref f8) = true)
    (a9 : PySem.W.nsIn K mainGlobals "_law_changes" = some (some (.ref f9))) (l9 : K.lookup f9 = some ⟨oc9, od9, .func (PySem.W.fnOf "_law_changes" "_law_changes" (defArgs s_l_changes) (defBody s_l_changes) (defScope s_l_changes) .none kV9 dc9 pm9 an9 cd9 ct9), sl9⟩) (c9 : PySem.W.codeIn K cd9 "_law_changes" = true) (k9 : PySem.W.keepIn K (.ref f9) = true)
    (a10 : PySem.W.nsIn K mainGlobals "_law_right" = some (some (.ref f10))) (l10 : K.lookup f10 = some ⟨oc10, od10, .func (PySem.W.fnOf "_law_right" "_law_right" (defArgs s_l_right) (defBody s_l_right) (defScope s_l_right) .none kV10 dc10 pm10 an10 cd10 ct10), sl10⟩) (c10 : PySem.W.codeIn K cd10 "_law_right" = true) (k10 : PySem.W.keepIn K (.ref f10) = true)
    (a11 : PySem.W.nsIn K mainGlobals "law" = some (some (.ref f11))) (l11 : K.lookup f11 = some ⟨oc11, od11, .func (PySem.W.fnOf "law" "law" (defArgs s_law) (defBody s_law) (defScope s_law) .none kV11 dc11 pm11 an11 cd11 ct11), sl11⟩) (c11 : PySem.W.codeIn K cd11 "law" = true) (k11 : PySem.W.keepIn K (.ref f11) = true)
    (n_dict : PySem.W.nsIn K mainGlobals "dict" = some none)
    (n_isinstance : PySem.W.nsIn K mainGlobals "isinstance" = some none)
    (n_list : PySem.W.nsIn K mainGlobals "list" = some none)
    (n_range : PySem.W.nsIn K mainGlobals "range" = some none)
    (n_set : PySem.W.nsIn K mainGlobals "set" = some none)
    (n_sorted : PySem.W.nsIn K mainGlobals "sorted" = some none) :
    ∃ fd : FuncData, (∀ (s : Shared) (v : Value), BindsTo s fd ⟨[v], []⟩ [("_law_script", v)]) ∧ ∀ base : Heap, K.In base → base.Ns mainGlobals mg → FnOk l.prog w K mg base CX0 5 fa fd ["_law_script"] (spLaw K) := by
  have e := hfa.symm.trans (PySem.W.mg_of X hG a11)
  cases e
  have F1 := fun_mk (st := s_last_rows) l1 c1 k1
  have D1 : G.DefAt K mg "last_rows" s_last_rows f1 _ ["rows", "number"] := ⟨F1, PySem.W.mg_of X hG a1, F1.binds (ps := ["rows", "number"]) fun _ _ _ _ _ _ us hl => match us, hl with | [_, _], _ => rfl⟩
  have F2 := fun_mk (st := s_known) l2 c2 k2
  have D2 : G.DefAt K mg "known" s_known f2 _ ["rows", "number"] := ⟨F2, PySem.W.mg_of X hG a2, F2.binds (ps := ["rows", "number"]) fun _ _ _ _ _ _ us hl => match us, hl with | [_, _], _ => rfl⟩
  have F3 := fun_mk (st := s_changes) l3 c3 k3
  have D3 : G.DefAt K mg "changes" s_changes f3 _ ["rows", "one", "two"] := ⟨F3, PySem.W.mg_of X hG a3, F3.binds (ps := ["rows", "one", "two"]) fun _ _ _ _ _ _ us hl => match us, hl with | [_, _, _], _ => rfl⟩
  have F4 := fun_mk (st := s_l_draws) l4 c4 k4
  have D4 : G.DefAt K mg "_law_draws" s_l_draws f4 _ ["_law_cell"] := ⟨F4, PySem.W.mg_of X hG a4, F4.binds (ps := ["_law_cell"]) fun _ _ _ _ _ _ us hl => match us, hl with | [_], _ => rfl⟩
  have F5 := fun_mk (st := s_l_next) l5 c5 k5
  have D5 : G.DefAt K mg "_law_next" s_l_next f5 _ ["_law_draws_here"] := ⟨F5, PySem.W.mg_of X hG a5, F5.binds (ps := ["_law_draws_here"]) fun _ _ _ _ _ _ us hl => match us, hl with | [_], _ => rfl⟩
  have F6 := fun_mk (st := s_l_rows) l6 c6 k6
  have D6 : G.DefAt K mg "_law_rows" s_l_rows f6 _ ["_law_draws_here", "_law_most"] := ⟨F6, PySem.W.mg_of X hG a6, F6.binds (ps := ["_law_draws_here", "_law_most"]) fun _ _ _ _ _ _ us hl => match us, hl with | [_, _], _ => rfl⟩
  have F7 := fun_mk (st := s_l_last) l7 c7 k7
  have D7 : G.DefAt K mg "_law_last" s_l_last f7 _ ["_law_a_rows", "_law_a_number"] := ⟨F7, PySem.W.mg_of X hG a7, F7.binds (ps := ["_law_a_rows", "_law_a_number"]) fun _ _ _ _ _ _ us hl => match us, hl with | [_, _], _ => rfl⟩
  have F8 := fun_mk (st := s_l_known) l8 c8 k8
  have D8 : G.DefAt K mg "_law_known" s_l_known f8 _ ["_law_a_rows", "_law_a_number"] := ⟨F8, PySem.W.mg_of X hG a8, F8.binds (ps := ["_law_a_rows", "_law_a_number"]) fun _ _ _ _ _ _ us hl => match us, hl with | [_, _], _ => rfl⟩
  have F9 := fun_mk (st := s_l_changes) l9 c9 k9
  have D9 : G.DefAt K mg "_law_changes" s_l_changes f9 _ ["_law_a_rows", "_law_a_one", "_law_a_two"] := ⟨F9, PySem.W.mg_of X hG a9, F9.binds (ps := ["_law_a_rows", "_law_a_one", "_law_a_two"]) fun _ _ _ _ _ _ us hl => match us, hl with | [_, _, _], _ => rfl⟩
  have F10 := fun_mk (st := s_l_right) l10 c10 k10
  have D10 : G.DefAt K mg "_law_right" s_l_right f10 _ ["_law_a_rows", "_law_a_one", "_law_a_two"] := ⟨F10, PySem.W.mg_of X hG a10, F10.binds (ps := ["_law_a_rows", "_law_a_one", "_law_a_two"]) fun _ _ _ _ _ _ us hl => match us, hl with | [_, _, _], _ => rfl⟩
  have F11 := fun_mk (st := s_law) l11 c11 k11
  have D11 : G.DefAt K mg "law" s_law fa _ ["_law_script"] := ⟨F11, PySem.W.mg_of X hG a11, F11.binds (ps := ["_law_script"]) fun _ _ _ _ _ _ us hl => match us, hl with | [_], _ => rfl⟩
  have k_changes_0_2_1_0 := F3.kbn (ps := ["rows", "one", "two"]) 0 ["two", "one", "rows"] [2, 1, 0] (fun _ _ _ _ _ _ us ws hu hw => match us, ws, hu, hw with | [], [_, _, _], _, _ => rfl)
  have k_known_0_1_0 := F2.kbn (ps := ["rows", "number"]) 0 ["number", "rows"] [1, 0] (fun _ _ _ _ _ _ us ws hu hw => match us, ws, hu, hw with | [], [_, _], _, _ => rfl)
  have T : Top K mg ⟨f1, _, f2, _, f3, _, f4, _, f5, _, f6, _, f7, _, f8, _, f9, _, f10, _, fa, _⟩ := ⟨D1, D2, D3, D4, D5, D6, D7, D8, D9, D10, D11, k_changes_0_2_1_0, k_known_0_1_0, PySem.W.mg_none_of X hG n_dict, PySem.W.mg_none_of X hG n_isinstance, PySem.W.mg_none_of X hG n_list, PySem.W.mg_none_of X hG n_range, PySem.W.mg_none_of X hG n_set, PySem.W.mg_none_of X hG n_sorted⟩
  exact ⟨_, fun s v => .of_eq rfl, fun base _ _ => ok_law2 T⟩
theorem walk {l : PySem.W.OpenLaw} {q : Program} {loose : List Str} {XP : (Str → Option Value) → Heap → Prop} {YP : World → Heap → Prop} {d : DefRec} {K : Params → PySem.W.Frag} (hn : l.most = some 63) (hdf : d.params.defaults = [])
    (hY : ∀ (w : World) (h : Heap), YP w h → (K w.params).In h)
    (F : ∀ (w : World) (mg : Str → Option Value) (fa : Addr) (h : Heap), (K w.params).In h → h.Ns mainGlobals mg → mg d.name = some (.ref fa) →
      ∃ fd : FuncData, (∀ (s : Shared) (u : Value), BindsTo s fd ⟨[u], []⟩ [("_law_script", u)]) ∧ ∀ base : Heap, (K w.params).In base → base.Ns mainGlobals mg → FnOk l.prog w (K w.params) mg base CX0 5 fa fd ["_law_script"] (spLaw (K w.params))) :
    PySem.W.WalkO q loose XP YP l.row.toRowW d [] (fun f vs => PySem.call f vs) :=
  L2.walk_of (n := 63) (k := 5) (x := "_law_script") (CX := fun _ => CX0) (sp := fun w => spLaw (K w.params)) hn (by decide) hdf ⟨rfl, by decide, by decide⟩ hY F (fun _ _ a ns hl _ hS => ⟨a, ns, rfl, hS, hl, fun _ => rfl⟩) fun _ _ _ _ _ z => z
end K26
open PySem PySem.W PyProof.Rows
set_option maxRecDepth 100000 in
set_option maxHeartbeats 0 in
theorem PySem.Challenge.cw_timegranary_k26_what_rows_know_holds : PySem.Challenge.rw_timegranary_k26_what_rows_know.Holds := by
  w_on; o_law; k_head; (case hw => w_witness2)
  k_fill
  refine K26.walk (l := PySem.Challenge.rw_timegranary_k26_what_rows_know) rfl rfl (fun w h Y => PySem.W.kIn_of Y) ?F
  case F =>
    intro w mg fa h KX G hmg
    refine' K26.all_mk KX G hmg ?a1 ?l1 ?c1 ?k1 ?a2 ?l2 ?c2 ?k2 ?a3 ?l3 ?c3 ?k3 ?a4 ?l4 ?c4 ?k4 ?a5 ?l5 ?c5 ?k5 ?a6 ?l6 ?c6 ?k6 ?a7 ?l7 ?c7 ?k7 ?a8 ?l8 ?c8 ?k8 ?a9 ?l9 ?c9 ?k9 ?a10 ?l10 ?c10 ?k10 ?a11 ?l11 ?c11 ?k11 ?n_dict ?n_isinstance ?n_list ?n_range ?n_set ?n_sorted
    (case a1 => k_is)
    (case l1 => k_is)
    (case c1 => k_is)
    (case k1 => k_is)
    (case a2 => k_is)
    (case l2 => k_is)
    (case c2 => k_is)
    (case k2 => k_is)
    (case a3 => k_is)
    (case l3 => k_is)
    (case c3 => k_is)
    (case k3 => k_is)
    (case a4 => k_is)
    (case l4 => k_is)
    (case c4 => k_is)
    (case k4 => k_is)
    (case a5 => k_is)
    (case l5 => k_is)
    (case c5 => k_is)
    (case k5 => k_is)
    (case a6 => k_is)
    (case l6 => k_is)
    (case c6 => k_is)
    (case k6 => k_is)
    (case a7 => k_is)
    (case l7 => k_is)
    (case c7 => k_is)
    (case k7 => k_is)
    (case a8 => k_is)
    (case l8 => k_is)
    (case c8 => k_is)
    (case k8 => k_is)
    (case a9 => k_is)
    (case l9 => k_is)
    (case c9 => k_is)
    (case k9 => k_is)
    (case a10 => k_is)
    (case l10 => k_is)
    (case c10 => k_is)
    (case k10 => k_is)
    (case a11 => k_is)
    (case l11 => k_is)
    (case c11 => k_is)
    (case k11 => k_is)
    (case n_dict => k_is)
    (case n_isinstance => k_is)
    (case n_list => k_is)
    (case n_range => k_is)
    (case n_set => k_is)
    (case n_sorted => k_is)
