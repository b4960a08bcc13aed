import PyProof.Rows.All
import Wide.All
import OpenK.AllK
import Wide.FinOn
import HandS.ForMost
import HandS.Defaults
import HandS.Wide
import HandS.IsInst
import HandS.Conv
import HandS.Strs
import HandS.SetFor
import HandS.More
import HandS.Walk
import HandS.Deep
import HandS.TupLe
import HandS.NoneIn
import HandS.Style
import PySem.Challenge.RW_timegranary_k28_whole_rows_poured
set_option Elab.async false
set_option linter.all false
set_option maxRecDepth 100000
set_option maxHeartbeats 4000000
namespace G
open PySem PySem.Spec PyProof.Rows L2

/-! ### the ledger -/
structure Led (H0 : Hp) (l : List (Addr × HO)) (H : Hp) : Prop where
  old : ∀ a o, H0 a = some o → (∀ q ∈ l, a ≠ q.1) → H a = some o
  at_ : ∀ (i : Nat) (a : Addr) (o : HO), l[i]? = some (a, o) → H a = some o
  nd : (l.map (·.1)).Nodup
section
variable {H0 H H' : Hp} {l : List (Addr × HO)} {p a : Addr} {o o' u : HO} {q q1 q2 q3 q4 q5 : Addr × HO}
theorem Led.nil : Led H [] H := ⟨fun _ _ h _ => h, fun i a o h => by simp at h, List.nodup_nil⟩
theorem Led.notin (L : Led H0 l H) (n : H p = none) : ∀ q ∈ l, p ≠ q.1 := fun q hq e => by
  obtain ⟨i, hi, hq⟩ := List.mem_iff_getElem.mp hq
  have h := L.at_ i q.1 q.2 (by rw [List.getElem?_eq_getElem hi, hq])
  rw [← e, n] at h
  cases h
theorem Led.fresh (L : Led H0 l H) (n : H p = none) : H0 p = none := by
  cases e : H0 p with
  | none => rfl
  | some u =>
    have h := L.old p u e (L.notin n)
    rw [n] at h
    cases h
theorem Led.new (L : Led H0 l H) (n : H p = none) : Led H0 ((p, o) :: l) (upd H p o) := by
  refine ⟨fun a u e h => ?_, fun i a u h => ?_, ?_⟩
  · rw [upd_ne (h _ (List.mem_cons_self ..))]
    exact L.old a u e fun q hq => h q (List.mem_cons_of_mem _ hq)
  · cases i with
    | zero =>
      simp at h
      obtain ⟨rfl, rfl⟩ := h
      exact upd_same
    | succ i =>
      have h2 := L.at_ i a u (by simpa using h)
      rw [upd_ne (ne_of_none h2 n)]
      exact h2
  · rw [List.map_cons, List.nodup_cons]
    refine ⟨fun hm => ?_, L.nd⟩
    obtain ⟨q, hq, e⟩ := List.mem_map.mp hm
    exact L.notin n q hq e.symm
theorem Led.same (L : Led H0 l H) (s : Same H H') : Led H0 l H' := ⟨fun a o e h => s a o (L.old a o e h), fun i a o h => s a o (L.at_ i a o h), L.nd⟩
theorem Led.made (L : Led H0 l H) (s : Same H H') (n : H p = none) (e : H' p = some o) : Led H0 ((p, o) :: l) H' := by
  refine ⟨fun a u e h => s _ _ (L.old a u e fun q hq => h q (List.mem_cons_of_mem _ hq)), fun i a u h => ?_, ?_⟩
  · cases i with
    | zero =>
      simp at h
      obtain ⟨rfl, rfl⟩ := h
      exact e
    | succ i => exact s _ _ (L.at_ i a u (by simpa using h))
  · rw [List.map_cons, List.nodup_cons]
    refine ⟨fun hm => ?_, L.nd⟩
    obtain ⟨q, hq, e⟩ := List.mem_map.mp hm
    exact L.notin n q hq e.symm
/-- an object that stood and is looked at -/
theorem Led.add (L : Led H0 l H) (e : H a = some o) (n : ∀ q ∈ l, a ≠ q.1) : Led H0 ((a, o) :: l) H := by
  refine ⟨fun b u e h => L.old b u e fun q hq => h q (List.mem_cons_of_mem _ hq), fun i b u h => ?_, ?_⟩
  · cases i with
    | zero =>
      simp at h
      obtain ⟨rfl, rfl⟩ := h
      exact e
    | succ i => exact L.at_ i b u (by simpa using h)
  · rw [List.map_cons, List.nodup_cons]
    refine ⟨fun hm => ?_, L.nd⟩
    obtain ⟨q, hq, e⟩ := List.mem_map.mp hm
    exact n q hq e.symm
theorem Led.one (e : H a = some o) : Led H [(a, o)] H := Led.nil.add e fun q hq => by simp at hq
theorem Led.mut (L : Led H0 l H) (i : Nat) (hi : l[i]? = some (p, o)) (k : ∀ b u, H b = some u → b ≠ p → H' b = some u) (e : H' p = some o') : Led H0 (l.set i (p, o')) H' := by
  have il := (List.getElem?_eq_some_iff.mp hi).1
  have nm : (l.set i (p, o')).map (·.1) = l.map (·.1) := by
    rw [List.map_set]
    apply List.ext_getElem?
    intro j
    by_cases hj : i = j
    · subst hj
      rw [List.getElem?_set_self (by simpa using il), List.getElem?_map, hi]
      rfl
    · rw [List.getElem?_set_ne hj]
  refine ⟨fun a u ea h => ?_, fun j a u h => ?_, ?_⟩
  · have hp : a ≠ p := h (p, o') (List.mem_iff_getElem?.mpr ⟨i, List.getElem?_set_self il⟩)
    refine k a u (L.old a u ea fun q hq => ?_) hp
    have : q.1 ∈ (l.set i (p, o')).map (·.1) := by
      rw [nm]
      exact List.mem_map_of_mem hq
    obtain ⟨q', hq', e'⟩ := List.mem_map.mp this
    rw [← e']
    exact h q' hq'
  · by_cases hj : i = j
    · subst hj
      rw [List.getElem?_set_self il] at h
      cases h
      exact e
    · rw [List.getElem?_set_ne hj] at h
      refine k a u (L.at_ j a u h) fun ea => hj ?_
      have h1 : (l.map (·.1))[i]? = some p := by rw [List.getElem?_map, hi]; rfl
      have h2 : (l.map (·.1))[j]? = some p := by rw [List.getElem?_map, h, ea]; rfl
      exact (List.getElem?_inj (by simpa using il) L.nd).mp (h1.trans h2.symm)
  · rw [nm]
    exact L.nd
theorem Led.set (L : Led H0 l H) (i : Nat) (hi : l[i]? = some (p, o)) : Led H0 (l.set i (p, o')) (upd H p o') :=
  L.mut i hi (fun b u e n => by rw [upd_ne n]; exact e) upd_same
theorem Led.at0 (L : Led H0 ((p, o) :: l) H) : H p = some o := L.at_ 0 p o rfl
theorem Led.at1 (L : Led H0 (q :: (p, o) :: l) H) : H p = some o := L.at_ 1 p o rfl
theorem Led.at2 (L : Led H0 (q :: q1 :: (p, o) :: l) H) : H p = some o := L.at_ 2 p o rfl
theorem Led.at3 (L : Led H0 (q :: q1 :: q2 :: (p, o) :: l) H) : H p = some o := L.at_ 3 p o rfl
theorem Led.at4 (L : Led H0 (q :: q1 :: q2 :: q3 :: (p, o) :: l) H) : H p = some o := L.at_ 4 p o rfl
theorem Led.at5 (L : Led H0 (q :: q1 :: q2 :: q3 :: q4 :: (p, o) :: l) H) : H p = some o := L.at_ 5 p o rfl
theorem Led.at6 (L : Led H0 (q :: q1 :: q2 :: q3 :: q4 :: q5 :: (p, o) :: l) H) : H p = some o := L.at_ 6 p o rfl
theorem Led.set0 (L : Led H0 ((p, o) :: l) H) : Led H0 ((p, o') :: l) (upd H p o') := L.set 0 rfl
theorem Led.set1 (L : Led H0 (q :: (p, o) :: l) H) : Led H0 (q :: (p, o') :: l) (upd H p o') := L.set 1 rfl
theorem Led.set2 (L : Led H0 (q :: q1 :: (p, o) :: l) H) : Led H0 (q :: q1 :: (p, o') :: l) (upd H p o') := L.set 2 rfl
theorem Led.set3 (L : Led H0 (q :: q1 :: q2 :: (p, o) :: l) H) : Led H0 (q :: q1 :: q2 :: (p, o') :: l) (upd H p o') := L.set 3 rfl
theorem Led.set4 (L : Led H0 (q :: q1 :: q2 :: q3 :: (p, o) :: l) H) : Led H0 (q :: q1 :: q2 :: q3 :: (p, o') :: l) (upd H p o') := L.set 4 rfl
theorem Led.set5 (L : Led H0 (q :: q1 :: q2 :: q3 :: q4 :: (p, o) :: l) H) : Led H0 (q :: q1 :: q2 :: q3 :: q4 :: (p, o') :: l) (upd H p o') := L.set 5 rfl
/-- one object fewer is looked at -/
theorem Led.tl (L : Led H0 ((p, o) :: l) H) (n : H0 p = none ∨ H0 p = some o) : Led H0 l H := by
  refine ⟨fun a u e h => ?_, fun i a u h => L.at_ (i + 1) a u (by simpa using h), ?_⟩
  · by_cases ha : a = p
    · subst ha
      rcases n with n | n
      · rw [n] at e
        cases e
      · rw [n] at e
        cases e
        exact L.at0
    · refine L.old a u e fun q hq => ?_
      rcases List.mem_cons.mp hq with rfl | hq
      · exact ha
      · exact h q hq
  · have := L.nd
    rw [List.map_cons, List.nodup_cons] at this
    exact this.2
theorem Led.tl1 (L : Led H0 (q :: (p, o) :: l) H) (n : H0 p = none ∨ H0 p = some o) : Led H0 (q :: l) H := by
  have nd := L.nd
  rw [List.map_cons, List.map_cons, List.nodup_cons, List.nodup_cons] at nd
  have L2 : Led H0 ((p, o) :: q :: l) H := by
    refine ⟨fun a u e h => L.old a u e fun x hx => h x ?_, fun i a u h => ?_, ?_⟩
    · rcases List.mem_cons.mp hx with rfl | hx
      · exact List.mem_cons_of_mem _ (List.mem_cons_self ..)
      · rcases List.mem_cons.mp hx with rfl | hx
        · exact List.mem_cons_self ..
        · exact List.mem_cons_of_mem _ (List.mem_cons_of_mem _ hx)
    · match i, h with
      | 0, h => exact L.at_ 1 a u h
      | 1, h => exact L.at_ 0 a u h
      | i + 2, h => exact L.at_ (i + 2) a u h
    · rw [List.map_cons, List.map_cons, List.nodup_cons, List.nodup_cons]
      refine ⟨fun h => ?_, fun h => nd.1 (List.mem_cons_of_mem _ h), nd.2.2⟩
      rcases List.mem_cons.mp h with h | h
      · exact nd.1 (by rw [h]; exact List.mem_cons_self ..)
      · exact nd.2.1 h
  exact L2.tl n
theorem Led.toSame (L : Led H0 [] H) : Same H0 H := fun a o e => L.old a o e fun q hq => by cases hq
/-- all but one stood still -/
theorem Led.but (L : Led H0 [(a, o)] H) : ∀ b u, H0 b = some u → b ≠ a → H b = some u := fun b u e n => L.old b u e fun q hq => by
  rcases List.mem_cons.mp hq with rfl | hq
  · exact n
  · cases hq
theorem Led.ne01 (L : Led H0 ((p, o) :: (a, u) :: l) H) : p ≠ a := fun e => by
  have := L.nd
  rw [List.map_cons, List.map_cons, List.nodup_cons] at this
  exact this.1 (by rw [e]; exact List.mem_cons_self ..)
end

/-! ### the steps of a reading -/
def NEWL (xs : List V) (H : Hp) (Q : VK) : Prop := xs.length ≤ sizeLine ∧ ∀ p, H p = none → Q (.ref p) (upd H p (.lst xs))
def NEWT (xs : List V) (H : Hp) (Q : VK) : Prop := xs.length ≤ sizeLine ∧ ∀ p, H p = none → Q (.ref p) (upd H p (.tup xs))
section
variable {te ta tb : TE} {t u : TS} {tt t1 t2 : TT} {tl : TA} {g : TG} {D : Ends} {σ : L2.St} {H H' H0 : Hp} {Q : VK} {QB : Bool → Hp → Prop} {QL : List V → Hp → Prop} {QS : L2.St → Hp → Prop} {v w : V} {vs : List V} {i j : Int} {n : Nat} {r : R2} {K : PySem.W.Frag} {p : Addr} {l : List (Addr × HO)} {xs : List V}
theorem i_seq (h : t { D with nx := u D } σ H) : tSeq t u D σ H := h
theorem i_next (h : D.nx σ H) : tNext D σ H := h
theorem i_cont (h : D.ct σ H) : tCont D σ H := h
theorem i_break (h : D.bk σ H) : tBreak D σ H := h
theorem i_asg (h : te σ H fun x H1 => g x σ H1 D.nx) : tAsg te g D σ H := h
theorem i_gname (h : QS (σ.set n (some v)) H) : gName n v σ H QS := h
theorem i_drop (h : te σ H fun _ H1 => D.nx σ H1) : tDrop te D σ H := h
theorem i_ret (h : te σ H D.rt) : tRet te D σ H := h
theorem i_retN (h : D.rt .non H) : tRetN D σ H := h
theorem i_ifS (h : tt σ H fun b H1 => if b = true then t D σ H1 else u D σ H1) : tIfS tt t u D σ H := h
theorem i_var (e : σ[n]? = some (some v)) (h : Q v H) : tVar n σ H Q := ⟨v, e, h⟩
theorem i_c (h : Q v H) : tC v σ H Q := h
theorem i_op (h : ta σ H fun x H1 => tb σ H1 fun y H2 => r x y H2 Q) : tOp r ta tb σ H Q := h
theorem i_un {r : V → Hp → VK → Prop} (h : ta σ H fun x H1 => r x H1 Q) : tUn r ta σ H Q := h
theorem i_I0 {f : Int → Int → V} (h : Q (f i j) H) : rI0 f (.int i) (.int j) H Q := ⟨i, j, rfl, rfl, h⟩
theorem i_I {C : Int → Int → Prop} {f : Int → Int → V} (c : C i j) (h : Q (f i j) H) : rI C f (.int i) (.int j) H Q := ⟨i, j, rfl, rfl, c, h⟩
theorem i_U {f : Int → V} (h : Q (f i) H) : rU f (.int i) H Q := ⟨i, rfl, h⟩
theorem i_eq (e : scal v w = true) (h : Q (.bl (decide (v = w))) H) : rEq v w H Q := ⟨e, h⟩
theorem i_ne (e : scal v w = true) (h : Q (.bl (!decide (v = w))) H) : rNe v w H Q := ⟨e, h⟩
theorem i_eqI (h : Q (.bl (decide (i = j))) H) : rEq (.int i) (.int j) H Q := ⟨rfl, by
  have : decide (V.int i = V.int j) = decide (i = j) := by simp
  rw [this]; exact h⟩
theorem i_neI (h : Q (.bl (!decide (i = j))) H) : rNe (.int i) (.int j) H Q := ⟨rfl, by
  have : decide (V.int i = V.int j) = decide (i = j) := by simp
  rw [this]; exact h⟩
theorem i_test (h : te σ H fun x H' => ∃ k, x = .bl k ∧ QB k H') : tTest te σ H QB := h
theorem i_B (h : te σ H fun x H' => ∃ k, x = .bl k ∧ QB k H') : tB te σ H QB := h
theorem i_bl {b : Bool} {QP : Bool → Prop} (h : QP b) : ∃ k, V.bl b = .bl k ∧ QP k := ⟨b, rfl, h⟩
theorem i_not (h : t1 σ H fun c H1 => QB (!c) H1) : tNot t1 σ H QB := h
theorem i_and (h : t1 σ H fun c H1 => if c = true then t2 σ H1 QB else QB false H1) : tAnd t1 t2 σ H QB := h
theorem i_or (h : t1 σ H fun c H1 => if c = true then QB true H1 else t2 σ H1 QB) : tOr t1 t2 σ H QB := h
theorem i_notV (h : ta σ H fun x H1 => ∃ c, x = .bl c ∧ Q (.bl (!c)) H1) : tNotV ta σ H Q := h
theorem i_andV (h : ta σ H fun x H1 => ∃ c, x = .bl c ∧ if c = true then tb σ H1 Q else Q (.bl false) H1) : tAndV ta tb σ H Q := h
theorem i_orV (h : ta σ H fun x H1 => ∃ c, x = .bl c ∧ if c = true then Q (.bl true) H1 else tb σ H1 Q) : tOrV ta tb σ H Q := h
theorem i_ifE (h : tt σ H fun c H1 => if c = true then ta σ H1 Q else tb σ H1 Q) : tIf tt ta tb σ H Q := h
theorem i_nil (h : QL [] H) : tNil σ H QL := h
theorem i_cons (h : ta σ H fun x H1 => tl σ H1 fun xs H2 => QL (x :: xs) H2) : tCons ta tl σ H QL := h
theorem i_tup (h : tl σ H fun xs H1 => NEWT xs H1 Q) : tTup tl σ H Q := h
theorem i_lst (h : tl σ H fun xs H1 => NEWL xs H1 Q) : tLst tl σ H Q := h
theorem i_new {k : List V → HO} (L : Led H0 l H) (s : vs.length ≤ sizeLine) (h : ∀ p H2, H p = none → H0 p = none → Led H0 ((p, k vs) :: l) H2 → Q (.ref p) H2) : vs.length ≤ sizeLine ∧ ∀ p, H p = none → Q (.ref p) (upd H p (k vs)) :=
  ⟨s, fun p np => h p _ np (L.fresh np) (L.new np)⟩
theorem i_fresh {o : HO} (L : Led H0 l H) (h : ∀ p H2, H p = none → H0 p = none → Led H0 ((p, o) :: l) H2 → Q (.ref p) H2) : ∀ p, H p = none → Q (.ref p) (upd H p o) :=
  fun p np => h p _ np (L.fresh np) (L.new np)
theorem i_call {sp : Sp} {dvs : List V} {E : XK} (h : tl σ H fun vs H1 => sp (vs ++ dvs) H1 Q E) : tCall sp dvs E tl σ H Q := h
theorem i_callN {sp : Sp} {m : Nat} {gV : List V → List V → List V} {E : XK} {tk : TA} (h : tl σ H fun vs H1 => tk σ H1 fun zs H2 => vs.length = n ∧ zs.length = m ∧ sp (gV vs zs) H2 Q E) : tCallN n m sp gV E tl tk σ H Q := h
theorem i_CB {r : List V → Hp → VK → Prop} (h : tl σ H fun vs H1 => r vs H1 Q) : tCB r tl σ H Q := h
theorem i_ixL (s : H p = some (.lst xs)) (a : atI xs i = some v) (h : Q v H) : rIxL K (.ref p) (.int i) H Q := ⟨p, xs, i, v, rfl, rfl, .inl (.inl s), a, h⟩
theorem i_ixLS (s : SqL K H p xs) (a : atI xs i = some v) (h : Q v H) : rIxL K (.ref p) (.int i) H Q := ⟨p, xs, i, v, rfl, rfl, s, a, h⟩
theorem i_ixT (s : H p = some (.tup xs)) (a : atI xs i = some v) (h : Q v H) : rIxT K (.ref p) (.int i) H Q := ⟨p, xs, i, v, rfl, rfl, .inl (.inl s), a, h⟩
theorem i_ixTS (s : SqT K H p xs) (a : atI xs i = some v) (h : Q v H) : rIxT K (.ref p) (.int i) H Q := ⟨p, xs, i, v, rfl, rfl, s, a, h⟩
theorem i_ifd {c A B : Prop} [Decidable c] (h1 : c → A) (h2 : ¬ c → B) : if decide c = true then A else B := by
  by_cases h : c
  · rw [if_pos (by simpa using h)]; exact h1 h
  · rw [if_neg (by simpa using h)]; exact h2 h
theorem i_ifnd {c A B : Prop} [Decidable c] (h1 : ¬ c → A) (h2 : c → B) : if (!decide c) = true then A else B := by
  by_cases h : c
  · rw [if_neg (by simpa using h)]; exact h2 h
  · rw [if_pos (by simpa using h)]; exact h1 h
theorem i_ifb {b : Bool} {A B : Prop} (h1 : b = true → A) (h2 : b = false → B) : if b = true then A else B := by
  cases b with
  | true => exact h1 rfl
  | false => exact h2 rfl
theorem i_ift {b : Bool} {A B : Prop} (e : b = true) (h : A) : if b = true then A else B := by rw [if_pos e]; exact h
theorem i_iff {b : Bool} {A B : Prop} (e : b = false) (h : B) : if b = true then A else B := by rw [if_neg (by simp [e])]; exact h
end

theorem atI_lt {α : Type} {xs : List α} {i : Int} (d : α) (h0 : 0 ≤ i) (h1 : i < xs.length) : atI xs i = some (xs.getD i.toNat d) := by
  obtain ⟨j, rfl⟩ : ∃ j : Nat, i = (j : Int) := ⟨i.toNat, by omega⟩
  refine atI_nat ?_
  rw [Int.toNat_natCast, List.getD_eq_getElem?_getD, List.getElem?_eq_getElem (by omega)]
  rfl
/-- an item of a list whose items all are such -/
theorem atI_all {α : Type} {xs : List α} {i : Int} (P : α → Prop) (hP : ∀ x ∈ xs, P x) (h0 : 0 ≤ i) (h1 : i < xs.length) : ∃ v, atI xs i = some v ∧ P v := by
  obtain ⟨j, rfl⟩ : ∃ j : Nat, i = (j : Int) := ⟨i.toNat, by omega⟩
  have hj : j < xs.length := by omega
  exact ⟨xs[j], atI_nat (List.getElem?_eq_getElem hj), hP _ (List.getElem_mem hj)⟩
end G

namespace G
open PySem PySem.Spec PyProof.Rows L2
/-! ### a def of the top -/
structure DefAt (K : PySem.W.Frag) (mg : Str → Option Value) (x : Str) (st : Stmt) (f : Addr) (fd : FuncData) (ps : List Str) : Prop where
  F : Fun K x x st f fd
  m : mg x = some (.ref f)
  b : Binds K fd ps []
def pickU (ix : List Nat) (us ws : List Value) : List Value := ix.map fun i => (us ++ ws).getD i .none
def pickV (ix : List Nat) (vs zs : List V) : List V := ix.map fun i => (vs ++ zs).getD i .non
theorem rel_getD : ∀ {vs : List V} {us : List Value} (i : Nat), Vals vs us → L2.RelV (vs.getD i .non) (us.getD i .none)
  | _, _, _, .nil => by simp [L2.RelV]
  | _, _, 0, .cons r _ => r
  | _, _, i + 1, .cons _ t => rel_getD i t
theorem rel_pick {vs zs : List V} {us ws : List Value} (r : Vals vs us) (rz : Vals zs ws) : ∀ ix : List Nat, Vals (pickV ix vs zs) (pickU ix us ws)
  | [] => .nil
  | i :: ix => .cons (rel_getD i (r.append rz)) (rel_pick r rz ix)
end G
namespace L2
open PySem PySem.Spec PyProof.Rows
theorem Fun.kbn {K : PySem.W.Frag} {x qual : Str} {st : Stmt} {f : Addr} {fd : FuncData} {ps : List Str} (F : Fun K x qual st f fd) (n : Nat) (ks : List Str) (ix : List Nat)
    (h : ∀ (kV doc pm : Value) (an : Option Addr) (cdv ct : Value) (us ws : List Value), us.length = n → ws.length = ks.length → bindArgs (PySem.W.fnOf x qual (defArgs st) (defBody st) (defScope st) .none kV doc pm an cdv ct) ⟨us, ks.zip ws⟩ = pure (ps.zip (G.pickU ix us ws))) :
    KBn K fd ps n ks (G.pickU ix) (G.pickV ix) := by
  obtain ⟨oc, od, kV, doc, pm, an, cdv, ct, osl, rfl, lk, hcd⟩ := F.ex
  exact ⟨fun s us ws _ h1 h2 => .of_eq (h kV doc pm an cdv ct us ws h1 h2), fun r rz => G.rel_pick r rz ix⟩
end L2
namespace G
open PySem PySem.Spec PyProof.Rows L2
section
variable {X : Cx} {CX : CXT} {k n : Nat} {f : Addr} {fd : FuncData} {ps ks : List Str} {sp : Sp} {E : XK} {x : Str} {p pos : Pos} {kws : List Keyword} {tk : TA} {g : List Value → List Value → List Value} {gV : List V → List V → List V}
/-- f(k = v, ..), keywords alone -/
theorem pe_callN0 (F : FnOk X.prog X.w X.K X.mg X.base CX k f fd ps sp) (hr : Room k X.A) (hg : Gl X x) (hm : X.mg x = some (.ref f)) (hk : PySem.W.keepIn X.K (.ref f) = true) (hb : KBn X.K fd ps 0 ks g gV) (hx : Passes CX X E)
    (hkw : PK X kws tk) (hall : (backToKw pos (keywordEach kws X.env)).all (·.1.isSome) = true := by rfl) (hks : (backToKw pos (keywordEach kws X.env)).filterMap (·.1) = ks := by rfl)
    (hdb : (x == ("__debug__" : Str)) = false := by decide)
    (hpl : ((backTo pos (starEach [] X.env)).any (·.1) || (backToKw pos (keywordEach kws X.env)).any (·.1.isNone)) = false := by rfl) :
    PE X (.Call (.Name x p) [] kws pos) (tCallN 0 ks.length sp gV E tNil tk) := by
  refine ⟨fun pins s σ H Q I h => ?_⟩
  refine wpAny_Call_Name_kw (ld_glob I hg hm ?_ hdb)
  refine PySem.W.callWith_KW0 (h₀ := X.base) I.ok.mod.kin hk hall ?_ hpl
  refine thn (hkw.run pos pins s σ H _ I h) fun ws s2 ⟨zs, H2, I2, rz, l1, l2, q2⟩ => ⟨I2.kIn, ?_⟩
  rw [hks]
  exact run_fnN F hr hb hx I2 .nil rz l1 l2 q2
end
/-! ### list(range(a, b, c)) -/
def PRg3 (X : Cx) (e : Expr) (t : L2.St → Hp → (Int → Int → Int → Hp → Prop) → Prop) : Prop :=
  ∀ (pins : List (Addr × Obj)) (s : Shared) (σ : L2.St) (H : Hp) (Q : Int → Int → Int → Hp → Prop), Inv X pins σ H s → t σ H Q →
    wpAny (model X.prog X.w) X.A (eval e X.env) (fun x s' => ∃ r a b c t u v H', x = .ref r ∧ IsRange s'.heap r a b c t u v ∧ Inv X pins σ H' s' ∧ Q a b c H') X.xe s
end G
namespace G
open PySem PySem.Spec PyProof.Rows L2
section
variable {X : Cx} {a b c e : Expr} {ta tb tc : TE} {te : L2.St → Hp → (Int → Int → Int → Hp → Prop) → Prop}
/-- what a range with a step asks -/
def RgOk3 (a b c : Int) (n : Nat) : Prop := c ≠ 0 ∧ c.natAbs.log2 < 9000 ∧ Builtin.Range.small a b c = true ∧ Builtin.Range.rangeSize a b c = n ∧ n ≤ 2 ^ 24
def tRg3 (ta tb tc : TE) : L2.St → Hp → (Int → Int → Int → Hp → Prop) → Prop := fun σ H Q => ta σ H fun x H1 => tb σ H1 fun y H2 => tc σ H2 fun z H3 => ∃ i j k, x = .int i ∧ y = .int j ∧ z = .int k ∧ (k ≠ 0 ∧ k.natAbs.log2 < 9000) ∧ Q i j k H3
theorem prg_3 {p pos : Pos} (hg : Gl X "range") (hm : X.mg "range" = none) (ha : PE X a ta) (hb : PE X b tb) (hc : PE X c tc) (na : starEach [a, b, c] X.env = (false, eval a X.env) :: starEach [b, c] X.env := by rfl)
    (nb : starEach [b, c] X.env = (false, eval b X.env) :: starEach [c] X.env := by rfl) (nc : starEach [c] X.env = (false, eval c X.env) :: starEach [] X.env := by rfl) (hp : (backTo pos (starEach [b, c] X.env)).any (·.1) = false := by rfl) (hp2 : (backTo pos (starEach [c] X.env)).any (·.1) = false := by rfl) : PRg3 X (.Call (.Name "range" p) [a, b, c] [] pos) (tRg3 ta tb tc) := by
  intro pins s σ H Q I h
  have hA : PA X [a, b, c] (tCons ta (tCons tb (tCons tc tNil))) := pa_cons ha (pa_cons hb (pa_cons hc pa_nil nc) nb) na
  refine Call_ (ld_blt I hg hm boot_range (PyProof.Rows.callWith_type1 (thn (hA.run pos pins s σ H (fun vs H3 => ∃ i j k, vs = [.int i, .int j, .int k] ∧ (k ≠ 0 ∧ k.natAbs.log2 < 9000) ∧ Q i j k H3) I ?_) fun us s1 ⟨vs, H1, I1, r1, q1⟩ => ?_) na hp))
  · show ta σ H _
    have h2 : ta σ H fun x H1 => tb σ H1 fun y H2 => tc σ H2 fun z H3 => ∃ i j k, x = .int i ∧ y = .int j ∧ z = .int k ∧ (k ≠ 0 ∧ k.natAbs.log2 < 9000) ∧ Q i j k H3 := h
    have e : (fun x H1 => tb σ H1 fun y H2 => tc σ H2 fun z H3 => ∃ i j k, [x, y, z] = [V.int i, .int j, .int k] ∧ (k ≠ 0 ∧ k.natAbs.log2 < 9000) ∧ Q i j k H3)
        = (fun x H1 => tb σ H1 fun y H2 => tc σ H2 fun z H3 => ∃ i j k, x = .int i ∧ y = .int j ∧ z = .int k ∧ (k ≠ 0 ∧ k.natAbs.log2 < 9000) ∧ Q i j k H3) := by
      funext x H1
      congr 1
      funext y H2
      congr 1
      funext z H3
      simp [and_assoc]
    show ta σ H (fun x H1 => tb σ H1 fun y H2 => tc σ H2 fun z H3 => ∃ i j k, [x, y, z] = [V.int i, .int j, .int k] ∧ (k ≠ 0 ∧ k.natAbs.log2 < 9000) ∧ Q i j k H3)
    rw [e]
    exact h2
  · obtain ⟨i, j, k, ev, ⟨c0, c1⟩, q⟩ := q1
    subst ev
    cases r1 with
    | cons r rr =>
      cases rr with
      | cons r' rr =>
        cases rr with
        | cons r'' rr =>
          cases rr
          obtain ⟨t, rfl⟩ := r
          obtain ⟨t', rfl⟩ := r'
          obtain ⟨t'', rfl⟩ := r''
          refine call_range_3 c0 ?_ (.inl (PyProof.noPylong_of_log2 c1))
          exact ⟨_, i, j, k, _, _, _, H1, rfl, IsRange.new _ _ _ _ _ _ _, I1.kept fun b u e => Heap.get?_push_of_some _ e, q⟩
/-- a, a + c, .. -/
def rgV3 (a c : Int) (n : Nat) : List V := (List.range n).map fun i => V.int (a + (i : Nat) * c)
theorem vals_rg3 {a c : Int} {n : Nat} {acc : Array Value} (h : ItemsOf (fun i v => ∃ t, v = .int (a + i * c) t) acc n) : Vals (rgV3 a c n) acc.toList := by
  have e : acc.toList.length = n := by rw [Array.length_toList]; exact h.1
  unfold rgV3
  rw [← e]
  refine vals_of_get acc.toList _ fun j u hj => ?_
  obtain ⟨t, rfl⟩ := h.2 j u (by rw [← hj, Array.getElem?_toList])
  exact ⟨t, rfl⟩
def tLstRg3 (te : L2.St → Hp → (Int → Int → Int → Hp → Prop) → Prop) : TE := fun σ H Q => te σ H fun a b c H1 => ∃ n, Builtin.Range.small a b c = true ∧ Builtin.Range.rangeSize a b c = (n : Nat) ∧ n ≤ 2 ^ 24 ∧ ∀ q, H1 q = none → Q (.ref q) (upd H1 q (.lst (rgV3 a c n)))
theorem pe_listRg3 {p pos : Pos} (hc : X.calm = true) (hg : Gl X "list") (hm : X.mg "list" = none) (he : PRg3 X e te) (na : starEach [e] X.env = (false, eval e X.env) :: starEach [] X.env := by rfl) : PE X (.Call (.Name "list" p) [e] [] pos) (tLstRg3 te) := by
  refine ⟨fun pins s σ H Q I h => ?_⟩
  refine Call_ (ld_blt I hg hm boot_list (PyProof.Rows.callWith_type1 (args_cons (thn (he pins s σ H _ I h) fun x s1 ⟨r, a, b, c, t, u, v, H1, ex, hr, I1, q⟩ => args_nil ?_) na) na))
  subst ex
  obtain ⟨n, sm, sz, b5, q⟩ := q
  refine call_list_range (n := n) (I1.ok.hd hc) hr sm sz b5 fun h' tk acc c' hk e' hi => ?_
  refine ⟨.ref s1.heap.objs.size, upd H1 s1.heap.objs.size (.lst (rgV3 a c n)), I1.laid hk (Nat.le_refl _) (show ObjOk X.prog X.w _ _ _ (.lst (rgV3 a c n)) from ⟨?_, acc.toList, c', vals_rg3 hi, ?_⟩), rfl, q _ (I1.hok.fresh (Nat.le_refl _))⟩
  · unfold rgV3
    rw [List.length_map, List.length_range, sizeLine_eq]
    exact b5
  · rw [Array.toArray_toList]; exact e'
end
end G

namespace G
open PySem PySem.Spec PyProof.Rows L2
section
variable {H H0 : Hp} {Q : VK} {vs : List V} {l : List (Addr × HO)}
theorem sz {n : Nat} (h : Nat.ble n sizeLine = true) : n ≤ sizeLine := Nat.le_of_ble_eq_true h
theorem i_newL (L : Led H0 l H) (s : vs.length ≤ sizeLine) (h : ∀ p H2, H p = none → H0 p = none → Led H0 ((p, .lst vs) :: l) H2 → Q (.ref p) H2) : NEWL vs H Q :=
  ⟨s, fun p np => h p _ np (L.fresh np) (L.new np)⟩
theorem i_newT (L : Led H0 l H) (s : vs.length ≤ sizeLine) (h : ∀ p H2, H p = none → H0 p = none → Led H0 ((p, .tup vs) :: l) H2 → Q (.ref p) H2) : NEWT vs H Q :=
  ⟨s, fun p np => h p _ np (L.fresh np) (L.new np)⟩
end
end G

namespace G
open PySem PySem.Spec PyProof.Rows L2
/-! ### data -/
def Lay (n : Nat) (d : PyData) : Prop := d.canLay0 = true ∧ d.depth ≤ n
theorem Lay.int (n : Nat) (i : Int) : Lay n (.int i) := ⟨by simp [PyData.canLay0], by simp [PyData.depth]⟩
theorem Lay.bool (n : Nat) (i : Bool) : Lay n (.bool i) := ⟨by simp [PyData.canLay0], by simp [PyData.depth]⟩
theorem Lay.none (n : Nat) : Lay n .none := ⟨by simp [PyData.canLay0], by simp [PyData.depth]⟩
theorem lay_all {n : Nat} : ∀ {ds : List PyData}, (∀ d ∈ ds, Lay n d) → PyData.canLayAll0 ds = true ∧ PyData.depthAll ds ≤ n
  | [], _ => ⟨by simp [PyData.canLayAll0], by simp [PyData.depthAll]⟩
  | d :: ds, h => by
    obtain ⟨a, b⟩ := lay_all fun x hx => h x (List.mem_cons_of_mem _ hx)
    obtain ⟨c, e⟩ := h d (List.mem_cons_self ..)
    refine ⟨by simp [PyData.canLayAll0, a, c], ?_⟩
    simp only [PyData.depthAll]
    exact Nat.max_le.mpr ⟨e, b⟩
theorem Lay.list {n : Nat} {ds : List PyData} (h : ∀ d ∈ ds, Lay n d) : Lay (n + 1) (.list ds) := by
  obtain ⟨a, b⟩ := lay_all h
  exact ⟨by simp [PyData.canLay0, a], by simp only [PyData.depth]; omega⟩
theorem Lay.tuple {n : Nat} {ds : List PyData} (h : ∀ d ∈ ds, Lay n d) : Lay (n + 1) (.tuple ds) := by
  obtain ⟨a, b⟩ := lay_all h
  exact ⟨by simp [PyData.canLay0, a], by simp only [PyData.depth]; omega⟩
theorem Lay.shaped {n : Nat} {d : PyData} (h : Lay n d) (hn : n ≤ 64 := by decide) : SeqAt.shaped d = true := by
  unfold SeqAt.shaped
  rw [h.1, decide_eq_true (Nat.le_trans h.2 hn)]
  rfl
theorem Lay.ints (xs : List Int) : Lay 1 (.list (xs.map PyData.int)) := Lay.list fun d hd => by
  obtain ⟨i, _, rfl⟩ := List.mem_map.mp hd
  exact Lay.int 0 i
theorem DpAll.ints {K : PySem.W.Frag} {H : Hp} : ∀ xs : List Int, DpAll K H (xs.map V.int) (xs.map PyData.int)
  | [] => .nil
  | _ :: xs => .cons (.int _) (DpAll.ints xs)
theorem Dp.ints {K : PySem.W.Frag} {H : Hp} {p : Addr} {xs : List Int} (h : H p = some (.lst (xs.map V.int))) : Dp K H (.ref p) (.list (xs.map PyData.int)) := .lst (.inl (.inl h)) (DpAll.ints xs)
section
variable {K : PySem.W.Frag} {H : Hp} {Q : VK} {v w : V} {d : PyData} {n : Nat}
theorem i_neSame (h1 : Dp K H v d) (h2 : Dp K H w d) (l : Lay n d) (hn : n ≤ 64) (h : Q (.bl false) H) : rNeD K v w H Q :=
  ⟨d, d, h1, h2, l.shaped hn, l.shaped hn, by rw [SeqAt.eqv_refl d l.1]; exact h⟩
theorem i_eqSame (h1 : Dp K H v d) (h2 : Dp K H w d) (l : Lay n d) (hn : n ≤ 64) (h : Q (.bl true) H) : rEqD K v w H Q :=
  ⟨d, d, h1, h2, l.shaped hn, l.shaped hn, by rw [SeqAt.eqv_refl d l.1]; exact h⟩
theorem i_isi {t u : String} {b : Bool} (ty : TyX K H v (.type t)) (k : kitB t u = some b) (h : Q (.bl b) H) : rIsi K [v, .ty u] H Q :=
  ⟨v, .ty u, .type t, .type u, b, rfl, .ty u, ty, kit_ty k, h⟩
end
/-! ### stores and appends by the ledger -/
section
variable {H0 H : Hp} {Q : Hp → Prop} {QV : VK} {l : List (Addr × HO)} {p : Addr} {xs : List V} {i : Int} {j : Nat} {v : V} {q1 q2 q3 q4 : Addr × HO} {K : PySem.W.Frag} {D : Ends} {σ : L2.St}
theorem i_gsub {to ti : TE} {t : TSet} {QS : L2.St → Hp → Prop} (h : to σ H fun o H1 => ti σ H1 fun i H2 => t o i v H2 fun H3 => QS σ H3) : gSub to ti t v σ H QS := h
theorem i_setL (s : H p = some (.lst xs)) (e : ixN xs.length i = some j) (h : Q (upd H p (.lst (xs.set j v)))) : rSetL (.ref p) (.int i) v H Q := ⟨p, xs, i, j, rfl, rfl, s, e, h⟩
theorem i_setL0 (L : Led H0 ((p, .lst xs) :: l) H) (e : ixN xs.length i = some j) (h : ∀ H2, Led H0 ((p, .lst (xs.set j v)) :: l) H2 → Q H2) : rSetL (.ref p) (.int i) v H Q := i_setL L.at0 e (h _ L.set0)
theorem i_setL1 (L : Led H0 (q1 :: (p, .lst xs) :: l) H) (e : ixN xs.length i = some j) (h : ∀ H2, Led H0 (q1 :: (p, .lst (xs.set j v)) :: l) H2 → Q H2) : rSetL (.ref p) (.int i) v H Q := i_setL L.at1 e (h _ L.set1)
theorem i_setL2 (L : Led H0 (q1 :: q2 :: (p, .lst xs) :: l) H) (e : ixN xs.length i = some j) (h : ∀ H2, Led H0 (q1 :: q2 :: (p, .lst (xs.set j v)) :: l) H2 → Q H2) : rSetL (.ref p) (.int i) v H Q := i_setL L.at2 e (h _ L.set2)
theorem i_bm {r : V → List V → Hp → VK → Prop} {T : String} {to : TE} {t : TA} (h : to σ H fun x H1 => tyV K T x H1 ∧ t σ H1 fun xs H2 => r x xs H2 QV) : tBM K T r to t σ H QV := h
theorem i_bm0 {r : V → List V → Hp → VK → Prop} {T : String} {to : TE} (h : to σ H fun x H1 => tyV K T x H1 ∧ r x [] H1 QV) : tBM0 K T r to σ H QV := h
theorem i_tyL {R : Prop} (s : H p = some (.lst xs)) (h : R) : tyV K "list" (.ref p) H ∧ R := ⟨.inl ⟨rfl, _, .inl (.inl s)⟩, h⟩
theorem i_app (s : H p = some (.lst xs)) (e : xs.length < sizeLine) (h : QV .non (upd H p (.lst (xs ++ [v])))) : rAppend (.ref p) [v] H QV := ⟨p, xs, v, rfl, rfl, s, e, h⟩
theorem i_app0 (L : Led H0 ((p, .lst xs) :: l) H) (e : xs.length < sizeLine) (h : ∀ H2, Led H0 ((p, .lst (xs ++ [v])) :: l) H2 → QV .non H2) : rAppend (.ref p) [v] H QV := i_app L.at0 e (h _ L.set0)
theorem i_app1 (L : Led H0 (q1 :: (p, .lst xs) :: l) H) (e : xs.length < sizeLine) (h : ∀ H2, Led H0 (q1 :: (p, .lst (xs ++ [v])) :: l) H2 → QV .non H2) : rAppend (.ref p) [v] H QV := i_app L.at1 e (h _ L.set1)
theorem i_app2 (L : Led H0 (q1 :: q2 :: (p, .lst xs) :: l) H) (e : xs.length < sizeLine) (h : ∀ H2, Led H0 (q1 :: q2 :: (p, .lst (xs ++ [v])) :: l) H2 → QV .non H2) : rAppend (.ref p) [v] H QV := i_app L.at2 e (h _ L.set2)
theorem i_app3 (L : Led H0 (q1 :: q2 :: q3 :: (p, .lst xs) :: l) H) (e : xs.length < sizeLine) (h : ∀ H2, Led H0 (q1 :: q2 :: q3 :: (p, .lst (xs ++ [v])) :: l) H2 → QV .non H2) : rAppend (.ref p) [v] H QV := i_app L.at3 e (h _ L.set3)
theorem i_slL {lo hi : Option Int} (L : Led H0 l H) (s : SqL K H p xs) (h : ∀ a H2, H a = none → H0 a = none → Led H0 ((a, .lst (cutV xs lo hi)) :: l) H2 → QV (.ref a) H2) : rSlL K (.ref p) lo hi H QV :=
  ⟨p, xs, rfl, s, fun a na => h a _ na (L.fresh na) (L.new na)⟩
theorem i_sl {r : V → Option Int → Option Int → Hp → VK → Prop} {te : TE} {tl th : TO} (h : te σ H fun x H1 => tl σ H1 fun l H2 => th σ H2 fun u H3 => r x l u H3 QV) : tSl r te tl th σ H QV := h
theorem i_noPart {QO : Option Int → Hp → Prop} (h : QO none H) : tNoPart σ H QO := h
theorem i_part {t : TE} {QO : Option Int → Hp → Prop} (h : t σ H fun x H1 => ∃ i, x = .int i ∧ QO (some i) H1) : tPart t σ H QO := h
theorem i_isInt {R : Int → Prop} (h : R i) : ∃ k, V.int i = .int k ∧ R k := ⟨i, rfl, h⟩
end
end G

namespace G
open PySem PySem.Spec PyProof.Rows L2
/-! ### loops -/
def FOR (J : It) (g : TG) (tb : TS) (D : Ends) (σ : L2.St) (H : Hp) : Prop := ∃ W : Nat → Nat → L2.St → Hp → Prop, (∃ m, W 0 m σ H) ∧ ∀ i m σ H, W i m σ H →
      (J.stop i H ∧ D.nx σ H) ∨ (J.go i H ∧ ∃ N : L2.St → Hp → Prop, (∀ σ' H', N σ' H' → ∃ m', m' < m ∧ W (i + 1) m' σ' H') ∧ ∀ x H', J.yld i H x H' → g x σ H' fun σ2 H2 => tb { D with nx := N, ct := N, bk := D.nx } σ2 H2)
section
variable {wi : TI} {g : TG} {tb : TS} {c : TT} {D : Ends} {σ : L2.St} {H : Hp} {tl : TA} {te : TE} {R : It → Hp → Prop} {K : PySem.W.Frag} {a : Addr} {xs : List V} {i j : Int}
theorem i_for (h : wi σ H fun J H1 => FOR J g tb D σ H1) : tFor wi g tb D σ H := h
theorem i_rng1 (h : tl σ H fun vs H1 => ∃ j : Int, vs = [.int j] ∧ -(2 ^ 62) ≤ j ∧ j < 2 ^ 62 ∧ R (Itr 0 j.toNat) H1) : iRng1 tl σ H R := h
theorem i_rng2 (h : tl σ H fun vs H1 => ∃ i j : Int, vs = [.int i, .int j] ∧ (-(2 ^ 62) ≤ i ∧ i < 2 ^ 62 ∧ -(2 ^ 62) ≤ j ∧ j < 2 ^ 62) ∧ R (Itr i (j - i).toNat) H1) : iRng2 tl σ H R := h
theorem i_rng1v {P : Int → Prop} (b : -(2 ^ 62) ≤ j ∧ j < 2 ^ 62) (h : P j) : ∃ j' : Int, [V.int j] = [.int j'] ∧ -(2 ^ 62) ≤ j' ∧ j' < 2 ^ 62 ∧ P j' := ⟨j, rfl, b.1, b.2, h⟩
theorem i_rng2v {P : Int → Int → Prop} (b : -(2 ^ 62) ≤ i ∧ i < 2 ^ 62 ∧ -(2 ^ 62) ≤ j ∧ j < 2 ^ 62) (h : P i j) : ∃ i' j' : Int, [V.int i, V.int j] = [.int i', .int j'] ∧ (-(2 ^ 62) ≤ i' ∧ i' < 2 ^ 62 ∧ -(2 ^ 62) ≤ j' ∧ j' < 2 ^ 62) ∧ P i' j' := ⟨i, j, rfl, b, h⟩
theorem i_list (h : te σ H fun x H1 => ∃ a, x = .ref a ∧ (∃ xs, SqL K H1 a xs) ∧ R (Itl K a) H1) : iList K te σ H R := h
theorem i_listv {P : Addr → Prop} (s : SqL K H a xs) (h : P a) : ∃ a', V.ref a = .ref a' ∧ (∃ xs, SqL K H a' xs) ∧ P a' := ⟨a, rfl, ⟨xs, s⟩, h⟩
theorem i_listt (h : te σ H fun x H1 => ∃ a, x = .ref a ∧ (∃ xs, SqT K H1 a xs) ∧ R (Itt K a) H1) : iTup K te σ H R := h
theorem i_listtv {P : Addr → Prop} (s : SqT K H a xs) (h : P a) : ∃ a', V.ref a = .ref a' ∧ (∃ xs, SqT K H a' xs) ∧ P a' := ⟨a, rfl, ⟨xs, s⟩, h⟩
theorem FOR.range {n : Nat} (Pv : Nat → L2.St → Hp → Prop) (h0 : Pv 0 σ H)
    (hs : ∀ i σ H, i < n → Pv i σ H → g (.int (i : Nat)) σ H fun σ2 H2 => tb { D with nx := Pv (i + 1), ct := Pv (i + 1), bk := D.nx } σ2 H2) (hd : ∀ σ H, Pv n σ H → D.nx σ H) : FOR (Itr 0 n) g tb D σ H :=
  for_range (lo := 0) Pv h0 (fun i σ H hi p => by
    have e : (0 : Int) + (i : Nat) = (i : Nat) := Int.zero_add _
    rw [e]
    exact hs i σ H hi p) hd
theorem FOR.rangeL {lo : Int} {n : Nat} (Pv : Nat → L2.St → Hp → Prop) (h0 : Pv 0 σ H)
    (hs : ∀ i σ H, i < n → Pv i σ H → g (.int (lo + (i : Nat))) σ H fun σ2 H2 => tb { D with nx := Pv (i + 1), ct := Pv (i + 1), bk := D.nx } σ2 H2) (hd : ∀ σ H, Pv n σ H → D.nx σ H) : FOR (Itr lo n) g tb D σ H :=
  for_range (lo := lo) Pv h0 hs hd
theorem FOR.list (Pv : Nat → L2.St → Hp → Prop) (h0 : Pv 0 σ H) (hl : ∀ i σ H, i ≤ xs.length → Pv i σ H → SqL K H a xs)
    (hs : ∀ i x σ H, xs[i]? = some x → Pv i σ H → g x σ H fun σ2 H2 => tb { D with nx := Pv (i + 1), ct := Pv (i + 1), bk := D.nx } σ2 H2) (hd : ∀ σ H, Pv xs.length σ H → D.nx σ H) : FOR (Itl K a) g tb D σ H :=
  for_list (K := K) (a := a) (xs := xs) Pv h0 hl hs hd
theorem FOR.tup (Pv : Nat → L2.St → Hp → Prop) (h0 : Pv 0 σ H) (hl : ∀ i σ H, i ≤ xs.length → Pv i σ H → SqT K H a xs)
    (hs : ∀ i x σ H, xs[i]? = some x → Pv i σ H → g x σ H fun σ2 H2 => tb { D with nx := Pv (i + 1), ct := Pv (i + 1), bk := D.nx } σ2 H2) (hd : ∀ σ H, Pv xs.length σ H → D.nx σ H) : FOR (Itt K a) g tb D σ H :=
  for_tup (K := K) (a := a) (xs := xs) Pv h0 hl hs hd
theorem i_while (W : Nat → L2.St → Hp → Prop) (m : Nat) (h0 : W m σ H) (hs : ∀ m σ H, W m σ H → c σ H fun b H1 => if b = true then ∃ N : L2.St → Hp → Prop, (∀ σ' H', N σ' H' → ∃ m', m' < m ∧ W m' σ' H') ∧ tb { D with nx := N, ct := N, bk := D.nx } σ H1 else D.nx σ H1) : tWhile c tb D σ H := ⟨W, ⟨m, h0⟩, hs⟩
theorem i_turn {W : Nat → L2.St → Hp → Prop} {m : Nat} {B : (L2.St → Hp → Prop) → Prop} (h : B (fun σ' H' => ∃ m', m' < m ∧ W m' σ' H')) :
    ∃ N : L2.St → Hp → Prop, (∀ σ' H', N σ' H' → ∃ m', m' < m ∧ W m' σ' H') ∧ B N := ⟨_, fun _ _ h => h, h⟩
theorem map_get {α : Type} {f : α → V} {ns : List α} {i : Nat} {v : V} (h : (ns.map f)[i]? = some v) : ∃ n, ns[i]? = some n ∧ v = f n := by
  rw [List.getElem?_map] at h
  cases e : ns[i]? with
  | none => rw [e] at h; cases h
  | some n => rw [e] at h; exact ⟨n, rfl, (Option.some.inj h).symm⟩
end
end G

namespace G
open PySem PySem.Spec PyProof.Rows L2
theorem i_pow {H : Hp} {Q : VK} {i j z : Int} (c : CPow i j) (e : i ^ j.toNat = z) (h : Q (.int z) H) : rI CPow (fun i j => V.int (i ^ j.toNat)) (.int i) (.int j) H Q := ⟨i, j, rfl, rfl, c, by rw [← e] at h; exact h⟩
end G
namespace G
open PySem PySem.Spec PyProof.Rows L2
section
variable {K : PySem.W.Frag} {H : Hp} {Q : VK} {p : Addr} {xs : List V} {i : Int}
theorem all_nil {P : V → Prop} : ∀ x ∈ ([] : List V), P x := fun x hx => by cases hx
theorem all_cons {P : V → Prop} {y : V} {ys : List V} (h : P y) (t : ∀ x ∈ ys, P x) : ∀ x ∈ y :: ys, P x := fun x hx => by
  rcases List.mem_cons.mp hx with rfl | hx
  · exact h
  · exact t x hx
theorem i_ixP (P : V → Prop) (s : H p = some (.lst xs)) (hP : ∀ x ∈ xs, P x) (h0 : 0 ≤ i ∧ i < xs.length) (h : ∀ v, P v → Q v H) : rIxL K (.ref p) (.int i) H Q := by
  obtain ⟨v, e, pv⟩ := atI_all P hP h0.1 h0.2
  exact i_ixL s e (h v pv)
theorem i_ixB (lo hi : Int) (s : H p = some (.lst xs)) (hP : ∀ x ∈ xs, ∃ z, x = V.int z ∧ lo ≤ z ∧ z ≤ hi) (h0 : 0 ≤ i ∧ i < xs.length) (h : ∀ z, lo ≤ z → z ≤ hi → Q (.int z) H) : rIxL K (.ref p) (.int i) H Q :=
  i_ixP _ s hP h0 fun v ⟨z, e, a, b⟩ => by rw [e]; exact h z a b
end
end G

namespace G
open PySem PySem.Spec PyProof.Rows L2
section
variable {H H0 : Hp} {Q : VK} {l : List (Addr × HO)} {σ : L2.St}
/-- list(range(i, j, k)) -/
def LRG (i j k : Int) (H : Hp) (Q : VK) : Prop := ∃ n, Builtin.Range.small i j k = true ∧ Builtin.Range.rangeSize i j k = (n : Nat) ∧ n ≤ 2 ^ 24 ∧ ∀ q, H q = none → Q (.ref q) (upd H q (.lst (rgV3 i k n)))
theorem i_listRg3 {te : L2.St → Hp → (Int → Int → Int → Hp → Prop) → Prop} (h : te σ H fun a b c H1 => LRG a b c H1 Q) : tLstRg3 te σ H Q := h
theorem i_rg3 {ta tb tc : TE} {R : Int → Int → Int → Hp → Prop} (h : ta σ H fun x H1 => tb σ H1 fun y H2 => tc σ H2 fun z H3 => ∃ i j k, x = .int i ∧ y = .int j ∧ z = .int k ∧ (k ≠ 0 ∧ k.natAbs.log2 < 9000) ∧ R i j k H3) : tRg3 ta tb tc σ H R := h
theorem i_rg3v {P : Int → Int → Int → Prop} {i j k : Int} (b : k ≠ 0 ∧ k.natAbs.log2 < 9000) (h : P i j k) : ∃ i' j' k', V.int i = .int i' ∧ V.int j = .int j' ∧ V.int k = .int k' ∧ (k' ≠ 0 ∧ k'.natAbs.log2 < 9000) ∧ P i' j' k' := ⟨i, j, k, rfl, rfl, rfl, b, h⟩
theorem small_up {a b c : Int} (h : 0 < c) (ha : -(2 ^ 61) ≤ a) (ha' : a < 2 ^ 61) (hb : -(2 ^ 61) ≤ b) (hb' : b < 2 ^ 61) (hc : c < 2 ^ 61) (n0 : 0 ≤ Builtin.Range.rangeSize a b c) (n1 : Builtin.Range.rangeSize a b c < 2 ^ 61) : Builtin.Range.small a b c = true := by
  unfold Builtin.Range.small
  generalize Builtin.Range.rangeSize a b c = n at n0 n1 ⊢
  simp only [Builtin.Range.rangeFitsLong, Bool.and_eq_true, Bool.or_eq_true, decide_eq_true_eq, beq_iff_eq, if_pos h, gt_iff_lt]
  omega
theorem i_LRG {i j k : Int} (L : Led H0 l H) (n : Nat) (hs : Builtin.Range.small i j k = true) (hn : Builtin.Range.rangeSize i j k = (n : Nat)) (hb : n ≤ 2 ^ 24) (h : ∀ p H2, H p = none → H0 p = none → Led H0 ((p, .lst (rgV3 i k n)) :: l) H2 → Q (.ref p) H2) : LRG i j k H Q :=
  ⟨n, hs, hn, hb, fun p np => h p _ np (L.fresh np) (L.new np)⟩
end
end G
namespace G
open PySem PySem.Spec PyProof.Rows L2
/-- all but one stands -/
def But (a : Addr) (H H' : Hp) : Prop := ∀ b o, H b = some o → b ≠ a → H' b = some o
section
variable {H0 H H1 H2 : Hp} {a p : Addr} {l : List (Addr × HO)} {o : HO} {m : Int}
theorem But.trans (x : But a H H1) (y : But a H1 H2) : But a H H2 := fun b o e n => y b o (x b o e n) n
theorem But.of (x : Same H H1) : But a H H1 := fun b o e _ => x b o e
theorem But.refl : But a H H := fun _ _ e _ => e
def AllNew (H0 : Hp) : List (Addr × HO) → Prop
  | [] => True
  | q :: l => H0 q.1 = none ∧ AllNew H0 l
theorem AllNew.mem : ∀ {l : List (Addr × HO)}, AllNew H0 l → ∀ q ∈ l, H0 q.1 = none
  | _ :: _, h, q, hq => by
    rcases List.mem_cons.mp hq with rfl | hq
    · exact h.1
    · exact h.2.mem q hq
theorem Led.toS (L : Led H0 l H) (n : AllNew H0 l) : Same H0 H := fun a o e => L.old a o e fun q hq h => by
  have := n.mem q hq
  rw [← h, e] at this
  cases this
end
end G
namespace G
open PySem PySem.Spec PyProof.Rows L2
section
variable {K : PySem.W.Frag} {H : Hp} {Q : VK} {v w : V} {d : PyData} {n : Nat}
theorem i_neS (h1 : Dp K H v d) (h2 : Dp K H w d) (s : SeqAt.shaped d = true) (h : Q (.bl false) H) : rNeD K v w H Q :=
  ⟨d, d, h1, h2, s, s, by rw [SeqAt.eqv_refl d (SeqAt.canLay_of_shaped s)]; exact h⟩
theorem i_eqS (h1 : Dp K H v d) (h2 : Dp K H w d) (s : SeqAt.shaped d = true) (h : Q (.bl true) H) : rEqD K v w H Q :=
  ⟨d, d, h1, h2, s, s, by rw [SeqAt.eqv_refl d (SeqAt.canLay_of_shaped s)]; exact h⟩
end
end G
namespace G
open PySem PySem.Spec PyProof.Rows L2
theorem kb_int_int : kitB "int" "int" = some true := by decide +kernel
theorem kb_int_bool : kitB "int" "bool" = some false := by decide +kernel
theorem kb_bool_bool : kitB "bool" "bool" = some true := by decide +kernel
theorem kb_bool_int : kitB "bool" "int" = some true := by decide +kernel
theorem kb_list_list : kitB "list" "list" = some true := by decide +kernel
theorem kb_tuple_tuple : kitB "tuple" "tuple" = some true := by decide +kernel
theorem kb_list_tuple : kitB "list" "tuple" = some false := by decide +kernel
theorem kb_tuple_list : kitB "tuple" "list" = some false := by decide +kernel
theorem kb_str_str : kitB "str" "str" = some true := by decide +kernel
section
variable {K : PySem.W.Frag} {H : Hp} {Q : VK} {i : Int} {b : Bool} {p : Addr} {xs : List V}
theorem i_isi_ii (h : Q (.bl true) H) : rIsi K [.int i, .ty "int"] H Q := i_isi (.base (.int _)) kb_int_int h
theorem i_isi_ib (h : Q (.bl false) H) : rIsi K [.int i, .ty "bool"] H Q := i_isi (.base (.int _)) kb_int_bool h
theorem i_isi_bb (h : Q (.bl true) H) : rIsi K [.bl b, .ty "bool"] H Q := i_isi (.base (.bl _)) kb_bool_bool h
theorem i_isi_ll (s : H p = some (.lst xs)) (h : Q (.bl true) H) : rIsi K [.ref p, .ty "list"] H Q := i_isi (.base (.lst s)) kb_list_list h
theorem i_isi_tt (s : H p = some (.tup xs)) (h : Q (.bl true) H) : rIsi K [.ref p, .ty "tuple"] H Q := i_isi (.base (.tup s)) kb_tuple_tuple h
end
end G
namespace G
open PySem PySem.Spec PyProof.Rows L2
section
variable {K : PySem.W.Frag} {H H0 : Hp} {Q : VK} {p q a : Addr} {xs ys : List V} {l : List (Addr × HO)} {P : Addr → Prop} {lo hi : Option Int}
theorem i_listv0 (s : H a = some (.lst xs)) (h : P a) : ∃ a', V.ref a = .ref a' ∧ (∃ xs, SqL K H a' xs) ∧ P a' := ⟨a, rfl, ⟨xs, .inl (.inl s)⟩, h⟩
theorem i_listtv0 (s : H a = some (.tup xs)) (h : P a) : ∃ a', V.ref a = .ref a' ∧ (∃ xs, SqT K H a' xs) ∧ P a' := ⟨a, rfl, ⟨xs, .inl (.inl s)⟩, h⟩
theorem i_cat (L : Led H0 l H) (h1 : H p = some (.lst xs)) (h2 : H q = some (.lst ys)) (z : xs.length + ys.length ≤ sizeLine) (h : ∀ a H2, H a = none → H0 a = none → Led H0 ((a, .lst (xs ++ ys)) :: l) H2 → Q (.ref a) H2) : rCat (.ref p) (.ref q) H Q :=
  ⟨p, q, xs, ys, rfl, rfl, h1, h2, z, fun a na => h a _ na (L.fresh na) (L.new na)⟩
theorem i_slL0 (L : Led H0 l H) (s : H p = some (.lst xs)) (h : ∀ a H2, H a = none → H0 a = none → Led H0 ((a, .lst (cutV xs lo hi)) :: l) H2 → Q (.ref a) H2) : rSlL K (.ref p) lo hi H Q :=
  ⟨p, xs, rfl, .inl (.inl s), fun a na => h a _ na (L.fresh na) (L.new na)⟩
end
end G
namespace G
open PySem PySem.Spec PyProof.Rows L2
theorem cutV_mem {xs : List V} {lo hi : Option Int} {x : V} (h : x ∈ cutV xs lo hi) : x ∈ xs := by
  unfold cutV at h
  exact List.mem_of_mem_drop (List.mem_of_mem_take h)
theorem cut_int {ns : List Int} {lo hi : Option Int} {i : Nat} {x : V} {zs : List Int} (h : (cutV (ns.map V.int) lo hi ++ zs.map V.int)[i]? = some x) : ∃ n, x = .int n := by
  have := List.mem_of_getElem? h
  rcases List.mem_append.mp this with h | h
  · obtain ⟨n, _, e⟩ := List.mem_map.mp (cutV_mem h)
    exact ⟨n, e.symm⟩
  · obtain ⟨n, _, e⟩ := List.mem_map.mp h
    exact ⟨n, e.symm⟩
end G

/-! set(x) of a list of ints -/
namespace GS
open PySem PySem.Spec PyProof.Rows L2
section
variable {P : Program} {w : World} {A : Around} {E : Value → Shared → Prop} {s : Shared}
/-- the empty set that set.__new__ makes -/
abbrev mt (w : World) : Obj := { cls := .type "set", dict := none, data := .set #[] 0 (.fresh 0 0 (!w.params.followText "set-order")) }
/-- what is asked of set.__init__'s end -/
abbrev InitEnd (P : Program) (w : World) (A : Around) (E : Value → Shared → Prop) (Q : Shared → Prop) : Fin → Shared → Prop := fun fin s' => match fin with
  | .done f => wants (fun r s₂ => r = .none ∧ Q s₂) E (.ok f) s'
  | .again c => c.quiet = true ∧ codeAny (model P w) A c (wants (fun r s₂ => r = .none ∧ Q s₂) E) s'
set_option maxHeartbeats 8000000 in
theorem set_call {a : Value} {Q : Value → Shared → Prop}
    (hI : wpAny (model P w) A.in1.in1 (Builtin.«set.__init__» ⟨[.ref s.heap.objs.size, a], []⟩) (InitEnd P w A.in1 E (Q (.ref s.heap.objs.size))) (fun e s' => wants (fun r s₂ => r = .none ∧ Q (.ref s.heap.objs.size) s₂) E (.error e) s') { s with heap := s.heap.push (mt w) }) :
    wpAny (model P w) A (call (.type "set") [a]) Q E s := by
  have cs := F.called_set
  obtain ⟨c, tl, hmro⟩ := cs.mro
  have m1 := cs.made; have m2 := cs.sub; have m3 := cs.notType; have m4 := cs.canCreate; have m5 := F.typeCall_set_1 a
  apply wpAny_call; apply codeAny_of_tree
  show wpAny _ _ (callAny (.type "set") _) _ _ _
  apply wpAny_pure
  refine ⟨Code.quiet_builtin _ (by decide +kernel), ?_⟩
  apply codeAny_builtin F.entry_type_call; rw [Around.under_plain (weight_type_call_type "set" [a] []) rfl]
  repeat (any_goals (first | assumption | wp_step))
  refine codeAny_mono (code_set_led1 a (E := E) (Q₁ := fun obj z => obj = .ref s.heap.objs.size ∧ z = { s with heap := s.heap.push (mt w) }) ⟨rfl, rfl⟩) ?_
  rintro (e | fl) z hz
  · exact hz
  · cases fl with
    | ret obj =>
      obtain ⟨rfl, rfl⟩ := hz
      have hS : (s.heap.push (mt w)).get? s.heap.objs.size = some (mt w) := Heap.get?_push_size _ rfl
      have hT : Shared.TypeIs { s with heap := s.heap.push (mt w) } (.ref s.heap.objs.size) "set" := ⟨_, hS, rfl⟩
      have i1 := cs.init.lookup; have i2 := cs.init.bind (.ref s.heap.objs.size)
      repeat (any_goals (first | assumption | wp_step))
      refine codeAny_mono (codeAny_call_builtin cs.init.plain F.entry_set_init (check_set_init_1 hT hI)) ?_
      rintro (e | f2) z2 h2
      · exact h2
      · cases f2 with
        | ret r =>
          obtain ⟨rfl, hq⟩ := h2
          repeat (any_goals (first | assumption | wp_step))
        | _ => exact h2.elim
    | _ => exact hz.elim
set_option maxHeartbeats 8000000 in
theorem set_list {l : Addr} {items : Array Value} (ns : List Int) {Q : Value → Shared → Prop} (hh : A.handled = none) (hl : s.heap.IsList l items) (hit : IntsAre items.toList ns) (hb : ns.length + 1 < scanBound)
    (h : ∀ (h' : Heap) (tk c : Nat), SetR w h' s.heap.objs.size (fun j => decide (j ∈ ns)) c → c ≤ ns.length → (∀ b o, s.heap.get? b = some o → h'.get? b = some o) → Q (.ref s.heap.objs.size) { s with heap := h', toks := tk }) :
    wpAny (model P w) A (call (.type "set") [.ref l]) Q E s := by
  have sz : items.size = ns.length := by
    have q := IntsAre.length hit
    simpa using q
  refine set_call ?_
  obtain ⟨ol, hol, hcl, nl, hdl⟩ := hl
  obtain ⟨oc, od, odt, osl⟩ := ol
  dsimp only at hcl hdl
  subst hcl hdl
  have hlS : l < s.heap.objs.size := Heap.lt_size hol
  have o1 : (s.heap.push (mt w)).get? l = some { cls := .type "list", dict := od, data := .seq items nl, slots := osl } := Heap.get?_push_of_some _ hol
  have hS : (s.heap.push (mt w)).get? s.heap.objs.size = some (mt w) := Heap.get?_push_size _ rfl
  have b1 := F.sub_list_set; have b2 := F.sub_list_frozenset
  have b3 : (Value.type "list" == Value.type "dict") = false := by decide
  have l1 : (s.heap.push (mt w)).IsList l items := ⟨_, o1, rfl, nl, rfl⟩
  have z1 : (s.heap.push (mt w)).objs.size = s.heap.objs.size + 1 := Heap.size_push ..
  unfold Builtin.«set.__init__» noKeywords Builtin.Frozenset.updateFrom
  generalize hPI : pyIter = PI
  wp_walk
  subst hPI
  refine wpAny_pyIter_list l1 ?_
  apply wpAny_bind; apply wpAny_runValue
  have hne : l ≠ (s.heap.push (mt w)).objs.size := by rw [z1]; exact Nat.ne_of_lt (Nat.lt_succ_of_lt hlS)
  have nin : s.heap.objs.size ∉ [(s.heap.push (mt w)).objs.size, l] := by
    rw [z1]; simp only [List.mem_cons, List.not_mem_nil, or_false, not_or]
    exact ⟨Nat.ne_of_lt (Nat.lt_succ_self _), Nat.ne_of_gt hlS⟩
  have vals : ∀ (i : Nat) (v : Value), items[i]? = some v → ∃ k t, ns[i]? = some k ∧ v = .int k t := fun i v hv => by
    have hi : i < ns.length := by rw [← sz]; exact (Array.getElem?_eq_some_iff.mp hv).1
    obtain ⟨t, e⟩ := PyProof.Rows.IntsAre.int_at hit i v (by rw [Array.getElem?_toList]; exact hv)
    have ei : ns.getD i 0 = ns[i] := by rw [List.getD_eq_getElem?_getD, List.getElem?_eq_getElem hi]; rfl
    exact ⟨ns[i], t, List.getElem?_eq_getElem hi, by rw [e, ei]⟩
  have hh3 : A.in1.in1.in1.handled = none := by simp [hh]
  refine set_update_ints ((Walks.list hh3 _ l hne items).toS) s.heap.objs.size nin ns sz hb vals (items.size - 0) 0 _ (by omega) (Nat.zero_le _) ⟨⟨_, Heap.get?_push_size _ rfl, rfl, rfl⟩, l1.push _⟩ ⟨0, Nat.le_refl 0, setR_new_at (Heap.get?_push_of_some _ hS)⟩ ?_
  rintro ⟨h2, g2, d2, t2, os2⟩ c hm hc hR
  have e1 : g2 = s.gens := hm.gens
  have e2 : d2 = s.drawn := hm.drawn
  have e3 : os2 = s.os := hm.os
  subst e1 e2 e3
  show wpAny _ _ _ _ _ _
  apply wpAny_pure
  show wpAny _ _ (ret Value.none) _ _ _
  rw [sz] at hc
  refine wpAny_pure ⟨rfl, h h2 t2 c hR hc fun b o e => ?_⟩
  have hb0 : b < s.heap.objs.size := Heap.lt_size e
  refine hm.heap b o ?_ (Heap.get?_push_of_some _ (Heap.get?_push_of_some _ e))
  rw [z1]
  simp only [List.mem_cons, List.not_mem_nil, or_false, not_or]
  exact ⟨Nat.ne_of_lt hb0, Nat.ne_of_lt (Nat.lt_succ_of_lt hb0)⟩
/-! ### over the layer -/
/-- set(xs), a list of ints: a new set -/
def rSetLI (K : PySem.W.Frag) (w : World) : List V → Hp → VK → Prop := fun vs H Q => ∃ (a : Addr) (ns : List Int), vs = [V.ref a] ∧ SqL K H a (ns.map V.int) ∧ ns.length + 1 < scanBound ∧
  ∀ (p : Addr) (c : Nat), H p = none → c ≤ ns.length → Q (.ref p) (upd H p (SetO w p (fun j => decide (j ∈ ns)) c))
theorem cr_setLI {X : Cx} (hc : X.calm = true) : CallR X (.type "set") (rSetLI X.K X.w) := by
  intro pins s σ H vs us Q I r h
  obtain ⟨a, ns, rfl, hs, hb, q⟩ := h
  rw [Vals.ref1 r]
  obtain ⟨its, rv, hl, hz⟩ := I.list hs
  refine set_list ns (I.ok.hd hc) hl.isList (by simpa using ints_of_vals rv) hb fun h' tk c R hcn k => ?_
  have hn : H s.heap.objs.size = none := I.hok.fresh (Nat.le_refl _)
  exact ⟨.ref s.heap.objs.size, _, I.laid k (Nat.le_refl _) (setO_new R), rfl, q _ c hn hcn⟩
end
end GS

namespace G
open PySem PySem.Spec PyProof.Rows L2

/-! ### a heap F of things that stay, and a ledger of things that change -/
structure LF (F : Hp) (l : List (Addr × HO)) (H : Hp) : Prop where
  same : Same F H
  at_ : ∀ (i : Nat) (a : Addr) (o : HO), l[i]? = some (a, o) → H a = some o
  new : ∀ q ∈ l, F q.1 = none
  nd : (l.map (·.1)).Nodup
def cut (H : Hp) (a : Addr) : Hp := fun b => if b = a then none else H b
theorem cut_same {H : Hp} {a : Addr} : cut H a a = none := by unfold cut; rw [if_pos rfl]
theorem cut_ne {H : Hp} {a b : Addr} (h : b ≠ a) : cut H a b = H b := by unfold cut; rw [if_neg h]
theorem cut_le {H : Hp} {a : Addr} : Same (cut H a) H := fun b o e => by
  by_cases h : b = a
  · subst h
    rw [cut_same] at e
    cases e
  · rwa [cut_ne h] at e
theorem cut_mono {H H' : Hp} {a : Addr} (k : But a H H') : Same (cut H a) H' := fun b o e => by
  by_cases h : b = a
  · subst h
    rw [cut_same] at e
    cases e
  · rw [cut_ne h] at e
    exact k b o e h
theorem same_upd {H : Hp} {p : Addr} {o : HO} (n : H p = none) : Same H (upd H p o) := fun b u e => by
  rw [upd_ne (ne_of_none e n)]
  exact e
section
variable {F F' H H' : Hp} {l : List (Addr × HO)} {p a : Addr} {o o' u : HO} {q q1 q2 q3 q4 q5 : Addr × HO}
theorem LF.nil : LF H [] H := ⟨Same.refl H, fun i a o h => by simp at h, fun q h => (by cases h), List.nodup_nil⟩
theorem LF.one (e : H a = some o) : LF (cut H a) [(a, o)] H := by
  refine ⟨cut_le, fun i b u h => ?_, fun q h => ?_, by simp⟩
  · match i, h with
    | 0, h =>
      cases h
      exact e
    | i + 1, h => simp at h
  · rcases List.mem_cons.mp h with rfl | h
    · exact cut_same
    · cases h
theorem LF.free (L : LF F l H) (n : H p = none) : F p = none := L.same.free n
theorem LF.notin (L : LF F l H) (n : H p = none) : ∀ q ∈ l, p ≠ q.1 := fun q hq e => by
  obtain ⟨i, hi, hq⟩ := List.mem_iff_getElem.mp hq
  have h := L.at_ i q.1 q.2 (by rw [List.getElem?_eq_getElem hi, hq])
  rw [← e, n] at h
  cases h
theorem nd_cons (nd : (l.map (·.1)).Nodup) (n : ∀ q ∈ l, p ≠ q.1) : (((p, o) :: l).map (·.1)).Nodup := by
  rw [List.map_cons, List.nodup_cons]
  refine ⟨fun hm => ?_, nd⟩
  obtain ⟨q, hq, e⟩ := List.mem_map.mp hm
  exact n q hq e.symm
/-- a new thing that may change -/
theorem LF.new' (L : LF F l H) (s : Same H H') (n : H p = none) (e : H' p = some o) : LF F ((p, o) :: l) H' := by
  refine ⟨L.same.trans s, fun i a u h => ?_, fun q hq => ?_, nd_cons L.nd (L.notin n)⟩
  · cases i with
    | zero =>
      simp at h
      obtain ⟨rfl, rfl⟩ := h
      exact e
    | succ i => exact s _ _ (L.at_ i a u (by simpa using h))
  · rcases List.mem_cons.mp hq with rfl | hq
    · exact L.free n
    · exact L.new q hq
theorem LF.add (L : LF F l H) (n : H p = none) : LF F ((p, o) :: l) (upd H p o) := L.new' (same_upd n) n upd_same
/-- a new thing that stays -/
theorem LF.grow' (L : LF F l H) (s : Same H H') (n : H p = none) (e : H' p = some o) : LF (upd F p o) l H' := by
  refine ⟨fun b u eb => ?_, fun i a u h => s _ _ (L.at_ i a u h), fun q hq => ?_, L.nd⟩
  · by_cases hb : b = p
    · subst hb
      rw [upd_same] at eb
      cases eb
      exact e
    · rw [upd_ne hb] at eb
      exact s _ _ (L.same b u eb)
  · rw [upd_ne (L.notin n q hq).symm]
    exact L.new q hq
theorem LF.grow (L : LF F l H) (n : H p = none) : LF (upd F p o) l (upd H p o) := L.grow' (same_upd n) n upd_same
/-- what a call made and left is known -/
theorem LF.step (L : LF F l H) (s : Same H H') : LF F l H' := ⟨L.same.trans s, fun i a o h => s _ _ (L.at_ i a o h), L.new, L.nd⟩
/-- the first of the ledger stays from now on -/
theorem LF.frz (L : LF F ((p, o) :: l) H) : LF (upd F p o) l H := by
  have nd := L.nd
  rw [List.map_cons, List.nodup_cons] at nd
  refine ⟨fun b u eb => ?_, fun i a u h => L.at_ (i + 1) a u (by simpa using h), fun q hq => ?_, nd.2⟩
  · by_cases hb : b = p
    · subst hb
      rw [upd_same] at eb
      cases eb
      exact L.at_ 0 b o rfl
    · rw [upd_ne hb] at eb
      exact L.same b u eb
  · rw [upd_ne (fun e => nd.1 (by rw [← e]; exact List.mem_map.mpr ⟨q, hq, rfl⟩))]
    exact L.new q (List.mem_cons_of_mem _ hq)
theorem LF.tl (L : LF F ((p, o) :: l) H) : LF F l H := by
  have nd := L.nd
  rw [List.map_cons, List.nodup_cons] at nd
  exact ⟨L.same, fun i a u h => L.at_ (i + 1) a u (by simpa using h), fun q hq => L.new q (List.mem_cons_of_mem _ hq), nd.2⟩
theorem LF.swap (L : LF F (q :: q1 :: l) H) : LF F (q1 :: q :: l) H := by
  have nd := L.nd
  rw [List.map_cons, List.map_cons, List.nodup_cons, List.nodup_cons] at nd
  refine ⟨L.same, fun i a u h => ?_, fun x hx => L.new x ?_, ?_⟩
  · match i, h with
    | 0, h => exact L.at_ 1 a u h
    | 1, h => exact L.at_ 0 a u h
    | i + 2, h => exact L.at_ (i + 2) a u h
  · rcases List.mem_cons.mp hx with rfl | hx
    · exact List.mem_cons_of_mem _ (List.mem_cons_self ..)
    · rcases List.mem_cons.mp hx with rfl | hx
      · exact List.mem_cons_self ..
      · exact List.mem_cons_of_mem _ (List.mem_cons_of_mem _ hx)
  · rw [List.map_cons, List.map_cons, List.nodup_cons, List.nodup_cons]
    refine ⟨fun h => ?_, fun h => nd.1 (List.mem_cons_of_mem _ h), nd.2.2⟩
    rcases List.mem_cons.mp h with h | h
    · exact nd.1 (by rw [h]; exact List.mem_cons_self ..)
    · exact nd.2.1 h
theorem LF.tl1 (L : LF F (q :: q1 :: l) H) : LF F (q :: l) H := L.swap.tl
/-- less stays -/
theorem LF.less (L : LF F l H) (s : Same F' F) : LF F' l H := ⟨s.trans L.same, L.at_, fun q hq => s.free (L.new q hq), L.nd⟩
theorem LF.mut (L : LF F l H) (i : Nat) (hi : l[i]? = some (p, o)) (k : But p H H') (e : H' p = some o') : LF F (l.set i (p, o')) H' := by
  have il := (List.getElem?_eq_some_iff.mp hi).1
  have hp : F p = none := L.new (p, o) (List.mem_of_getElem? hi)
  have nm : (l.set i (p, o')).map (·.1) = l.map (·.1) := by
    rw [List.map_set]
    apply List.ext_getElem?
    intro j
    by_cases hj : i = j
    · subst hj
      rw [List.getElem?_set_self (by simpa using il), List.getElem?_map, hi]
      rfl
    · rw [List.getElem?_set_ne hj]
  refine ⟨fun b u eb => k b u (L.same b u eb) (ne_of_none eb hp), fun j a u h => ?_, fun q hq => ?_, by rw [nm]; exact L.nd⟩
  · by_cases hj : i = j
    · subst hj
      rw [List.getElem?_set_self il] at h
      cases h
      exact e
    · rw [List.getElem?_set_ne hj] at h
      refine k a u (L.at_ j a u h) fun ea => hj ?_
      have h1 : (l.map (·.1))[i]? = some p := by rw [List.getElem?_map, hi]; rfl
      have h2 : (l.map (·.1))[j]? = some p := by rw [List.getElem?_map, h, ea]; rfl
      exact (List.getElem?_inj (by simpa using il) L.nd).mp (h1.trans h2.symm)
  · have : q.1 ∈ (l.set i (p, o')).map (·.1) := List.mem_map.mpr ⟨q, hq, rfl⟩
    rw [nm] at this
    obtain ⟨q', hq', e'⟩ := List.mem_map.mp this
    rw [← e']
    exact L.new q' hq'
theorem LF.set (L : LF F l H) (i : Nat) (hi : l[i]? = some (p, o)) : LF F (l.set i (p, o')) (upd H p o') :=
  L.mut i hi (fun b u e n => by rw [upd_ne n]; exact e) upd_same
theorem LF.at0 (L : LF F ((p, o) :: l) H) : H p = some o := L.at_ 0 p o rfl
theorem LF.at1 (L : LF F (q :: (p, o) :: l) H) : H p = some o := L.at_ 1 p o rfl
theorem LF.at2 (L : LF F (q :: q1 :: (p, o) :: l) H) : H p = some o := L.at_ 2 p o rfl
theorem LF.at3 (L : LF F (q :: q1 :: q2 :: (p, o) :: l) H) : H p = some o := L.at_ 3 p o rfl
theorem LF.at4 (L : LF F (q :: q1 :: q2 :: q3 :: (p, o) :: l) H) : H p = some o := L.at_ 4 p o rfl
theorem LF.at5 (L : LF F (q :: q1 :: q2 :: q3 :: q4 :: (p, o) :: l) H) : H p = some o := L.at_ 5 p o rfl
theorem LF.atF (L : LF F l H) (e : F p = some o) : H p = some o := L.same p o e
theorem LF.set0 (L : LF F ((p, o) :: l) H) : LF F ((p, o') :: l) (upd H p o') := L.set 0 rfl
theorem LF.set1 (L : LF F (q :: (p, o) :: l) H) : LF F (q :: (p, o') :: l) (upd H p o') := L.set 1 rfl
theorem LF.set2 (L : LF F (q :: q1 :: (p, o) :: l) H) : LF F (q :: q1 :: (p, o') :: l) (upd H p o') := L.set 2 rfl
theorem LF.set3 (L : LF F (q :: q1 :: q2 :: (p, o) :: l) H) : LF F (q :: q1 :: q2 :: (p, o') :: l) (upd H p o') := L.set 3 rfl
theorem LF.set4 (L : LF F (q :: q1 :: q2 :: q3 :: (p, o) :: l) H) : LF F (q :: q1 :: q2 :: q3 :: (p, o') :: l) (upd H p o') := L.set 4 rfl
theorem LF.mut0 (L : LF F ((p, o) :: l) H) (k : But p H H') (e : H' p = some o') : LF F ((p, o') :: l) H' := L.mut 0 rfl k e
theorem LF.mut1 (L : LF F (q :: (p, o) :: l) H) (k : But p H H') (e : H' p = some o') : LF F (q :: (p, o') :: l) H' := L.mut 1 rfl k e
theorem LF.mut2 (L : LF F (q :: q1 :: (p, o) :: l) H) (k : But p H H') (e : H' p = some o') : LF F (q :: q1 :: (p, o') :: l) H' := L.mut 2 rfl k e
theorem LF.mut3 (L : LF F (q :: q1 :: q2 :: (p, o) :: l) H) (k : But p H H') (e : H' p = some o') : LF F (q :: q1 :: q2 :: (p, o') :: l) H' := L.mut 3 rfl k e
theorem LF.ne01 (L : LF F ((p, o) :: (a, u) :: l) H) : p ≠ a := fun e => by
  have := L.nd
  rw [List.map_cons, List.map_cons, List.nodup_cons] at this
  exact this.1 (by rw [e]; exact List.mem_cons_self ..)
/-- behind: all but one stands -/
theorem LF.but (L : LF F l H') (s : Same (cut H a) F) : But a H H' := fun b o e n => L.same b o (s b o (by rw [cut_ne n]; exact e))
end

/-! ### data stays -/
mutual
theorem Dp.mono {K : PySem.W.Frag} {F H : Hp} (s : Same F H) : ∀ (d : PyData) (v : V), Dp K F v d → Dp K H v d
  | .none, _, h => by cases h; exact .non
  | .bool b, _, h => by cases h; exact .bl b
  | .int i, _, h => by cases h; exact .int i
  | .str x, _, h => by cases h; exact .str x
  | .list ds, _, h => by
    cases h with
    | lst hs ha => exact .lst (s.seq hs) (DpAll.mono s ds _ ha)
  | .tuple ds, _, h => by
    cases h with
    | tup hs ha =>
      refine .tup ?_ (DpAll.mono s ds _ ha)
      rcases hs with (hs | ⟨o, hs⟩) | hs
      · exact .inl (.inl (s _ _ hs))
      · exact .inl (.inr ⟨o, s _ _ hs⟩)
      · exact .inr hs
  | .dict _, _, h => by cases h
theorem DpAll.mono {K : PySem.W.Frag} {F H : Hp} (s : Same F H) : ∀ (ds : List PyData) (vs : List V), DpAll K F vs ds → DpAll K H vs ds
  | [], _, h => by cases h; exact .nil
  | d :: ds, _, h => by
    cases h with
    | cons h1 h2 => exact .cons (Dp.mono s d _ h1) (DpAll.mono s ds _ h2)
end
theorem Same.tup {K : PySem.W.Frag} {H H' : Hp} {a : Addr} {xs : List V} (s : Same H H') (h : SqT K H a xs) : SqT K H' a xs := by
  rcases h with (h | ⟨o, h⟩) | h
  · exact .inl (.inl (s _ _ h))
  · exact .inl (.inr ⟨o, s _ _ h⟩)
  · exact .inr h
section
variable {K : PySem.W.Frag} {H : Hp} {v : V} {vs ws : List V} {d : PyData} {ds es : List PyData}
theorem DpAll.len : ∀ {vs : List V} {ds : List PyData}, DpAll K H vs ds → vs.length = ds.length
  | _, _, .nil => rfl
  | _, _, .cons _ t => congrArg Nat.succ (DpAll.len t)
theorem DpAll.app : ∀ {vs : List V} {ds : List PyData}, DpAll K H vs ds → DpAll K H ws es → DpAll K H (vs ++ ws) (ds ++ es)
  | _, _, .nil, b => b
  | _, _, .cons h t, b => .cons h (DpAll.app t b)
theorem DpAll.one (h : Dp K H v d) : DpAll K H [v] [d] := .cons h .nil
theorem DpAll.get : ∀ {vs : List V} {ds : List PyData} {i : Nat} {v : V}, DpAll K H vs ds → vs[i]? = some v → ∃ d, ds[i]? = some d ∧ Dp K H v d
  | _, _, 0, _, .cons h _, e => by cases e; exact ⟨_, rfl, h⟩
  | _, _, i + 1, _, .cons _ t, e => DpAll.get (i := i) t e
  | _, _, _, _, .nil, e => by simp at e
theorem DpAll.getD : ∀ {vs : List V} {ds : List PyData} {i : Nat} {d : PyData}, DpAll K H vs ds → ds[i]? = some d → ∃ v, vs[i]? = some v ∧ Dp K H v d
  | _, _, 0, _, .cons h _, e => by cases e; exact ⟨_, rfl, h⟩
  | _, _, i + 1, _, .cons _ t, e => DpAll.getD (i := i) t e
  | _, _, _, _, .nil, e => by simp at e
theorem DpAll.take : ∀ {vs : List V} {ds : List PyData} (n : Nat), DpAll K H vs ds → DpAll K H (vs.take n) (ds.take n)
  | _, _, 0, _ => .nil
  | _, _, _ + 1, .nil => .nil
  | _, _, n + 1, .cons h t => .cons h (DpAll.take n t)
theorem DpAll.drop : ∀ {vs : List V} {ds : List PyData} (n : Nat), DpAll K H vs ds → DpAll K H (vs.drop n) (ds.drop n)
  | _, _, 0, h => h
  | _, _, _ + 1, .nil => .nil
  | _, _, n + 1, .cons _ t => DpAll.drop n t
theorem Dp.list_inv {v : V} (h : Dp K H v (.list ds)) : ∃ a xs, v = .ref a ∧ SqL K H a xs ∧ DpAll K H xs ds := by
  cases h with
  | lst hs ha => exact ⟨_, _, rfl, hs, ha⟩
theorem Dp.tup_inv {v : V} (h : Dp K H v (.tuple ds)) : ∃ a xs, v = .ref a ∧ SqT K H a xs ∧ DpAll K H xs ds := by
  cases h with
  | tup hs ha => exact ⟨_, _, rfl, hs, ha⟩
theorem DpAll.ints_inv : ∀ {vs : List V} {ns : List Int}, DpAll K H vs (ns.map PyData.int) → vs = ns.map V.int
  | _, [], h => by cases h; rfl
  | _, n :: ns, h => by
    cases h with
    | cons h t =>
      cases h
      rw [DpAll.ints_inv t]
      rfl
end

/-! ### steps with F and the ledger -/
section
variable {F H : Hp} {Q : VK} {vs xs ys : List V} {l : List (Addr × HO)} {p q : Addr} {v : V} {i : Int} {j : Nat} {K : PySem.W.Frag} {lo hi : Option Int} {q1 q2 q3 q4 : Addr × HO} {QH : Hp → Prop}
theorem j_newL (L : LF F l H) (s : vs.length ≤ sizeLine) (h : ∀ p H2, H p = none → LF F ((p, .lst vs) :: l) H2 → Q (.ref p) H2) : NEWL vs H Q :=
  ⟨s, fun p np => h p _ np (L.add np)⟩
theorem j_newT (L : LF F l H) (s : vs.length ≤ sizeLine) (h : ∀ p F2 H2, H p = none → Same F F2 → F2 p = some (.tup vs) → LF F2 l H2 → Q (.ref p) H2) : NEWT vs H Q :=
  ⟨s, fun p np => h p _ _ np (same_upd (L.free np)) upd_same (L.grow np)⟩
theorem j_cat (L : LF F l H) (h1 : H p = some (.lst xs)) (h2 : H q = some (.lst ys)) (z : xs.length + ys.length ≤ sizeLine) (h : ∀ a H2, H a = none → LF F ((a, .lst (xs ++ ys)) :: l) H2 → Q (.ref a) H2) : rCat (.ref p) (.ref q) H Q :=
  ⟨p, q, xs, ys, rfl, rfl, h1, h2, z, fun a na => h a _ na (L.add na)⟩
theorem j_slL (L : LF F l H) (s : SqL K H p xs) (h : ∀ a H2, H a = none → LF F ((a, .lst (cutV xs lo hi)) :: l) H2 → Q (.ref a) H2) : rSlL K (.ref p) lo hi H Q :=
  ⟨p, xs, rfl, s, fun a na => h a _ na (L.add na)⟩
theorem j_slL0 (L : LF F l H) (s : H p = some (.lst xs)) (h : ∀ a H2, H a = none → LF F ((a, .lst (cutV xs lo hi)) :: l) H2 → Q (.ref a) H2) : rSlL K (.ref p) lo hi H Q := j_slL L (.inl (.inl s)) h
theorem j_slT (L : LF F l H) (s : SqT K H p xs) (w : ¬ (HT.sIx xs.length 0 lo = 0 ∧ HT.sIx xs.length xs.length hi = xs.length)) (h : ∀ a F2 H2, H a = none → Same F F2 → F2 a = some (.tup (cutV xs lo hi)) → LF F2 l H2 → Q (.ref a) H2) : rSlT K (.ref p) lo hi H Q :=
  ⟨p, xs, rfl, s, w, fun a na => h a _ _ na (same_upd (L.free na)) upd_same (L.grow na)⟩
theorem j_setL0 (L : LF F ((p, .lst xs) :: l) H) (e : ixN xs.length i = some j) (h : ∀ H2, LF F ((p, .lst (xs.set j v)) :: l) H2 → QH H2) : rSetL (.ref p) (.int i) v H QH := i_setL L.at0 e (h _ L.set0)
theorem j_setL1 (L : LF F (q1 :: (p, .lst xs) :: l) H) (e : ixN xs.length i = some j) (h : ∀ H2, LF F (q1 :: (p, .lst (xs.set j v)) :: l) H2 → QH H2) : rSetL (.ref p) (.int i) v H QH := i_setL L.at1 e (h _ L.set1)
theorem j_setL2 (L : LF F (q1 :: q2 :: (p, .lst xs) :: l) H) (e : ixN xs.length i = some j) (h : ∀ H2, LF F (q1 :: q2 :: (p, .lst (xs.set j v)) :: l) H2 → QH H2) : rSetL (.ref p) (.int i) v H QH := i_setL L.at2 e (h _ L.set2)
theorem j_app0 (L : LF F ((p, .lst xs) :: l) H) (e : xs.length < sizeLine) (h : ∀ H2, LF F ((p, .lst (xs ++ [v])) :: l) H2 → Q .non H2) : rAppend (.ref p) [v] H Q := i_app L.at0 e (h _ L.set0)
theorem j_app1 (L : LF F (q1 :: (p, .lst xs) :: l) H) (e : xs.length < sizeLine) (h : ∀ H2, LF F (q1 :: (p, .lst (xs ++ [v])) :: l) H2 → Q .non H2) : rAppend (.ref p) [v] H Q := i_app L.at1 e (h _ L.set1)
theorem j_app2 (L : LF F (q1 :: q2 :: (p, .lst xs) :: l) H) (e : xs.length < sizeLine) (h : ∀ H2, LF F (q1 :: q2 :: (p, .lst (xs ++ [v])) :: l) H2 → Q .non H2) : rAppend (.ref p) [v] H Q := i_app L.at2 e (h _ L.set2)
theorem j_app3 (L : LF F (q1 :: q2 :: q3 :: (p, .lst xs) :: l) H) (e : xs.length < sizeLine) (h : ∀ H2, LF F (q1 :: q2 :: q3 :: (p, .lst (xs ++ [v])) :: l) H2 → Q .non H2) : rAppend (.ref p) [v] H Q := i_app L.at3 e (h _ L.set3)
/-- list(xs) -/
theorem j_listOf (L : LF F l H) (s : SqL K H p xs ∨ SqT K H p xs) (h : ∀ a H2, H a = none → LF F ((a, .lst xs) :: l) H2 → Q (.ref a) H2) :
    ∃ p' ys, [V.ref p] = [.ref p'] ∧ (SqL K H p' ys ∨ SqT K H p' ys) ∧ ∀ l, H l = none → Q (.ref l) (upd H l (.lst ys)) := ⟨p, xs, rfl, s, fun a na => h a _ na (L.add na)⟩
end

/-! ### comprehensions -/
def LCN (J : It) (g : TG) (tt : TT) (te : TE) (vs : List Nat) (σ : L2.St) (H1 : Hp) (Q : VK) : Prop := ∀ D, H1 D = none → ∃ W : Nat → Nat → Hp → Prop, (∃ m, W 0 m (upd H1 D (.lst []))) ∧ ∀ i m H, W i m H →
  (J.stop i H ∧ Q (.ref D) H) ∨ (J.go i H ∧ ∃ Nx : Hp → Prop, (∀ H', Nx H' → ∃ m', m' < m ∧ W (i + 1) m' H') ∧ ∀ x H', J.yld i H x H' → g x (wipe σ vs) H' fun σ2 H2 => wipe σ2 vs = wipe σ vs ∧ tt σ2 H2 fun b H3 =>
    if b = true then te σ2 H3 fun y H4 => ∃ acc, H4 D = some (.lst acc) ∧ acc.length < sizeLine ∧ Nx (upd H4 D (.lst (acc ++ [y]))) else Nx H3)
theorem i_lc {wi : TI} {g : TG} {tt : TT} {te : TE} {vs : List Nat} {σ : L2.St} {H : Hp} {Q : VK} (h : wi σ H fun J H1 => LCN J g tt te vs σ H1 Q) : tLc wi g tt te vs σ H Q := h
/-- between two turns of a comprehension -/
def LCP (K : PySem.W.Frag) (D : Addr) (F : Hp) (Z : Nat → List (Addr × HO) → Prop) (f : Nat → Option PyData) (i : Nat) (H : Hp) : Prop :=
  ∃ acc F2 l2, Same F F2 ∧ Z i l2 ∧ LF F2 ((D, .lst acc) :: l2) H ∧ DpAll K F2 acc ((List.range i).filterMap f)
/-- where an item y was reckoned -/
def LCY (K : PySem.W.Frag) (D : Addr) (F : Hp) (Z : Nat → List (Addr × HO) → Prop) (f : Nat → Option PyData) (i : Nat) (y : V) (H : Hp) : Prop :=
  ∃ acc, H D = some (.lst acc) ∧ acc.length < sizeLine ∧ LCP K D F Z f (i + 1) (upd H D (.lst (acc ++ [y])))
section
variable {K : PySem.W.Frag} {D : Addr} {F F1 F2 H : Hp} {Z : Nat → List (Addr × HO) → Prop} {f : Nat → Option PyData} {i : Nat} {y : V} {acc : List V} {l2 : List (Addr × HO)} {d : PyData}
theorem range_fm : (List.range (i + 1)).filterMap f = (List.range i).filterMap f ++ (f i).toList := by
  rw [List.range_succ, List.filterMap_append]
  cases hf : f i <;> simp [hf]
theorem LCY.of (dp : DpAll K F1 acc ((List.range i).filterMap f)) (s : Same F F1) (hi : i < 16000000) (s2 : Same F1 F2) (z2 : Z (i + 1) l2) (L2 : LF F2 ((D, .lst acc) :: l2) H) (e : f i = some d) (hd : Dp K F2 y d) : LCY K D F Z f i y H := by
  refine ⟨acc, L2.at0, ?_, acc ++ [y], F2, l2, s.trans s2, z2, L2.set0, ?_⟩
  · rw [DpAll.len dp]
    refine Nat.lt_of_le_of_lt (List.length_filterMap_le _ _) ?_
    rw [List.length_range, sizeLine_eq]
    omega
  · rw [range_fm, e]
    exact DpAll.app (DpAll.mono s2 _ _ dp) (DpAll.one hd)
theorem LCP.no (dp : DpAll K F1 acc ((List.range i).filterMap f)) (s : Same F F1) (s2 : Same F1 F2) (z2 : Z (i + 1) l2) (L2 : LF F2 ((D, .lst acc) :: l2) H) (e : f i = none) : LCP K D F Z f (i + 1) H := by
  refine ⟨acc, F2, l2, s.trans s2, z2, L2, ?_⟩
  rw [range_fm, e]
  simpa using DpAll.mono s2 _ _ dp
end
theorem LCN.data {K : PySem.W.Frag} {J : It} {n : Nat} {Gd : Hp → Prop} {Y : Nat → Hp → V → Hp → Prop} (w : Walk J n Gd Y) {g : TG} {tt : TT} {te : TE} {vs : List Nat} {σ : L2.St} {F H1 : Hp} {Q : VK} {l : List (Addr × HO)} (L : LF F l H1)
    (Z : Nat → List (Addr × HO) → Prop) (f : Nat → Option PyData) (hn : n ≤ 16000000) (z0 : Z 0 l)
    (hG : ∀ i D acc F2 l2 H, Same F F2 → Z i l2 → LF F2 ((D, .lst acc) :: l2) H → Gd H)
    (hs : ∀ i x D acc F1 l1 H H', i < n → Same F F1 → Z i l1 → LF F1 ((D, .lst acc) :: l1) H → DpAll K F1 acc ((List.range i).filterMap f) → Y i H x H' → g x (wipe σ vs) H' fun σ2 H2 => wipe σ2 vs = wipe σ vs ∧ tt σ2 H2 fun b H3 =>
      if b = true then te σ2 H3 fun y H4 => LCY K D F Z f i y H4 else LCP K D F Z f (i + 1) H3)
    (hd : ∀ D acc F2 l2 H2, H1 D = none → F D = none → Same F F2 → Z n l2 → LF F2 ((D, .lst acc) :: l2) H2 → DpAll K F2 acc ((List.range n).filterMap f) → Q (.ref D) H2) : LCN J g tt te vs σ H1 Q := by
  intro D nD
  refine lc_it w (Qd := fun H => Q (.ref D) H) (LCP K D F Z f) ⟨[], F, l, Same.refl F, z0, L.add nD, .nil⟩ ?_ ?_ ?_
  · rintro i H hi ⟨acc, F2, l2, s, z, L2, _⟩
    exact hG i D acc F2 l2 H s z L2
  · rintro i x H H' hi ⟨acc, F1, l1, s, z, L1, dp⟩ y
    exact hs i x D acc F1 l1 H H' hi s z L1 dp y
  · rintro H ⟨acc, F2, l2, s, z, L2, dp⟩
    exact hd D acc F2 l2 H nD (L.free nD) s z L2 dp
theorem filterMap_range {α β : Type} (xs : List α) (f : α → Option β) : (List.range xs.length).filterMap (fun i => xs[i]?.bind f) = xs.filterMap f := by
  induction xs with
  | nil => rfl
  | cons x xs ih =>
    rw [List.length_cons, List.range_succ_eq_map, List.filterMap_cons, List.filterMap_map]
    have e : ((fun i => (x :: xs)[i]?.bind f) ∘ Nat.succ) = fun i => xs[i]?.bind f := by
      funext i
      simp
    rw [e, ih]
    cases h : f x <;> simp [h]
end G

namespace L2
theorem Room.u65 {k : Nat} {A : PySem.Around} (r : Room k A) : A.units + 65 < PySem.cLine := by have := r.un; omega
end L2
namespace G
open PySem PySem.Spec PyProof.Rows L2
/-- the dict that an expression gives, locked from then on -/
def tFrz (te : TE) : TE := fun σ H Q => te σ H fun x H1 => ∃ d u, x = .ref d ∧ H1 d = some u ∧ Mut (some u) ∧ ∀ od, Q x (upd H1 d (.frz od u))
theorem pe_frz {X : Cx} {e : Expr} {te : TE} (he : PE X e te) : PE X e (tFrz te) := by
  refine ⟨fun pins s σ H Q I h => ?_⟩
  refine thn (he.run pins s σ H _ I h) fun v s1 q => ?_
  obtain ⟨x, H1, I1, rx, d, u, ex, hd, mu, q⟩ := q
  obtain ⟨od, I2⟩ := I1.lock hd mu
  exact ⟨x, _, I2, rx, q od⟩
section
variable {F H : Hp} {Q : VK} {l : List (Addr × HO)} {σ : L2.St} {p d : Addr} {kvs : List (Key × V)} {v : V} {k : Key} {q1 q2 q3 : Addr × HO} {D : Ends} {td ty tv te : TE} {K : PySem.W.Frag} {n : Int}
theorem i_yes {QB : Bool → Hp → Prop} (h : QB true H) : tYes σ H QB := h
theorem i_frz (h : te σ H fun x H1 => ∃ d u, x = .ref d ∧ H1 d = some u ∧ Mut (some u) ∧ ∀ od, Q x (upd H1 d (.frz od u))) : tFrz te σ H Q := h
theorem j_dnewK (L : LF F l H) (h : ∀ p H2, H p = none → LF F ((p, .dK []) :: l) H2 → Q (.ref p) H2) : tDNewK σ H Q := fun p np => h p _ np (L.add np)
theorem i_dput (h : tv σ H fun v H1 => td σ H1 fun x H2 => ty σ H2 fun y H3 => ∃ a H4, x = .ref a ∧ DPut H3 a y v H4 ∧ D.nx σ H4) : sDPut td ty tv D σ H := h
theorem j_dput0 {P : Hp → Prop} (L : LF F ((d, .dK kvs) :: l) H) (z : kvs.length < sizeLine) (h : ∀ H2, LF F ((d, .dK (putK kvs (.inl n) v)) :: l) H2 → P H2) : ∃ a H4, V.ref d = .ref a ∧ DPut H a (.int n) v H4 ∧ P H4 :=
  ⟨d, _, rfl, .inl ⟨kvs, .inl n, L.at0, rfl, z, rfl⟩, h _ L.set0⟩
theorem j_dput1 {P : Hp → Prop} (L : LF F (q1 :: (d, .dK kvs) :: l) H) (z : kvs.length < sizeLine) (h : ∀ H2, LF F (q1 :: (d, .dK (putK kvs (.inl n) v)) :: l) H2 → P H2) : ∃ a H4, V.ref d = .ref a ∧ DPut H a (.int n) v H4 ∧ P H4 :=
  ⟨d, _, rfl, .inl ⟨kvs, .inl n, L.at1, rfl, z, rfl⟩, h _ L.set1⟩
theorem i_dget (h : td σ H fun x H1 => ty σ H1 fun y H2 => ∃ a v, x = .ref a ∧ DGet H2 a y (some v) ∧ Q v H2) : tDGet td ty σ H Q := h
theorem j_dgetI {P : V → Prop} (s : H d = some (.dK kvs)) (e : valV kvs (Sum.inl n) = some v) (h : P v) : ∃ a v', V.ref d = .ref a ∧ DGet H a (.int n) (some v') ∧ P v' :=
  ⟨d, v, rfl, by have := DGet.k (k := Sum.inl n) s; rw [e] at this; exact this, h⟩
theorem i_itItems {R : It → Hp → Prop} (h : td σ H fun x H1 => ∃ d o kvs, x = .ref d ∧ H1 d = some (.frz o (.dK kvs)) ∧ R (Iti d o kvs) H1) : iItems td σ H R := h
theorem i_aug {i : Nat} {ti : TIp} {x : V} (e : σ[i]? = some (some x)) (h : te σ H fun y H1 => ti x y H1 fun z H2 => D.nx (σ.set i (some z)) H2) : tAug i te ti D σ H := ⟨x, e, h⟩
theorem i_ipI {f : Int → Int → Int} {i j : Int} (h : Q (.int (f i j)) H) : ipI f (.int i) (.int j) H Q := ⟨i, j, rfl, rfl, h⟩
theorem i_par {i j : Nat} {ta : TA} (h : ta σ H fun vs H1 => ∃ v w, vs = [v, w] ∧ D.nx ((σ.set i (some v)).set j (some w)) H1) : tPar i j ta D σ H := h
theorem i_parv {v w : V} {P : V → V → Prop} (h : P v w) : ∃ v' w', [v, w] = [v', w'] ∧ P v' w' := ⟨v, w, rfl, h⟩
theorem i_par3 {i j k : Nat} {ta : TA} (h : ta σ H fun vs H1 => ∃ u v w, vs = [u, v, w] ∧ D.nx (((σ.set i (some u)).set j (some v)).set k (some w)) H1) : tPar3 i j k ta D σ H := h
theorem i_par3v {u v w : V} {P : V → V → V → Prop} (h : P u v w) : ∃ u' v' w', [u, v, w] = [u', v', w'] ∧ P u' v' w' := ⟨u, v, w, rfl, h⟩
theorem i_gtup {nn : Nat} {t : TGs} {QS : L2.St → Hp → Prop} {xs : List V} {a : Addr} (s : SqT K H a xs) (hl : xs.length = nn) (h : t xs σ H QS) : gTup K nn t (.ref a) σ H QS := ⟨a, xs, rfl, s, hl, h⟩
theorem i_gunl {nn : Nat} {t : TGs} {QS : L2.St → Hp → Prop} {xs : List V} {a : Addr} (s : SqL K H a xs) (hl : xs.length = nn) (h : t xs σ H QS) : gUnl K nn t (.ref a) σ H QS := ⟨a, xs, rfl, s, hl, h⟩
theorem i_gcons {t : TG} {u : TGs} {QS : L2.St → Hp → Prop} {v : V} {r : List V} (h : t v σ H fun σ' H' => u r σ' H' QS) : gCons t u (v :: r) σ H QS := ⟨v, r, rfl, h⟩
theorem i_gnil {QS : L2.St → Hp → Prop} (h : QS σ H) : gNil [] σ H QS := ⟨rfl, h⟩
theorem i_notN {H : Hp} (h : Q (.bl (!decide (v = .non))) H) : (fun (x y : V) (H : Hp) (Q : VK) => y = .non ∧ Q (.bl (!decide (x = .non))) H) v .non H Q := ⟨rfl, h⟩
end
end G

namespace G
open PySem PySem.Spec PyProof.Rows L2
def rLen (K : PySem.W.Frag) : List V → Hp → VK → Prop := fun xs H Q => ∃ p ys, xs = [.ref p] ∧ (SqL K H p ys ∨ SqT K H p ys) ∧ Q (.int ys.length) H
def rListOf (K : PySem.W.Frag) : List V → Hp → VK → Prop := fun xs H Q => ∃ p ys, xs = [.ref p] ∧ (SqL K H p ys ∨ SqT K H p ys) ∧ ∀ l, H l = none → Q (.ref l) (upd H l (.lst ys))
def rSortedDI : List V → Hp → VK → Prop := fun xs H Q => ∃ (a : Addr) (kvs : List (Key × V)) (ks : List Int), xs = [.ref a] ∧ Rd H a (.dK kvs) ∧ kvs.map (·.1) = ks.map Sum.inl ∧ ks.length < 64 ∧
    ∀ (ys : List Int) (p : Addr), ys.Perm ks → ys.Pairwise (· ≤ ·) → H p = none → Q (.ref p) (upd H p (.lst (ys.map V.int)))
section
variable {X : Cx}
theorem c_len : CallR X (.builtin "len") (rLen X.K) := call_len_seq
theorem c_listOf : CallR X (.type "list") (rListOf X.K) := call_list_of
theorem c_sortedDI (h : X.calm = true) : CallR X (.builtin "sorted") rSortedDI := call_sortedDI h
end
section
variable {F H : Hp} {Q : VK} {l : List (Addr × HO)} {a : Addr} {xs : List V} {K : PySem.W.Frag} {w : World} {ns : List Int} {S : Int → Bool} {c : Nat} {kvs : List (Key × V)} {ks : List Int}
theorem i_len (s : SqL K H a xs) (h : Q (.int xs.length) H) : rLen K [.ref a] H Q := ⟨a, xs, rfl, .inl s, h⟩
theorem i_len0 (s : H a = some (.lst xs)) (h : Q (.int xs.length) H) : rLen K [.ref a] H Q := ⟨a, xs, rfl, .inl (.inl (.inl s)), h⟩
theorem i_lenT0 (s : H a = some (.tup xs)) (h : Q (.int xs.length) H) : rLen K [.ref a] H Q := ⟨a, xs, rfl, .inr (.inl (.inl s)), h⟩
theorem i_lenT (s : SqT K H a xs) (h : Q (.int xs.length) H) : rLen K [.ref a] H Q := ⟨a, xs, rfl, .inr s, h⟩
theorem j_listOf' (L : LF F l H) (s : SqL K H a xs) (h : ∀ p H2, H p = none → LF F ((p, .lst xs) :: l) H2 → Q (.ref p) H2) : rListOf K [.ref a] H Q := ⟨a, xs, rfl, .inl s, fun p np => h p _ np (L.add np)⟩
theorem j_listOf0 (L : LF F l H) (s : H a = some (.lst xs)) (h : ∀ p H2, H p = none → LF F ((p, .lst xs) :: l) H2 → Q (.ref p) H2) : rListOf K [.ref a] H Q := j_listOf' L (.inl (.inl s)) h
/-- sorted(set(xs)): the members, rising -/
theorem j_setLI (L : LF F l H) (s : SqL K H a (ns.map V.int)) (z : ns.length + 1 < scanBound) (h : ∀ p H2 c, H p = none → c ≤ ns.length → H2 p = some (SetO w p (fun j => decide (j ∈ ns)) c) → LF F ((p, SetO w p (fun j => decide (j ∈ ns)) c) :: l) H2 → Q (.ref p) H2) : GS.rSetLI K w [.ref a] H Q :=
  ⟨a, ns, rfl, s, z, fun p c np hc => h p _ c np hc upd_same (L.add np)⟩
theorem j_sortedSet (L : LF F l H) (s : H a = some (SetO w a S c)) (z : c < 64) (h : ∀ (ns : List Int) p H2, ns.Pairwise (· < ·) → (∀ k : Int, k ∈ ns ↔ S k = true) → ns.length = c → H p = none → LF F ((p, .lst (ns.map V.int)) :: l) H2 → Q (.ref p) H2) : rSortedSet w [.ref a] H Q :=
  ⟨a, S, c, rfl, s, z, fun ns p h1 h2 h3 np => h ns p _ h1 h2 h3 np (L.add np)⟩
theorem j_sortedDI (L : LF F l H) (s : H a = some (.dK kvs)) (e : kvs.map (·.1) = ks.map Sum.inl) (z : ks.length < 64) (h : ∀ (ys : List Int) p H2, ys.Perm ks → ys.Pairwise (· ≤ ·) → H p = none → LF F ((p, .lst (ys.map V.int)) :: l) H2 → Q (.ref p) H2) : rSortedDI [.ref a] H Q :=
  ⟨a, kvs, ks, rfl, .inl s, e, z, fun ys p h1 h2 np => h ys p _ h1 h2 np (L.add np)⟩
end
end G
namespace G
open PySem PySem.Spec PyProof.Rows L2
/-! ### rules whose reading names K: for use within a comprehension -/
section
variable {X : Cx} {K : PySem.W.Frag}
theorem k_ix_list (h : X.K = K) : IxR X (rIxL K) := h ▸ ix_list
theorem k_ix_tup (h : X.K = K) : IxR X (rIxT K) := h ▸ ix_tup
theorem k_eqD (h : X.K = K) (hu : X.A.units + 64 < cLine) : OpR X (compareOp .Eq) (rEqD K) := h ▸ op_eqD hu
theorem k_neD (h : X.K = K) (hu : X.A.units + 64 < cLine) : OpR X (compareOp .NotEq) (rNeD K) := h ▸ op_neD hu
theorem k_inD (h : X.K = K) (hu : X.A.units + 65 < cLine) : OpR X (compareOp .In) (rInD K) := h ▸ op_inD hu
theorem k_notInD (h : X.K = K) (hu : X.A.units + 65 < cLine) : OpR X (compareOp .NotIn) (rNotInD K) := h ▸ op_notInD hu
theorem k_leT (h : X.K = K) (hu : X.A.units < cLine) : OpR X (compareOp .LtE) (rLeT K) := h ▸ op_leT hu
theorem k_ltT (h : X.K = K) (hu : X.A.units < cLine) : OpR X (compareOp .Lt) (rLtT K) := h ▸ op_ltT hu
theorem k_in_seq (h : X.K = K) : OpR X (compareOp .In) (rIn K false) := h ▸ op_in_seq
theorem k_notIn_seq (h : X.K = K) : OpR X (compareOp .NotIn) (rIn K true) := h ▸ op_notIn_seq
theorem k_sl_list (h : X.K = K) : SlR X (rSlL K) := h ▸ sl_list
theorem k_sl_tup (h : X.K = K) : SlR X (rSlT K) := h ▸ sl_tup
theorem k_len (h : X.K = K) : CallR X (.builtin "len") (rLen K) := h ▸ c_len
theorem k_listOf (h : X.K = K) : CallR X (.type "list") (rListOf K) := h ▸ c_listOf
theorem k_isi (h : X.K = K) : CallR X (.builtin "isinstance") (rIsi K) := h ▸ call_isi
theorem k_pi_list {tg l : Expr} {tl : TE} (h : X.K = K) (hl : PE X l tl) : PI X tg l (iList K tl) := h ▸ pi_list hl
theorem k_pg_tup {es : List Expr} {k : Nat} {t : TGs} {n : Nat} {pos : Pos} (h : X.K = K) (hc : X.calm = true) (ht : PGs X es t)
    (hn : (assignEach es X.env).length = n := by rfl) (hst : (assignEach es X.env).findIdx? (·.1) = none := by rfl) : PG X (.Tuple es k pos) (gTup K n t) := h ▸ pg_tup hc ht hn hst
end
end G

namespace K28
open PySem PySem.Spec PyProof.Rows L2 G
/-! the steps, tried one after another -/
local macro_rules | `(tactic| walk_at "g_ar") => `(tactic| (first | omega | decide | (refine Or.inl ⟨?_, ?_⟩ <;> omega) | (refine Or.inr ⟨?_, ?_⟩ <;> omega) | (refine ⟨?_, ?_⟩ <;> omega) | (refine ⟨?_, ?_, ?_⟩ <;> omega)))
local macro_rules | `(tactic| walk_at "g_at") => `(tactic| (first | assumption | exact LF.at0 (by assumption) | exact LF.at1 (by assumption) | exact LF.at2 (by assumption) | exact LF.at3 (by assumption) | exact LF.at4 (by assumption) | exact LF.at5 (by assumption) | exact LF.atF (by assumption) (by assumption)))
local macro_rules | `(tactic| walk_at "g_sl") => `(tactic| (first | exact Same.seq (LF.same (by assumption)) (by assumption) | exact .inl (.inl (by walk_at "g_at")) | assumption))
local macro_rules | `(tactic| walk_at "g_st") => `(tactic| (first | exact Same.tup (LF.same (by assumption)) (by assumption) | exact .inl (.inl (by walk_at "g_at")) | assumption))
local macro_rules | `(tactic| walk_at "g1") => `(tactic| (first
  | with_reducible refine i_seq ?_
  | with_reducible refine i_asg ?_
  | with_reducible refine i_gname ?_
  | ((with_reducible refine' i_var ?e ?_); (case e => exact rfl))
  | with_reducible refine i_c ?_
  | with_reducible refine i_op ?_
  | with_reducible refine i_un ?_
  | with_reducible refine i_I0 ?_
  | ((with_reducible refine' i_pow ?c ?e ?_); (case c => exact ⟨by decide, by decide, by decide⟩); (case e => (simp only [Int.reduceToNat, Int.reducePow]; exact rfl)))
  | ((with_reducible refine i_I ?c ?_); (case c => walk_at "g_ar"))
  | ((with_reducible refine i_I ?c ?_); rotate_left)
  | with_reducible refine i_U ?_
  | with_reducible refine i_eqI ?_
  | with_reducible refine i_neI ?_
  | with_reducible refine i_ifS ?_
  | with_reducible refine i_test ?_
  | with_reducible refine i_B ?_
  | with_reducible refine i_bl ?_
  | with_reducible refine i_not ?_
  | with_reducible refine i_and ?_
  | with_reducible refine i_or ?_
  | with_reducible refine i_notV ?_
  | with_reducible refine i_andV ?_
  | with_reducible refine i_orV ?_
  | with_reducible refine i_ifE ?_
  | with_reducible refine i_ret ?_
  | with_reducible refine i_retN ?_
  | with_reducible refine i_drop ?_
  | with_reducible refine i_nil ?_
  | with_reducible refine i_cons ?_
  | with_reducible refine i_tup ?_
  | with_reducible refine i_lst ?_
  | with_reducible refine i_call ?_
  | with_reducible refine i_callN ?_
  | with_reducible refine i_CB ?_
  | with_reducible refine i_next ?_
  | with_reducible refine i_cont ?_
  | with_reducible refine i_break ?_
  | ((with_reducible refine' j_newL ?L ?s ?_); (case L => assumption); (case s => exact sz rfl))
  | ((with_reducible refine' j_newT ?L ?s ?_); (case L => assumption); (case s => exact sz rfl))))
local macro_rules | `(tactic| walk_at "g2") => `(tactic| (first
  | walk_at "g1"
  | (with_reducible show V.non = V.non ∧ _; refine ⟨rfl, ?_⟩)
  | (with_reducible show wipe _ _ = wipe _ _ ∧ _; refine ⟨rfl, ?_⟩)
  | (with_reducible show ∀ (H2 : Hp), LF _ _ H2 → _; intro _ _)
  | (with_reducible show ∀ (p : Addr) (H2 : Hp), _ = none → LF _ _ H2 → _; intro _ _ _ _)
  | (with_reducible show ∀ (p : Addr) (F2 : Hp) (H2 : Hp), _ = none → Same _ F2 → _ = some _ → LF _ _ H2 → _; intro _ _ _ _ _ _ _)
  | ((with_reducible refine' j_app0 ?s ?a ?_); (case s => assumption); (rotate_left))
  | ((with_reducible refine' j_app1 ?s ?a ?_); (case s => assumption); (rotate_left))
  | ((with_reducible refine' j_app2 ?s ?a ?_); (case s => assumption); (rotate_left))
  | ((with_reducible refine' j_app3 ?s ?a ?_); (case s => assumption); (rotate_left))
  | with_reducible refine i_turn ?_
  | ((with_reducible refine' j_cat ?L ?s ?t ?z ?_); (case L => assumption); (case s => walk_at "g_at"); (case t => walk_at "g_at"); rotate_left)
  | ((with_reducible refine' j_slL ?L ?s ?_); (case L => assumption); (case s => walk_at "g_sl"))
  | ((with_reducible refine' j_slT ?L ?s ?w ?_); (case L => assumption); (case s => walk_at "g_st"); (case w => first | (simp [HT.sIx]; done) | (intro hw; have hw := hw.2; simp [HT.sIx] at hw; done)))
  | with_reducible refine i_gsub ?_
  | with_reducible refine i_bm ?_
  | with_reducible refine i_bm0 ?_
  | ((with_reducible refine' i_tyL ?s ?_); (case s => walk_at "g_at"))
  | with_reducible refine i_sl ?_
  | with_reducible refine i_noPart ?_
  | with_reducible refine i_part ?_
  | with_reducible refine i_isInt ?_
  | with_reducible refine i_isi_ii ?_
  | with_reducible refine i_isi_ib ?_
  | with_reducible refine i_isi_bb ?_
  | ((with_reducible refine' i_isi_ll ?s ?_); (case s => walk_at "g_at"))
  | ((with_reducible refine' i_isi_tt ?s ?_); (case s => walk_at "g_at"))
  | ((with_reducible refine' i_ixLS ?s ?a ?_); (case s => walk_at "g_sl"); (case a => exact rfl))
  | ((with_reducible refine' i_ixTS ?s ?a ?_); (case s => walk_at "g_st"); (case a => exact rfl))
  | ((with_reducible refine' j_setL0 ?s ?a ?_); (case s => assumption); (case a => exact rfl))
  | ((with_reducible refine' j_setL1 ?s ?a ?_); (case s => assumption); (case a => exact rfl))
  | ((with_reducible refine' j_setL2 ?s ?a ?_); (case s => assumption); (case a => exact rfl))))
local macro_rules | `(tactic| walk_at "g3") => `(tactic| (first
  | walk_at "g2"
  | with_reducible refine i_for ?_
  | with_reducible refine i_rng1 ?_
  | with_reducible refine i_rng2 ?_
  | ((with_reducible refine i_rng1v ?b ?_); (case b => first | omega | (constructor <;> omega)))
  | ((with_reducible refine i_rng2v ?b ?_); (case b => refine ⟨?_, ?_, ?_, ?_⟩ <;> omega))
  | with_reducible refine i_list ?_
  | with_reducible refine i_listt ?_
  | ((with_reducible refine' i_listv ?s ?_); (case s => walk_at "g_sl"))
  | ((with_reducible refine' i_listtv ?s ?_); (case s => walk_at "g_st"))
  | with_reducible refine i_lc ?_
  | with_reducible refine i_frz ?_
  | with_reducible refine i_yes ?_
  | ((with_reducible refine' j_dnewK ?L ?_); (case L => assumption))
  | with_reducible refine i_dput ?_
  | ((with_reducible refine' j_dput0 ?L ?z ?_); (case L => assumption); rotate_left)
  | ((with_reducible refine' j_dput1 ?L ?z ?_); (case L => assumption); rotate_left)
  | with_reducible refine i_dget ?_
  | with_reducible refine i_itItems ?_
  | ((with_reducible refine' i_aug ?e ?_); (case e => exact rfl))
  | with_reducible refine i_ipI ?_
  | with_reducible refine i_par ?_
  | with_reducible refine i_par3 ?_
  | with_reducible refine i_par3v ?_
  | with_reducible refine i_parv ?_
  | ((with_reducible refine' i_gtup ?s ?l ?_); (case s => walk_at "g_st"); (case l => exact rfl))
  | ((with_reducible refine' i_gunl ?s ?l ?_); (case s => walk_at "g_sl"); (case l => exact rfl))
  | with_reducible refine i_gcons ?_
  | with_reducible refine i_gnil ?_
  | ((with_reducible refine' i_len ?s ?_); (case s => walk_at "g_sl"))
  | ((with_reducible refine' i_lenT ?s ?_); (case s => walk_at "g_st"))
  | ((with_reducible refine' j_listOf' ?L ?s ?_); (case L => assumption); (case s => walk_at "g_sl"))))
local macro_rules | `(tactic| walk_at "g") => `(tactic| (repeat (first | walk_at "g3" | dsimp only)))
local macro_rules | `(tactic| walk_at "g_b") => `(tactic| (repeat' (first | exact all_nil | (refine all_cons ⟨_, rfl, ?_, ?_⟩ ?_))) <;> omega)
local macro_rules | `(tactic| walk_at "g_i") => `(tactic| (simp only [List.length_cons, List.length_nil]; omega))
local macro_rules | `(tactic| walk_at "g_dp") => `(tactic| (repeat (first | exact .int _ | exact .bl _ | exact .non | exact .str _ | exact .nil | refine .cons ?_ ?_ | refine .lst (.inl (.inl (by walk_at "g_at"))) ?_ | refine .tup (.inl (.inl (by walk_at "g_at"))) ?_)))
def topS (i : Nat) : Stmt := PySem.Challenge.pw_timegranary_k28_whole_rows_poured.main.body.getD i (.Pass ⟨0, 0, 0, 0⟩)
abbrev s_last_rows : Stmt := topS 1
abbrev s_known : Stmt := topS 2
abbrev s_thinned : Stmt := topS 3
abbrev s_poured : Stmt := topS 4
abbrev s_l_draws : Stmt := topS 6
abbrev s_l_next : Stmt := topS 7
abbrev s_l_rows : Stmt := topS 8
abbrev s_l_last : Stmt := topS 9
abbrev s_l_known : Stmt := topS 10
abbrev s_l_parts : Stmt := topS 11
abbrev s_l_right : Stmt := topS 12
abbrev s_law : Stmt := topS 13
theorem sc_last_rows : FnScope ["rows", "number", "told", "row"] ["rows", "number"] (defScope s_last_rows) := ⟨rfl, rfl, rfl, by decide +kernel, rfl, by decide +kernel, by decide +kernel⟩
theorem sc_known : FnScope ["rows", "number", "time", "row"] ["rows", "number"] (defScope s_known) := ⟨rfl, rfl, rfl, by decide +kernel, rfl, by decide +kernel, by decide +kernel⟩
theorem sc_thinned : FnScope ["rows", "number", "last", "row"] ["rows", "number"] (defScope s_thinned) := ⟨rfl, rfl, rfl, by decide +kernel, rfl, by decide +kernel, by decide +kernel⟩
theorem sc_poured : FnScope ["one", "two", "told", "i", "j", "row"] ["one", "two"] (defScope s_poured) := ⟨rfl, rfl, rfl, by decide +kernel, rfl, by decide +kernel, by decide +kernel⟩
theorem sc_l_draws : FnScope ["_law_cell", "_law_cut", "_law_k"] ["_law_cell"] (defScope s_l_draws) := ⟨rfl, rfl, rfl, by decide +kernel, rfl, by decide +kernel, by decide +kernel⟩
theorem sc_l_next : FnScope ["_law_draws_here", "_law_k", "_law_number"] ["_law_draws_here"] (defScope s_l_next) := ⟨rfl, rfl, rfl, by decide +kernel, rfl, by decide +kernel, by decide +kernel⟩
theorem sc_l_rows : FnScope ["_law_draws_here", "_law_most", "_law_told", "_law_k", "_law_pick", "_law_time", "_law_number", "_law_j", "_law_some", "_law_row", "_law_times", "_law_found", "_law_numbers"] ["_law_draws_here", "_law_most"] (defScope s_l_rows) := ⟨rfl, rfl, rfl, by decide +kernel, rfl, by decide +kernel, by decide +kernel⟩
theorem sc_l_last : FnScope ["_law_rows_here", "_law_number", "_law_last_here", "_law_row"] ["_law_rows_here", "_law_number"] (defScope s_l_last) := ⟨rfl, rfl, rfl, by decide +kernel, rfl, by decide +kernel, by decide +kernel⟩
theorem sc_l_known : FnScope ["_law_rows_here", "_law_number", "_law_last_here", "_law_time"] ["_law_rows_here", "_law_number"] (defScope s_l_known) := ⟨rfl, rfl, rfl, by decide +kernel, rfl, by decide +kernel, by decide +kernel⟩
theorem sc_l_parts : FnScope ["_law_draws_here", "_law_rows_here", "_law_parts_here", "_law_row", "_law_pick", "_law_k"] ["_law_draws_here", "_law_rows_here"] (defScope s_l_parts) := ⟨rfl, rfl, rfl, by decide +kernel, rfl, by decide +kernel, by decide +kernel⟩
theorem sc_l_right : FnScope ["_law_draws_here", "_law_rows_here", "_law_a_one", "_law_a_two", "_law_three", "_law_row", "_law_due", "_law_handed", "_law_told", "_law_kept", "_law_first", "_law_second", "_law_third", "_law_whole", "_law_number", "_law_at"] ["_law_draws_here", "_law_rows_here"] (defScope s_l_right) := ⟨rfl, rfl, rfl, by decide +kernel, rfl, by decide +kernel, by decide +kernel⟩
theorem sc_law : FnScope ["_law_script", "_law_cell", "_law_draws_here"] ["_law_script"] (defScope s_law) := ⟨rfl, rfl, rfl, by decide +kernel, rfl, by decide +kernel, by decide +kernel⟩
structure Tx where
  f_last_rows : Addr
  d_last_rows : FuncData
  f_known : Addr
  d_known : FuncData
  f_thinned : Addr
  d_thinned : FuncData
  f_poured : Addr
  d_poured : FuncData
  f_l_draws : Addr
  d_l_draws : FuncData
  f_l_next : Addr
  d_l_next : FuncData
  f_l_rows : Addr
  d_l_rows : FuncData
  f_l_last : Addr
  d_l_last : FuncData
  f_l_known : Addr
  d_l_known : FuncData
  f_l_parts : Addr
  d_l_parts : FuncData
  f_l_right : Addr
  d_l_right : FuncData
  f_law : Addr
  d_law : FuncData
structure Top (K : PySem.W.Frag) (mg : Str → Option Value) (x : Tx) : Prop where
  d_last_rows : G.DefAt K mg "last_rows" s_last_rows x.f_last_rows x.d_last_rows ["rows", "number"]
  d_known : G.DefAt K mg "known" s_known x.f_known x.d_known ["rows", "number"]
  d_thinned : G.DefAt K mg "thinned" s_thinned x.f_thinned x.d_thinned ["rows", "number"]
  d_poured : G.DefAt K mg "poured" s_poured x.f_poured x.d_poured ["one", "two"]
  d_l_draws : G.DefAt K mg "_law_draws" s_l_draws x.f_l_draws x.d_l_draws ["_law_cell"]
  d_l_next : G.DefAt K mg "_law_next" s_l_next x.f_l_next x.d_l_next ["_law_draws_here"]
  d_l_rows : G.DefAt K mg "_law_rows" s_l_rows x.f_l_rows x.d_l_rows ["_law_draws_here", "_law_most"]
  d_l_last : G.DefAt K mg "_law_last" s_l_last x.f_l_last x.d_l_last ["_law_rows_here", "_law_number"]
  d_l_known : G.DefAt K mg "_law_known" s_l_known x.f_l_known x.d_l_known ["_law_rows_here", "_law_number"]
  d_l_parts : G.DefAt K mg "_law_parts" s_l_parts x.f_l_parts x.d_l_parts ["_law_draws_here", "_law_rows_here"]
  d_l_right : G.DefAt K mg "_law_right" s_l_right x.f_l_right x.d_l_right ["_law_draws_here", "_law_rows_here"]
  d_law : G.DefAt K mg "law" s_law x.f_law x.d_law ["_law_script"]
  k_poured_0_1_0 : KBn K x.d_poured ["one", "two"] 0 ["two", "one"] (G.pickU [1, 0]) (G.pickV [1, 0])
  n_len : mg "len" = none
  n_list : mg "list" = none
  n_range : mg "range" = none
  n_set : mg "set" = none
  n_sorted : mg "sorted" = none
section
variable {P : Program} {w : World} {K : PySem.W.Frag} {mg : Str → Option Value} {base : Heap} {x : Tx}
/-! ### draws -/
/-- a purse of draws stands at a -/
def DrawAt (H : Hp) (a : Addr) (m : Int) : Prop := ∃ (n k : Int) (f : Bool), H a = some (.lst [.int n, .int k, .bl f]) ∧ 0 ≤ n ∧ 0 ≤ k ∧ k ≤ m
theorem DrawAt.same {H H' : Hp} {a : Addr} {m : Int} (d : DrawAt H a m) (s : Same H H') : DrawAt H' a m := by
  obtain ⟨n, c, f, e, h⟩ := d
  exact ⟨n, c, f, s _ _ e, h⟩
theorem DrawAt.more {H : Hp} {a : Addr} {m m' : Int} (d : DrawAt H a m) (h : m ≤ m') : DrawAt H a m' := by
  obtain ⟨n, c, f, e, h1, h2, h3⟩ := d
  exact ⟨n, c, f, e, h1, h2, by omega⟩
def spDraws : Sp := fun vs H Q _ => ∃ c : Int, vs = [.int c] ∧ ∀ H' p, Same H H' → H p = none → DrawAt H' p 0 → Q (.ref p) H'
theorem ok_l_draws (T : Top K mg x) : FnOk P w K mg base CX0 1 x.f_l_draws x.d_l_draws ["_law_cell"] spDraws := by
  refine T.d_l_draws.F.ok sc_l_draws (fun vs H Q E h => ?_) (fun cdv A outer s H vs Q E hr h => ?_)
  · obtain ⟨c, rfl, k⟩ := h
    rfl
  obtain ⟨c, rfl, k⟩ := h
  refine ⟨_, (pss_cons (ps_set (i := 1) sc_l_draws.nd rfl (Or.inl rfl) (pe_op op_pow pe_int pe_int))
    (pss_cons (ps_for PassesOwn.never rfl (pi_range1 rfl T.n_range (pa_cons pe_int pa_nil)) (pg_name (i := 2) sc_l_draws.nd rfl (Or.inl rfl))
      (pss_one (ps_set (i := 1) sc_l_draws.nd rfl (Or.inl rfl) (pe_op op_mulW (pv 1) (pv 1)))))
    (pss_one (ps_ret (pe_lst (pa_cons (pe_op op_mod (pv 0) (pv 1)) (pa_cons pe_int (pa_cons (pe_cmpR op_ge (pv 0) (pe_op op_pow pe_int pe_int) (nomark _)) pa_nil)))))))), ?_⟩
  have L0 : LF H [] H := LF.nil
  walk_at "g"
  refine FOR.range (fun i σ H1 => ∃ (z : Int) (v : Option V), σ = [some (.int c), some (.int z), v] ∧ H1 = H ∧ 0 < z ∧ z.natAbs < 2 ^ (200 * 2 ^ i)) ⟨1000000000000000000000000000000000000000000000000000000000000, none, rfl, rfl, by decide, by decide⟩ ?_ ?_
  · rintro i σ H1 hi ⟨z, v, rfl, rfl, hz, hb⟩
    walk_at "g"
    · refine ⟨z * z, _, rfl, rfl, Int.mul_pos hz hz, ?_⟩
      have e : 200 * 2 ^ (i + 1) = 200 * 2 ^ i + 200 * 2 ^ i := by omega
      rw [e]
      exact wide_lt hb hb
    · have h6 : 2 ^ i ≤ 2 ^ 6 := Nat.pow_le_pow_right (by decide) (by omega)
      have h1 : 1 ≤ 2 ^ i := Nat.one_le_two_pow
      exact wide_mul hb hb (by omega) (by omega) (by omega)
  · rintro σ H1 ⟨z, v, rfl, rfl, hz, hb⟩
    walk_at "g"
    rename_i p H2 n1 L
    exact k H2 p L.same n1 ⟨c % z, 0, _, L.at0, Int.emod_nonneg _ (by omega), by omega, by omega⟩
def spNext : Sp := fun vs H Q _ => ∃ (a : Addr) (m : Int), vs = [.ref a] ∧ DrawAt H a m ∧ m < 2 ^ 30 ∧ ∀ (r : Int) (H' : Hp), 0 ≤ r → r < 306783369 → DrawAt H' a (m + 1) → But a H H' → Q (.int r) H'
theorem ok_l_next (T : Top K mg x) : FnOk P w K mg base CX0 1 x.f_l_next x.d_l_next ["_law_draws_here"] spNext := by
  refine T.d_l_next.F.ok sc_l_next (fun vs H Q E h => ?_) (fun cdv A outer s H vs Q E hr h => ?_)
  · obtain ⟨a, m, rfl, ⟨n, c, f, ha, hn, hc, hm⟩, hm2, k⟩ := h
    rfl
  obtain ⟨a, m, rfl, ⟨n, c, f, ha, hn, hc, hm⟩, hm2, k⟩ := h
  refine ⟨_, (pss_cons (ps_asg (pe_op op_add (pe_ix ix_list (pv 0) pe_int (fun _ _ => rfl)) pe_int) (pg_sub (pv 0) pe_int set_list))
    (pss_cons (ps_set (i := 1) sc_l_next.nd rfl (Or.inl rfl) (pe_ix ix_list (pv 0) pe_int (fun _ _ => rfl)))
    (pss_cons (ps_if (pt_val (pe_ix ix_list (pv 0) pe_int (fun _ _ => rfl))) (pss_cons (ps_set (i := 2) sc_l_next.nd rfl (Or.inl rfl) (pe_op op_mod (pe_ix ix_list (pv 0) pe_int (fun _ _ => rfl)) (pe_op op_pow pe_int pe_int)))
    (pss_cons (ps_asg (pe_op op_fdiv (pe_ix ix_list (pv 0) pe_int (fun _ _ => rfl)) (pe_op op_pow pe_int pe_int)) (pg_sub (pv 0) pe_int set_list))
    (pss_one (ps_ret (pv 2))))) pss_nil)
    (pss_cons (ps_set (i := 2) sc_l_next.nd rfl (Or.inl rfl) (pe_op op_mod (pe_op op_mul (pe_op op_add (pe_op op_add (pe_op op_mod (pe_ix ix_list (pv 0) pe_int (fun _ _ => rfl)) pe_int) (pe_op op_mul (pe_op op_mul (pv 1) (pv 1)) pe_int)) (pv 1)) pe_int) pe_int))
    (pss_cons (ps_set (i := 2) sc_l_next.nd rfl (Or.inl rfl) (pe_op op_mod (pe_op op_mul (pv 2) (pv 2)) pe_int))
    (pss_one (ps_ret (pe_op op_fdiv (pe_op op_mod (pe_op op_mul (pv 2) (pe_op op_add (pv 2) pe_int)) pe_int) pe_int)))))))), ?_⟩
  have L0 : LF (cut H a) [(a, .lst [.int n, .int c, .bl f])] H := LF.one ha
  walk_at "g"
  refine i_ifb (fun hf => ?_) (fun hf => ?_)
  · walk_at "g"
    rename_i H3 L3
    exact k _ H3 (by omega) (by omega) ⟨_, _, _, L3.at0, by omega, by omega, by omega⟩ (L3.but (Same.refl _))
  · walk_at "g"
    rename_i H3 L3
    exact k _ H3 (by omega) (by omega) ⟨_, _, _, L3.at0, by omega, by omega, by omega⟩ (L3.but (Same.refl _))

/-! ### rows -/
abbrev Row := Int × Int × Option Int
def optP : Option Int → PyData
  | none => .none
  | some i => .int i
def optV : Option Int → V
  | none => .non
  | some i => .int i
def rowP (r : Row) : PyData := .tuple [.int r.1, .int r.2.1, optP r.2.2]
def rowsP (rs : List Row) : PyData := .list (rs.map rowP)
theorem opt_inv {H : Hp} {v : V} {o : Option Int} (h : Dp K H v (optP o)) : v = optV o := by
  cases o with
  | none => cases h; rfl
  | some i => cases h; rfl
theorem opt_dp {H : Hp} (o : Option Int) : Dp K H (optV o) (optP o) := by
  cases o with
  | none => exact .non
  | some i => exact .int i
theorem row_inv {H : Hp} {v : V} {r : Row} (h : Dp K H v (rowP r)) : ∃ a, v = .ref a ∧ SqT K H a [.int r.1, .int r.2.1, optV r.2.2] := by
  obtain ⟨a, xs, rfl, hs, ha⟩ := Dp.tup_inv h
  cases ha with
  | cons h1 ha =>
    cases ha with
    | cons h2 ha =>
      cases ha with
      | cons h3 ha =>
        cases ha
        cases h1
        cases h2
        have e3 := opt_inv h3
        subst e3
        exact ⟨a, rfl, hs⟩
theorem row_lay (n : Nat) (r : Row) : Lay (n + 1) (rowP r) := Lay.tuple fun d hd => by
  have : d = .int r.1 ∨ d = .int r.2.1 ∨ d = optP r.2.2 := by simpa using hd
  rcases this with rfl | rfl | rfl
  · exact Lay.int _ _
  · exact Lay.int _ _
  · cases r.2.2 with
    | none => exact Lay.none _
    | some i => exact Lay.int _ i
theorem rows_lay (rs : List Row) : Lay 2 (rowsP rs) := Lay.list fun d hd => by
  obtain ⟨r, _, rfl⟩ := List.mem_map.mp hd
  exact row_lay 0 r
theorem opt_eqv (a b : Option Int) : PyData.eqv (optP a) (optP b) = decide (a = b) := by
  cases a with
  | none => cases b <;> rfl
  | some i =>
    cases b with
    | none => rfl
    | some j =>
      have : PyData.eqv (optP (some i)) (optP (some j)) = (i == j) := rfl
      rw [this]
      by_cases h : i = j
      · subst h; simp
      · simp [h]
theorem row_eqv (a b : Row) : PyData.eqv (rowP a) (rowP b) = decide (a = b) := by
  obtain ⟨a1, a2, a3⟩ := a
  obtain ⟨b1, b2, b3⟩ := b
  have e : PyData.eqv (rowP (a1, a2, a3)) (rowP (b1, b2, b3)) = ((a1 == b1) && ((a2 == b2) && (PyData.eqv (optP a3) (optP b3) && true))) := rfl
  rw [e, opt_eqv, Bool.eq_iff_iff]
  simp [and_assoc]
theorem i_eqRow {H : Hp} {Q : VK} {v w : V} {a b : Row} (h1 : Dp K H v (rowP a)) (h2 : Dp K H w (rowP b)) (h : Q (.bl (decide (a = b))) H) : rEqD K v w H Q :=
  ⟨rowP a, rowP b, h1, h2, (row_lay 0 a).shaped (by decide), (row_lay 0 b).shaped (by decide), by rw [row_eqv]; exact h⟩
theorem i_neRow {H : Hp} {Q : VK} {v w : V} {a b : Row} (h1 : Dp K H v (rowP a)) (h2 : Dp K H w (rowP b)) (h : Q (.bl (!decide (a = b))) H) : rNeD K v w H Q :=
  ⟨rowP a, rowP b, h1, h2, (row_lay 0 a).shaped (by decide), (row_lay 0 b).shaped (by decide), by rw [row_eqv]; exact h⟩
/-! ### the last rows -/
def putA {α : Type} (m : List (Int × α)) (k : Int) (v : α) : List (Int × α) :=
  if (m.any fun p => decide (p.1 = k)) = true then m.map (fun p => if p.1 = k then (p.1, v) else p) else m ++ [(k, v)]
def valA {α : Type} (m : List (Int × α)) (k : Int) : Option α := (m.find? fun p => decide (p.1 = k)).map (·.2)
def lastRows (n : Int) (rs : List Row) : List (Int × Row) := rs.foldl (fun m r => if r.2.1 ≤ n then putA m r.1 r else m) []
/-- what a dict holds -/
inductive KvOk (K : PySem.W.Frag) (H : Hp) : List (Key × V) → List (Int × Row) → Prop
  | nil : KvOk K H [] []
  | cons {t : Int} {v : V} {r : Row} {kvs : List (Key × V)} {m : List (Int × Row)} : Dp K H v (rowP r) → KvOk K H kvs m → KvOk K H ((.inl t, v) :: kvs) ((t, r) :: m)
theorem KvOk.mono {H H' : Hp} (s : Same H H') : ∀ {kvs : List (Key × V)} {m : List (Int × Row)}, KvOk K H kvs m → KvOk K H' kvs m
  | _, _, .nil => .nil
  | _, _, .cons h t => .cons (Dp.mono s _ _ h) (KvOk.mono s t)
theorem KvOk.len {H : Hp} : ∀ {kvs : List (Key × V)} {m : List (Int × Row)}, KvOk K H kvs m → kvs.length = m.length
  | _, _, .nil => rfl
  | _, _, .cons _ t => congrArg Nat.succ (KvOk.len t)
theorem KvOk.keys {H : Hp} : ∀ {kvs : List (Key × V)} {m : List (Int × Row)}, KvOk K H kvs m → kvs.map (·.1) = (m.map (·.1)).map Sum.inl
  | _, _, .nil => rfl
  | _, _, .cons _ t => by
    rw [List.map_cons, List.map_cons, List.map_cons, KvOk.keys t]
theorem KvOk.any {H : Hp} {t : Int} : ∀ {kvs : List (Key × V)} {m : List (Int × Row)}, KvOk K H kvs m → (kvs.any fun kv => decide (kv.1 = Sum.inl t)) = m.any fun p => decide (p.1 = t)
  | _, _, .nil => rfl
  | _, _, .cons (t := u) _ h => by
    rw [List.any_cons, List.any_cons, KvOk.any h]
    simp
theorem KvOk.app {H : Hp} {t : Int} {v : V} {r : Row} (h : Dp K H v (rowP r)) : ∀ {kvs : List (Key × V)} {m : List (Int × Row)}, KvOk K H kvs m → KvOk K H (kvs ++ [(.inl t, v)]) (m ++ [(t, r)])
  | _, _, .nil => .cons h .nil
  | _, _, .cons h' t => .cons h' (KvOk.app h t)
theorem KvOk.rep {H : Hp} {t : Int} {v : V} {r : Row} (h : Dp K H v (rowP r)) : ∀ {kvs : List (Key × V)} {m : List (Int × Row)}, KvOk K H kvs m →
    KvOk K H (kvs.map fun kv => if kv.1 = Sum.inl t then (kv.1, v) else kv) (m.map fun p => if p.1 = t then (p.1, r) else p)
  | _, _, .nil => .nil
  | _, _, .cons (t := u) h' tl => by
    rw [List.map_cons, List.map_cons]
    by_cases e : u = t
    · subst e
      rw [if_pos rfl, if_pos rfl]
      exact .cons h (KvOk.rep h tl)
    · rw [if_neg (by simpa using e), if_neg e]
      exact .cons h' (KvOk.rep h tl)
theorem KvOk.put {H : Hp} {t : Int} {v : V} {r : Row} {kvs : List (Key × V)} {m : List (Int × Row)} (o : KvOk K H kvs m) (h : Dp K H v (rowP r)) : KvOk K H (putK kvs (.inl t) v) (putA m t r) := by
  unfold putK putA
  rw [KvOk.any o]
  split
  · exact KvOk.rep h o
  · exact KvOk.app h o
theorem KvOk.val {H : Hp} {t : Int} : ∀ {kvs : List (Key × V)} {m : List (Int × Row)} {r : Row}, KvOk K H kvs m → valA m t = some r → ∃ v, valV kvs (Sum.inl t) = some v ∧ Dp K H v (rowP r)
  | _, _, _, .nil, e => by simp [valA] at e
  | _, _, r, .cons (t := u) (v := v) h tl, e => by
    unfold valA at e
    unfold valV
    by_cases eu : u = t
    · subst eu
      rw [List.find?_cons_of_pos (by simp)] at e ⊢
      cases e
      exact ⟨v, rfl, h⟩
    · rw [List.find?_cons_of_neg (by simpa using eu)] at e ⊢
      exact KvOk.val tl e
theorem putA_len {α : Type} (m : List (Int × α)) (k : Int) (v : α) : (putA m k v).length ≤ m.length + 1 := by
  unfold putA
  split <;> simp
theorem last_len (n : Int) (rs : List Row) : (lastRows n rs).length ≤ rs.length := by
  have : ∀ (rs : List Row) (m : List (Int × Row)), (rs.foldl (fun m r => if r.2.1 ≤ n then putA m r.1 r else m) m).length ≤ m.length + rs.length := by
    intro rs
    induction rs with
    | nil => intro m; exact Nat.le_refl _
    | cons r rs ih =>
      intro m
      rw [List.foldl_cons, List.length_cons]
      refine Nat.le_trans (ih _) ?_
      have := putA_len m r.1 r
      split <;> omega
  have := this rs []
  simpa [lastRows] using this
theorem KvOk.get {H : Hp} : ∀ {kvs : List (Key × V)} {m : List (Int × Row)} {i : Nat}, KvOk K H kvs m → i < kvs.length → ∃ t r v, kvs[i]? = some (Sum.inl t, v) ∧ m[i]? = some (t, r) ∧ Dp K H v (rowP r)
  | _, _, 0, .cons h _, _ => ⟨_, _, _, rfl, rfl, h⟩
  | _, _, i + 1, .cons _ t, l => KvOk.get (i := i) t (Nat.lt_of_succ_lt_succ l)
theorem same_but {H H1 : Hp} {d : Addr} {o : HO} (s : Same H H1) (n : H d = none) : Same H (upd H1 d o) := fun b u e => by
  rw [upd_ne (ne_of_none e n)]
  exact s b u e
def spLast (K : PySem.W.Frag) : Sp := fun vs H Q _ => ∃ (a : Addr) (rs : List Row) (n : Int), vs = [.ref a, .int n] ∧ Dp K H (.ref a) (rowsP rs) ∧ rs.length ≤ 1000 ∧
  ∀ H' d kvs, Same H H' → H d = none → H' d = some (.dK kvs) → KvOk K H kvs (lastRows n rs) → Q (.ref d) H'
theorem ok_last_rows (T : Top K mg x) : FnOk P w K mg base CX0 1 x.f_last_rows x.d_last_rows ["rows", "number"] (spLast K) := by
  refine T.d_last_rows.F.ok sc_last_rows (fun vs H Q E h => ?_) (fun cdv A outer s H vs Q E hr h => ?_)
  · obtain ⟨a, rs, n, rfl, hd, hl, k⟩ := h
    rfl
  obtain ⟨a, rs, n, rfl, hd, hl, k⟩ := h
  refine ⟨_, (pss_cons (ps_set (i := 2) sc_last_rows.nd rfl (Or.inl rfl) pe_dnewK)
    (pss_cons (ps_for PassesOwn.never rfl (pi_list (pv 0)) (pg_name (i := 3) sc_last_rows.nd rfl (Or.inl rfl))
      (pss_one (ps_if (pt_cmpR op_le (pe_ix ix_tup (pv 3) pe_int (fun _ _ => rfl)) (pv 1) (nomark _)) (pss_one (ps_dput (hu_of hr) (pv 2) (pe_ix ix_tup (pv 3) pe_int (fun _ _ => rfl)) (pv 3) rfl)) pss_nil)))
    (pss_one (ps_ret (pv 2))))), ?_⟩
  obtain ⟨_, xs, e, hs, ha⟩ := Dp.list_inv hd
  cases e
  have L0 : LF H [] H := LF.nil
  walk_at "g"
  rename_i p H2 n2 L2
  have hxl : xs.length = rs.length := by rw [DpAll.len ha, List.length_map]
  refine FOR.list (xs := xs) (fun i σ H3 => ∃ (v : Option V) (kvs : List (Key × V)), σ = [some (.ref a), some (.int n), some (.ref p), v] ∧ LF H [(p, .dK kvs)] H3 ∧ KvOk K H kvs (lastRows n (rs.take i)))
    ⟨none, [], rfl, L2, .nil⟩ (fun i σ H3 _ ⟨_, _, _, L, _⟩ => L.same.seq hs) ?_ ?_
  · rintro i x σ H3 hx ⟨v, kvs, rfl, L3, ok⟩
    obtain ⟨d, hd1, hd2⟩ := DpAll.get ha hx
    obtain ⟨r, hr1, rfl⟩ : ∃ r, rs[i]? = some r ∧ rowP r = d := by
      rw [List.getElem?_map] at hd1
      cases e : rs[i]? with
      | none => rw [e] at hd1; cases hd1
      | some r => rw [e] at hd1; exact ⟨r, rfl, Option.some.inj hd1⟩
    obtain ⟨b, rfl, hb⟩ := row_inv hd2
    have et : rs.take (i + 1) = rs.take i ++ [r] := by rw [List.take_add_one, hr1]; rfl
    have es : lastRows n (rs.take (i + 1)) = if r.2.1 ≤ n then putA (lastRows n (rs.take i)) r.1 r else lastRows n (rs.take i) := by
      rw [et]
      unfold lastRows
      rw [List.foldl_append]
      rfl
    have kl : kvs.length ≤ 1000 := by
      rw [KvOk.len ok]
      exact Nat.le_trans (last_len n _) (by rw [List.length_take]; omega)
    walk_at "g"
    refine i_ifd (fun hle => ?_) (fun hgt => ?_)
    · walk_at "g"
      · rename_i H4 L4
        exact ⟨_, _, rfl, L4, by rw [es, if_pos hle]; exact KvOk.put ok hd2⟩
      · exact small1000 kl
    · walk_at "g"
      exact ⟨_, _, rfl, L3, by rw [es, if_neg hgt]; exact ok⟩
  · rintro σ H3 ⟨v, kvs, rfl, L3, ok⟩
    walk_at "g"
    rw [hxl, List.take_length] at ok
    exact k H3 p kvs L3.same n2 L3.at0 ok

theorem ok_l_last (T : Top K mg x) : FnOk P w K mg base CX0 1 x.f_l_last x.d_l_last ["_law_rows_here", "_law_number"] (spLast K) := by
  refine T.d_l_last.F.ok sc_l_last (fun vs H Q E h => ?_) (fun cdv A outer s H vs Q E hr h => ?_)
  · obtain ⟨a, rs, n, rfl, hd, hl, k⟩ := h
    rfl
  obtain ⟨a, rs, n, rfl, hd, hl, k⟩ := h
  refine ⟨_, (pss_cons (ps_set (i := 2) sc_l_last.nd rfl (Or.inl rfl) pe_dnewK)
    (pss_cons (ps_for PassesOwn.never rfl (pi_list (pv 0)) (pg_name (i := 3) sc_l_last.nd rfl (Or.inl rfl))
      (pss_one (ps_if (pt_cmpR op_le (pe_ix ix_tup (pv 3) pe_int (fun _ _ => rfl)) (pv 1) (nomark _)) (pss_one (ps_dput (hu_of hr) (pv 2) (pe_ix ix_tup (pv 3) pe_int (fun _ _ => rfl)) (pv 3) rfl)) pss_nil)))
    (pss_one (ps_ret (pv 2))))), ?_⟩
  obtain ⟨_, xs, e, hs, ha⟩ := Dp.list_inv hd
  cases e
  have L0 : LF H [] H := LF.nil
  walk_at "g"
  rename_i p H2 n2 L2
  have hxl : xs.length = rs.length := by rw [DpAll.len ha, List.length_map]
  refine FOR.list (xs := xs) (fun i σ H3 => ∃ (v : Option V) (kvs : List (Key × V)), σ = [some (.ref a), some (.int n), some (.ref p), v] ∧ LF H [(p, .dK kvs)] H3 ∧ KvOk K H kvs (lastRows n (rs.take i)))
    ⟨none, [], rfl, L2, .nil⟩ (fun i σ H3 _ ⟨_, _, _, L, _⟩ => L.same.seq hs) ?_ ?_
  · rintro i x σ H3 hx ⟨v, kvs, rfl, L3, ok⟩
    obtain ⟨d, hd1, hd2⟩ := DpAll.get ha hx
    obtain ⟨r, hr1, rfl⟩ : ∃ r, rs[i]? = some r ∧ rowP r = d := by
      rw [List.getElem?_map] at hd1
      cases e : rs[i]? with
      | none => rw [e] at hd1; cases hd1
      | some r => rw [e] at hd1; exact ⟨r, rfl, Option.some.inj hd1⟩
    obtain ⟨b, rfl, hb⟩ := row_inv hd2
    have et : rs.take (i + 1) = rs.take i ++ [r] := by rw [List.take_add_one, hr1]; rfl
    have es : lastRows n (rs.take (i + 1)) = if r.2.1 ≤ n then putA (lastRows n (rs.take i)) r.1 r else lastRows n (rs.take i) := by
      rw [et]
      unfold lastRows
      rw [List.foldl_append]
      rfl
    have kl : kvs.length ≤ 1000 := by
      rw [KvOk.len ok]
      exact Nat.le_trans (last_len n _) (by rw [List.length_take]; omega)
    walk_at "g"
    refine i_ifd (fun hle => ?_) (fun hgt => ?_)
    · walk_at "g"
      · rename_i H4 L4
        exact ⟨_, _, rfl, L4, by rw [es, if_pos hle]; exact KvOk.put ok hd2⟩
      · exact small1000 kl
    · walk_at "g"
      exact ⟨_, _, rfl, L3, by rw [es, if_neg hgt]; exact ok⟩
  · rintro σ H3 ⟨v, kvs, rfl, L3, ok⟩
    walk_at "g"
    rw [hxl, List.take_length] at ok
    exact k H3 p kvs L3.same n2 L3.at0 ok

/-- what is known: times and worths -/
def knownL (n : Int) (rs : List Row) : List (Int × Int) := (lastRows n rs).filterMap fun p => p.2.2.2.map fun w => (p.1, w)
def pairP (p : Int × Int) : PyData := .tuple [.int p.1, .int p.2]
def pairsP (ps : List (Int × Int)) : PyData := .list (ps.map pairP)
def spKnown (K : PySem.W.Frag) : Sp := fun vs H Q _ => ∃ (a : Addr) (rs : List Row) (n : Int), vs = [.ref a, .int n] ∧ Dp K H (.ref a) (rowsP rs) ∧ rs.length ≤ 1000 ∧
  ∀ H' p, Same H H' → H p = none → Dp K H' (.ref p) (pairsP (knownL n rs)) → Q (.ref p) H'
theorem ok_known (T : Top K mg x) : FnOk P w K mg base CX0 2 x.f_known x.d_known ["rows", "number"] (spKnown K) := by
  have G_last_rows := ok_last_rows (P := P) (w := w) (K := K) (base := base) T
  refine T.d_known.F.ok sc_known (fun vs H Q E h => ?_) (fun cdv A outer s H vs Q E hr h => ?_)
  · obtain ⟨a, rs, n, rfl, hd, hl, k⟩ := h
    rfl
  obtain ⟨a, rs, n, rfl, hd, hl, k⟩ := h
  refine ⟨_, (pss_one (ps_ret (pe_lc (own := [("time", 2), ("row", 3)]) rfl sc_known.nd (pi_items (G.pe_frz (pe_call G_last_rows (hr.mono (by decide)) rfl T.d_last_rows.m T.d_last_rows.F.kp T.d_last_rows.b .nil pass0 (pa_cons (pv 0) (pa_cons (pv 1) pa_nil))))) (blkOk_by (own := [("time", 2), ("row", 3)]) (N := ["rows", "number", "time", "row"]) (sc := defScope s_known) (by decide +kernel)) (fun _ _ _ _ _ => (G.k_pg_tup (K := K) (n := 2) rfl rfl (pgs_cons (pg_name (i := 2) sc_known.nd rfl (by first | exact Or.inl rfl | exact Or.inr rfl)) (pgs_cons (pg_name (i := 3) sc_known.nd rfl (by first | exact Or.inl rfl | exact Or.inr rfl)) pgs_nil)))) (fun _ _ _ _ _ => (pts_one (pt_cmpR op_notN (pe_ix (G.k_ix_tup (K := K) rfl) (pv 3) pe_int (fun _ _ => rfl)) pe_non (nomark _)))) (fun _ _ _ _ _ => (pe_tup (pa_cons (pv 2) (pa_cons (pe_ix (G.k_ix_tup (K := K) rfl) (pv 3) pe_int (fun _ _ => rfl)) pa_nil))))))), ?_⟩
  walk_at "g"
  refine ⟨a, rs, n, rfl, hd, hl, fun H1 d kvs s1 nd ed ok => ?_⟩
  walk_at "g"
  refine ⟨d, _, rfl, ed, True.intro, fun od => ⟨d, od, kvs, rfl, upd_same, ?_⟩⟩
  generalize e2 : upd H1 d (.frz od (.dK kvs)) = H2
  have s2 : Same H H2 := e2 ▸ same_but s1 nd
  have ed2 : H2 d = some (.frz od (.dK kvs)) := e2 ▸ upd_same
  have L2 : LF H2 [] H2 := LF.nil
  have kl : kvs.length ≤ 1000 := by
    rw [KvOk.len ok]
    exact Nat.le_trans (last_len n _) hl
  refine LCN.data (K := K) (walk_items (kvs := kvs)) L2 (fun _ l => l = []) (fun i => (lastRows n rs)[i]?.bind fun p => p.2.2.2.map fun w => pairP (p.1, w)) (by omega) rfl ?_ ?_ ?_
  · rintro i D acc F2 l2 H3 sF z L
    exact L.same _ _ (sF _ _ ed2)
  · rintro i x D acc F1 l1 H3 H4 hi sF rfl L1 dp ⟨T, x', y', rfl, nT, rfl, ex, ey⟩
    obtain ⟨t, r, v, e1, e3, hv⟩ := KvOk.get ok hi
    dsimp only at ex ey
    rw [e1] at ex ey
    cases ex
    cases ey
    have L4 := LF.grow (o := .tup [.int t, v]) L1 nT
    have hT : (upd F1 T (.tup [.int t, v])) T = some (.tup [.int t, v]) := upd_same
    have sG : Same F1 (upd F1 T (.tup [.int t, v])) := same_upd (L1.free nT)
    obtain ⟨b, rfl, hb⟩ := row_inv (Dp.mono (s2.trans (sF.trans sG)) _ _ hv)
    change gTup K 2 _ _ _ (upd H3 T (.tup [V.int t, .ref b])) _
    walk_at "g"
    obtain ⟨r1, r2, r3⟩ := r
    cases r3 with
    | none => exact i_iff (by simp [optV]) (LCP.no dp sF sG rfl L4 (by rw [e3]; rfl))
    | some w =>
      refine i_ift (by simp [optV]) ?_
      walk_at "g"
      rename_i q F5 H5 nq s5 eq L5
      exact LCY.of dp sF (by omega) (sG.trans s5) rfl L5 (by rw [e3]; rfl) (by walk_at "g_dp")
  · rintro D acc F2 l2 H3 nD nF sF rfl L dp
    have L4 := L.frz
    refine k H3 D (s2.trans (sF.trans L.tl.same)) (s2.free nF) ?_
    refine .lst (.inl (.inl L.at0)) ?_
    rw [KvOk.len ok, filterMap_range] at dp
    have e : (lastRows n rs).filterMap (fun p => p.2.2.2.map fun w => pairP (p.1, w)) = (knownL n rs).map pairP := by
      unfold knownL
      rw [List.map_filterMap]
      congr 1
      funext p
      cases p.2.2.2 <;> rfl
    rw [← e]
    exact DpAll.mono L.same _ _ dp
theorem valA_put {α : Type} (k : Int) (v : α) (t : Int) : ∀ m : List (Int × α), valA (putA m k v) t = if t = k then some v else valA m t := by
  intro m
  have e1 : ∀ m : List (Int × α), valA (m.map fun p => if p.1 = k then (p.1, v) else p) t = if t = k then (valA m t).map (fun _ => v) else valA m t := by
    intro m
    induction m with
    | nil => simp [valA]
    | cons p m ih =>
      unfold valA at ih ⊢
      rw [List.map_cons]
      by_cases h1 : p.1 = k
      · rw [if_pos h1]
        by_cases h2 : p.1 = t
        · rw [List.find?_cons_of_pos (by simpa using h2), List.find?_cons_of_pos (by simpa using h2), if_pos (h2.symm.trans h1)]
          rfl
        · rw [List.find?_cons_of_neg (by simpa using h2), List.find?_cons_of_neg (by simpa using h2), ih]
      · rw [if_neg h1]
        by_cases h2 : p.1 = t
        · rw [List.find?_cons_of_pos (by simpa using h2), List.find?_cons_of_pos (by simpa using h2), if_neg (fun h => h1 (h2.trans h))]
        · rw [List.find?_cons_of_neg (by simpa using h2), List.find?_cons_of_neg (by simpa using h2), ih]
  unfold putA
  split
  · rename_i h
    rw [e1]
    split
    · rename_i ht
      subst ht
      obtain ⟨p, hp, hk⟩ := List.any_eq_true.mp h
      unfold valA
      cases e : m.find? fun p => decide (p.1 = t) with
      | none =>
        rw [List.find?_eq_none] at e
        exact absurd hk (e p hp)
      | some q => rfl
    · rfl
  · rename_i h
    unfold valA
    rw [List.find?_append]
    split
    · rename_i ht
      subst ht
      have : m.find? (fun p => decide (p.1 = t)) = none := by
        rw [List.find?_eq_none]
        intro p hp hk
        exact h (List.any_eq_true.mpr ⟨p, hp, hk⟩)
      rw [this]
      simp
    · rename_i ht
      have : [(k, v)].find? (fun p => decide (p.1 = t)) = none := by
        rw [List.find?_cons_of_neg (by simpa using fun h => ht h.symm)]
        rfl
      rw [this]
      simp
/-- the rows of a time up to a number -/
def upTo (n t : Int) (r : Row) : Bool := decide (r.1 = t) && decide (r.2.1 ≤ n)
theorem val_last (n t : Int) (rs : List Row) : valA (lastRows n rs) t = (rs.filter (upTo n t)).getLast? := by
  have : ∀ (rs : List Row) (m : List (Int × Row)), valA (rs.foldl (fun m r => if r.2.1 ≤ n then putA m r.1 r else m) m) t = ((rs.filter (upTo n t)).getLast?).or (valA m t) := by
    intro rs
    induction rs with
    | nil => intro m; rfl
    | cons r rs ih =>
      intro m
      rw [List.foldl_cons, ih]
      by_cases h1 : r.2.1 ≤ n
      · rw [if_pos h1, valA_put]
        by_cases h2 : r.1 = t
        · rw [if_pos h2.symm, List.filter_cons_of_pos (by simp [upTo, h1, h2]), List.getLast?_cons]
          cases (rs.filter (upTo n t)).getLast? <;> rfl
        · rw [if_neg (fun h => h2 h.symm), List.filter_cons_of_neg (by simp [upTo, h2])]
      · rw [if_neg h1, List.filter_cons_of_neg (by simp [upTo, h1])]
  have h := this rs []
  rw [show valA ([] : List (Int × Row)) t = none from rfl, Option.or_none] at h
  exact h
theorem val_some {n : Int} {rs : List Row} {r : Row} (h : r ∈ rs) (hn : r.2.1 ≤ n) : ∃ r', valA (lastRows n rs) r.1 = some r' := by
  rw [val_last]
  have : r ∈ rs.filter (upTo n r.1) := List.mem_filter.mpr ⟨h, by simp [upTo, hn]⟩
  cases e : (rs.filter (upTo n r.1)).getLast? with
  | none =>
    rw [List.getLast?_eq_none_iff] at e
    rw [e] at this
    cases this
  | some q => exact ⟨q, rfl⟩
def thinP (n : Int) (rs : List Row) (r : Row) : Bool := decide (n < r.2.1) || (decide (valA (lastRows n rs) r.1 = some r) && r.2.2.isSome)
def thinL (n : Int) (rs : List Row) : List Row := rs.filter (thinP n rs)
def spThin (K : PySem.W.Frag) : Sp := fun vs H Q _ => ∃ (a : Addr) (rs : List Row) (n : Int), vs = [.ref a, .int n] ∧ Dp K H (.ref a) (rowsP rs) ∧ rs.length ≤ 1000 ∧
  ∀ H' p xs, Same H H' → H p = none → H' p = some (.lst xs) → DpAll K H' xs ((thinL n rs).map rowP) → Q (.ref p) H'
theorem ok_thinned (T : Top K mg x) : FnOk P w K mg base CX0 2 x.f_thinned x.d_thinned ["rows", "number"] (spThin K) := by
  have G_last_rows := ok_last_rows (P := P) (w := w) (K := K) (base := base) T
  refine T.d_thinned.F.ok sc_thinned (fun vs H Q E h => ?_) (fun cdv A outer s H vs Q E hr h => ?_)
  · obtain ⟨a, rs, n, rfl, hd, hl, k⟩ := h
    rfl
  obtain ⟨a, rs, n, rfl, hd, hl, k⟩ := h
  refine ⟨_, (pss_cons (ps_set (i := 2) sc_thinned.nd rfl (by first | exact Or.inl rfl | exact Or.inr rfl) (pe_call G_last_rows (hr.mono (by decide)) rfl T.d_last_rows.m T.d_last_rows.F.kp T.d_last_rows.b .nil pass0 (pa_cons (pv 0) (pa_cons (pv 1) pa_nil))))
    (pss_one (ps_ret (pe_lc (own := [("row", 3)]) rfl sc_thinned.nd (pi_list (pv 0)) (blkOk_by (own := [("row", 3)]) (N := ["rows", "number", "last", "row"]) (sc := defScope s_thinned) (by decide +kernel)) (fun _ _ _ _ _ => (pg_name (i := 3) sc_thinned.nd rfl (by first | exact Or.inl rfl | exact Or.inr rfl))) (fun _ _ _ _ _ => (pts_one (PW.pt (pw_or (pt_cmpR op_gt (pe_ix (G.k_ix_tup (K := K) rfl) (pv 3) pe_int (fun _ _ => rfl)) (pv 1) (nomark _)) (pw_or1 (PW.pt (pw_and (pt_cmpR (G.k_eqD (K := K) rfl hr.units) (pe_dget (hu_of hr) (pv 2) (pe_ix (G.k_ix_tup (K := K) rfl) (pv 3) pe_int (fun _ _ => rfl)) (fun _ _ => rfl)) (pv 3) (nomark _)) (pw_and1 (pt_cmpR op_notN (pe_ix (G.k_ix_tup (K := K) rfl) (pv 3) pe_int (fun _ _ => rfl)) pe_non (nomark _)))))))))) (fun _ _ _ _ _ => (pv 3)))))), ?_⟩
  obtain ⟨_, xs, e, hs, ha⟩ := Dp.list_inv hd
  cases e
  walk_at "g"
  refine ⟨a, rs, n, rfl, hd, hl, fun H1 d kvs s1 nd ed ok => ?_⟩
  have L1 : LF H1 [] H1 := LF.nil
  have hs1 := s1.seq hs
  have ha1 := DpAll.mono s1 _ _ ha
  walk_at "g"
  have hxl : xs.length = rs.length := by rw [DpAll.len ha, List.length_map]
  refine LCN.data (K := K) (walk_list (xs := xs)) L1 (fun _ l => l = []) (fun i => rs[i]?.bind fun r => if thinP n rs r = true then some (rowP r) else none) (by omega) rfl ?_ ?_ ?_
  · rintro i D acc F2 l2 H3 sF z L
    exact (sF.trans L.same).seq hs1
  · rintro i x D acc F1 l1 H3 H4 hi sF rfl L1 dp ⟨rfl, hx⟩
    obtain ⟨d1, hd1, hd2⟩ := DpAll.get (DpAll.mono sF _ _ ha1) hx
    obtain ⟨r, hr1, rfl⟩ : ∃ r, rs[i]? = some r ∧ rowP r = d1 := by
      rw [List.getElem?_map] at hd1
      cases e : rs[i]? with
      | none => rw [e] at hd1; cases hd1
      | some r => rw [e] at hd1; exact ⟨r, rfl, Option.some.inj hd1⟩
    obtain ⟨b, rfl, hb⟩ := row_inv hd2
    have edF : F1 d = some (.dK kvs) := sF _ _ ed
    have okF := KvOk.mono (s1.trans sF) ok
    have hrm : r ∈ rs := List.mem_of_getElem? hr1
    walk_at "g"
    refine i_ifd (fun hlt => ?_) (fun hge => ?_)
    · walk_at "g"
      refine i_ift rfl ?_
      walk_at "g"
      exact LCY.of dp sF (by omega) (Same.refl _) rfl L1 (by rw [hr1]; simp [thinP, hlt]) hd2
    · walk_at "g"
      obtain ⟨r', hv⟩ := val_some hrm (n := n) (by omega)
      obtain ⟨v, hv1, hv2⟩ := KvOk.val okF hv
      refine j_dgetI (L1.atF edF) hv1 ?_
      walk_at "g"
      refine i_eqRow (Dp.mono L1.same _ _ hv2) (Dp.mono L1.same _ _ hd2) ?_
      walk_at "g"
      refine i_ifd (fun he => ?_) (fun hne => ?_)
      · walk_at "g"
        subst he
        obtain ⟨r1, r2, r3⟩ := r'
        cases r3 with
        | none =>
          have hge' : r2 ≤ n := by simpa using hge
          exact i_iff (by simp [optV]) (LCP.no dp sF (Same.refl _) rfl L1 (by rw [hr1]; simp [thinP]; omega))
        | some w =>
          refine i_ift (by simp [optV]) ?_
          walk_at "g"
          exact LCY.of dp sF (by omega) (Same.refl _) rfl L1 (by rw [hr1]; simp [thinP, hv]) hd2
      · refine i_iff rfl ?_
        exact LCP.no dp sF (Same.refl _) rfl L1 (by rw [hr1]; simp [thinP, hv, hne]; omega)
  · rintro D acc F2 l2 H3 nD nF sF rfl L dp
    have L4 := L.frz
    refine k H3 D acc (s1.trans (sF.trans L.tl.same)) (s1.free nD) L.at0 ?_
    rw [hxl, filterMap_range] at dp
    have e : rs.filterMap (fun r => if thinP n rs r = true then some (rowP r) else none) = (thinL n rs).map rowP := by
      unfold thinL
      rw [← List.filterMap_eq_filter, List.map_filterMap]
      congr 1
      funext r
      cases h : thinP n rs r <;> simp [h, Option.guard]
    rw [← e]
    exact DpAll.mono L.same _ _ dp
/-! ### two lists poured into one -/
def leK (a b : Row) : Prop := a.1 < b.1 ∨ a.1 = b.1 ∧ a.2.1 ≤ b.2.1
instance (a b : Row) : Decidable (leK a b) := by unfold leK; infer_instance
def ltR (a b : Row) : Prop := a.1 < b.1 ∨ a.1 = b.1 ∧ a.2.1 < b.2.1
def pushR (acc : List Row) (r : Row) : List Row := if acc.getLast? = some r then acc else acc ++ [r]
def pour : Nat → List Row → List Row → List Row → List Row
  | 0, _, _, acc => acc
  | _ + 1, [], [], acc => acc
  | n + 1, a :: one, [], acc => pour n one [] (pushR acc a)
  | n + 1, [], b :: two, acc => pour n [] two (pushR acc b)
  | n + 1, a :: one, b :: two, acc => if leK a b then pour n one (b :: two) (pushR acc a) else pour n (a :: one) two (pushR acc b)
theorem pour_one {n : Nat} {a : Row} {one two acc : List Row} (h : ∀ b, two.head? = some b → leK a b) : pour (n + 1) (a :: one) two acc = pour n one two (pushR acc a) := by
  cases two with
  | nil => rfl
  | cons b two =>
    rw [pour, if_pos (h b rfl)]
theorem pour_two {n : Nat} {b : Row} {one two acc : List Row} (h : ∀ a, one.head? = some a → ¬ leK a b) : pour (n + 1) one (b :: two) acc = pour n one two (pushR acc b) := by
  cases one with
  | nil => rfl
  | cons a one =>
    rw [pour, if_neg (h a rfl)]
theorem push_new {acc : List Row} {r : Row} (h : acc.getLast? ≠ some r) : pushR acc r = acc ++ [r] := if_neg h
theorem push_old {acc : List Row} {r : Row} : pushR (acc ++ [r]) r = acc ++ [r] := if_pos (by simp)
theorem head_mem {rs : List Row} {p : Row → Bool} {a : Row} (h : (rs.filter p).head? = some a) : a ∈ rs := (List.mem_filter.mp (List.mem_of_head? h)).1
theorem lt_le {a b : Row} (h : ltR a b) : leK a b := by
  unfold ltR at h
  unfold leK
  omega
theorem lt_nle {a b : Row} (h : ltR a b) : ¬ leK b a := by
  unfold ltR at h
  unfold leK
  omega
theorem lt_ne {a b : Row} (h : ltR a b) : a ≠ b := fun e => by
  subst e
  unfold ltR at h
  omega
theorem le_self (a : Row) : leK a a := .inr ⟨rfl, Int.le_refl _⟩
theorem pour_filter (p q : Row → Bool) : ∀ (rs acc : List Row) (n : Nat), rs.Pairwise ltR → (∀ r ∈ rs, acc.getLast? ≠ some r) → n = (rs.filter p).length + (rs.filter q).length →
    pour n (rs.filter p) (rs.filter q) acc = acc ++ rs.filter fun r => p r || q r := by
  intro rs
  induction rs with
  | nil =>
    intro acc n _ _ hn
    subst hn
    show acc = acc ++ []
    simp
  | cons r rs ih =>
    intro acc n hs hl hn
    rw [List.pairwise_cons] at hs
    have hn1 : acc.getLast? ≠ some r := hl r (List.mem_cons_self ..)
    have hl2 : ∀ x ∈ rs, (acc ++ [r]).getLast? ≠ some x := fun x hx e => by
      simp at e
      exact lt_ne (hs.1 x hx) e
    cases hp : p r <;> cases hq : q r
    · rw [List.filter_cons_of_neg (by simp [hp]), List.filter_cons_of_neg (by simp [hq]), List.filter_cons_of_neg (by simp [hp, hq])]
      rw [List.filter_cons_of_neg (by simp [hp]), List.filter_cons_of_neg (by simp [hq])] at hn
      exact ih acc n hs.2 (fun x hx => hl x (List.mem_cons_of_mem _ hx)) hn
    · rw [List.filter_cons_of_neg (by simp [hp]), List.filter_cons_of_pos (by simp [hq])] at hn ⊢
      rw [List.filter_cons_of_pos (by simp [hp, hq])]
      obtain ⟨m, rfl⟩ : ∃ m, n = m + 1 := ⟨n - 1, by simp at hn; omega⟩
      rw [pour_two fun a ha => lt_nle (hs.1 a (head_mem ha)), push_new hn1, ih _ m hs.2 hl2 (by simp at hn; omega)]
      simp
    · rw [List.filter_cons_of_pos (by simp [hp]), List.filter_cons_of_neg (by simp [hq])] at hn ⊢
      rw [List.filter_cons_of_pos (by simp [hp, hq])]
      obtain ⟨m, rfl⟩ : ∃ m, n = m + 1 := ⟨n - 1, by simp at hn; omega⟩
      rw [pour_one fun b hb => lt_le (hs.1 b (head_mem hb)), push_new hn1, ih _ m hs.2 hl2 (by simp at hn; omega)]
      simp
    · rw [List.filter_cons_of_pos (by simp [hp]), List.filter_cons_of_pos (by simp [hq])] at hn ⊢
      rw [List.filter_cons_of_pos (by simp [hp, hq])]
      obtain ⟨m, rfl⟩ : ∃ m, n = m + 2 := ⟨n - 2, by simp at hn; omega⟩
      rw [pour_one (fun b hb => by cases hb; exact le_self r), push_new hn1, pour_two fun a ha => lt_nle (hs.1 a (head_mem ha)), push_old, ih _ m hs.2 hl2 (by simp at hn; omega)]
      simp
theorem rows_eqv (a b : List Row) : PyData.eqv (rowsP a) (rowsP b) = decide (a = b) := by
  have : ∀ a b : List Row, PyData.eqvAll (a.map rowP) (b.map rowP) = decide (a = b) := by
    intro a
    induction a with
    | nil => intro b; cases b <;> rfl
    | cons r a ih =>
      intro b
      cases b with
      | nil => rfl
      | cons u b =>
        have e : PyData.eqvAll ((r :: a).map rowP) ((u :: b).map rowP) = (PyData.eqv (rowP r) (rowP u) && PyData.eqvAll (a.map rowP) (b.map rowP)) := rfl
        rw [e, row_eqv, ih, Bool.eq_iff_iff]
        simp
  exact this a b
theorem i_eqRows {H : Hp} {Q : VK} {v w : V} {a b : List Row} (h1 : Dp K H v (rowsP a)) (h2 : Dp K H w (rowsP b)) (h : Q (.bl (decide (a = b))) H) : rEqD K v w H Q :=
  ⟨rowsP a, rowsP b, h1, h2, (rows_lay a).shaped (by decide), (rows_lay b).shaped (by decide), by rw [rows_eqv]; exact h⟩
theorem i_neRows {H : Hp} {Q : VK} {v w : V} {a b : List Row} (h1 : Dp K H v (rowsP a)) (h2 : Dp K H w (rowsP b)) (h : Q (.bl (!decide (a = b))) H) : rNeD K v w H Q :=
  ⟨rowsP a, rowsP b, h1, h2, (rows_lay a).shaped (by decide), (rows_lay b).shaped (by decide), by rw [rows_eqv]; exact h⟩
theorem i_ixRow {H F : Hp} {Q : VK} {a : Addr} {xs : List V} {rs : List Row} {i : Nat} {r : Row} (s : Same F H) (hs : SqL K F a xs) (ha : DpAll K F xs (rs.map rowP)) (e : rs[i]? = some r) (h : ∀ b, SqT K F b [.int r.1, .int r.2.1, optV r.2.2] → Dp K F (.ref b) (rowP r) → Q (.ref b) H) : rIxL K (.ref a) (.int i) H Q := by
  obtain ⟨v, e1, dv⟩ := DpAll.getD (d := rowP r) ha (i := i) (by rw [List.getElem?_map, e]; rfl)
  obtain ⟨b, rfl, hb⟩ := row_inv dv
  exact i_ixLS (s.seq hs) (atI_nat e1) (h b hb dv)
theorem i_leT2 {H : Hp} {Q : VK} {p q : Addr} {a b c d : Int} (h1 : H p = some (.tup [.int a, .int b])) (h2 : H q = some (.tup [.int c, .int d])) (h : Q (.bl (decide (a < c ∨ a = c ∧ b ≤ d))) H) : rLeT K (.ref p) (.ref q) H Q := by
  refine ⟨p, q, [a, b], [c, d], rfl, rfl, .inl (.inl h1), .inl (.inl h2), ?_⟩
  have e : Ob.lexAt (fun j => decide ([a, b].getD j 0 = [c, d].getD j 0)) (fun j => decide ([a, b].getD j 0 ≤ [c, d].getD j 0)) (decide ([a, b].length ≤ [c, d].length)) 0 (min [a, b].length [c, d].length) = decide (a < c ∨ a = c ∧ b ≤ d) := by
    have e1 : min [a, b].length [c, d].length = 2 := rfl
    rw [e1, Ob.lexAt_succ, Ob.lexAt_succ, Ob.lexAt_zero]
    simp only [List.getD_cons_zero, List.getD_cons_succ, List.length_cons, List.length_nil]
    rw [Bool.eq_iff_iff]
    by_cases h1 : a = c
    · by_cases h2 : b = d
      · simp [h1, h2]
      · simp [h1, h2]
    · simp [h1]
      omega
  rw [e]
  exact h
theorem cut_last (ts : List V) : cutV ts (some (-1)) none = ts.drop (ts.length - 1) := by
  unfold cutV
  have e1 : HT.sIx ts.length 0 (some (-1)) = ts.length - 1 := by
    show (if (-1 : Int) < 0 then ((-1 : Int) + (ts.length : Int)).toNat else min (-1 : Int).toNat ts.length) = _
    rw [if_pos (by decide)]
    omega
  rw [e1, HT.sIx_none]
  exact List.take_of_length_le (by rw [List.length_drop]; omega)
theorem drop_get {α : Type} {rs : List α} {i : Nat} {r : α} (h : rs[i]? = some r) : rs.drop i = r :: rs.drop (i + 1) := by
  obtain ⟨hi, e⟩ := List.getElem?_eq_some_iff.mp h
  rw [List.drop_eq_getElem_cons hi, e]
theorem last_iff (told : List Row) (r : Row) : told.drop (told.length - 1) = [r] ↔ told.getLast? = some r := by
  rcases List.eq_nil_or_concat told with rfl | ⟨l, x, rfl⟩
  · simp
  · simp
theorem rows_get {H : Hp} {xs : List V} {rs : List Row} {i : Nat} {x : V} (ha : DpAll K H xs (rs.map rowP)) (hx : xs[i]? = some x) : ∃ r, rs[i]? = some r ∧ ∃ b, x = .ref b ∧ SqT K H b [.int r.1, .int r.2.1, optV r.2.2] := by
  obtain ⟨d, hd1, hd2⟩ := DpAll.get ha hx
  rw [List.getElem?_map] at hd1
  cases e : rs[i]? with
  | none => rw [e] at hd1; cases hd1
  | some r =>
    rw [e] at hd1
    cases hd1
    obtain ⟨b, rfl, hb⟩ := row_inv hd2
    exact ⟨r, rfl, b, rfl, hb⟩
theorem nodup_len {α : Type} [DecidableEq α] : ∀ {l m : List α}, l.Pairwise (· ≠ ·) → (∀ x ∈ l, x ∈ m) → l.length ≤ m.length
  | [], _, _, _ => Nat.zero_le _
  | x :: l, m, h, hm => by
    rw [List.pairwise_cons] at h
    have hx : x ∈ m := hm x (List.mem_cons_self ..)
    have := nodup_len (l := l) (m := m.erase x) h.2 fun y hy => (List.mem_erase_of_ne (h.1 y hy).symm).mpr (hm y (List.mem_cons_of_mem _ hy))
    rw [List.length_erase_of_mem hx] at this
    have := List.length_pos_of_mem hx
    rw [List.length_cons]
    omega
theorem filterMap_if {α β : Type} (g : α → β) (p : α → Bool) : ∀ xs : List α, xs.filterMap (fun x => if p x = true then some (g x) else none) = (xs.filter p).map g
  | [] => rfl
  | x :: xs => by
    rw [List.filterMap_cons]
    cases h : p x
    · rw [List.filter_cons_of_neg (by simp [h])]
      exact filterMap_if g p xs
    · rw [List.filter_cons_of_pos h, List.map_cons, ← filterMap_if g p xs]
      rfl
theorem lf_cut {F H : Hp} {a : Addr} {o : HO} {l : List (Addr × HO)} (L : LF F ((a, o) :: l) H) : Same F (cut H a) := fun b u e => by
  rw [cut_ne (ne_of_none e (L.new (a, o) (List.mem_cons_self ..)))]
  exact L.same b u e
theorem cut_cut {H H' : Hp} {a : Addr} (k : But a H H') : Same (cut H a) (cut H' a) := fun b u e => by
  by_cases h : b = a
  · subst h
    rw [cut_same] at e
    cases e
  · rw [cut_ne h] at e ⊢
    exact k b u e h
theorem cut_free {F H H' : Hp} {a q : Addr} {o : HO} {l : List (Addr × HO)} (L : LF F ((q, o) :: l) H') (s : Same (cut H a) F) (n : q ≠ a) : H q = none := by
  cases e : H q with
  | none => rfl
  | some u =>
    have h := s q u (by rw [cut_ne n]; exact e)
    rw [L.new (q, o) (List.mem_cons_self ..)] at h
    cases h
theorem take_lt {ys : List Int} {i : Nat} {t x : Int} (h : ys.Pairwise (· < ·)) (e : ys[i]? = some t) (hx : x ∈ ys.take i) : x < t := by
  obtain ⟨j, hj, rfl⟩ := List.mem_iff_getElem.mp hx
  obtain ⟨hi, rfl⟩ := List.getElem?_eq_some_iff.mp e
  rw [List.length_take] at hj
  rw [List.getElem_take]
  exact List.pairwise_iff_getElem.mp h j i (by omega) hi (by omega)
theorem i_eqPair {H : Hp} {Q : VK} {p q : Addr} {a b c d : Int} (h1 : H p = some (.tup [.int a, .int b])) (h2 : H q = some (.tup [.int c, .int d])) (h : Q (.bl (decide (a = c ∧ b = d))) H) : rEqD K (.ref p) (.ref q) H Q := by
  have dt : ∀ (p : Addr) (a b : Int), H p = some (.tup [.int a, .int b]) → Dp K H (.ref p) (.tuple [.int a, .int b]) := fun p a b e => .tup (.inl (.inl e)) (.cons (.int _) (.cons (.int _) .nil))
  have ly : ∀ a b : Int, Lay 1 (.tuple [.int a, .int b]) := fun a b => Lay.tuple fun d hd => by
    have : d = .int a ∨ d = .int b := by simpa using hd
    rcases this with rfl | rfl
    · exact Lay.int _ _
    · exact Lay.int _ _
  refine ⟨_, _, dt p a b h1, dt q c d h2, (ly a b).shaped (by decide), (ly c d).shaped (by decide), ?_⟩
  have e : PyData.eqv (.tuple [.int a, .int b]) (.tuple [.int c, .int d]) = decide (a = c ∧ b = d) := by
    have e1 : PyData.eqv (.tuple [.int a, .int b]) (.tuple [.int c, .int d]) = ((a == c) && ((b == d) && true)) := rfl
    rw [e1, Bool.eq_iff_iff]
    simp
  rw [e]
  exact h
def spPour (K : PySem.W.Frag) : Sp := fun vs H Q _ => ∃ (F0 : Hp) (a b : Addr) (one two : List Row), vs = [.ref a, .ref b] ∧ Same F0 H ∧ Dp K F0 (.ref a) (rowsP one) ∧ Dp K F0 (.ref b) (rowsP two) ∧ one.length + two.length ≤ 1000 ∧
  ∀ H' p xs, Same H H' → H p = none → H' p = some (.lst xs) → DpAll K F0 xs ((pour (one.length + two.length) one two []).map rowP) → Q (.ref p) H'
theorem ok_poured (T : Top K mg x) : FnOk P w K mg base CX0 1 x.f_poured x.d_poured ["one", "two"] (spPour K) := by
  refine T.d_poured.F.ok sc_poured (fun vs H Q E h => ?_) (fun cdv A outer s H vs Q E hr h => ?_)
  · obtain ⟨F0, a, b, one, two, rfl, s0, hd1, hd2, hl, k⟩ := h
    rfl
  obtain ⟨F0, a, b, one, two, rfl, s0, hd1, hd2, hl, k⟩ := h
  refine ⟨_, (pss_cons (ps_set (i := 2) sc_poured.nd rfl (Or.inl rfl) (pe_lst pa_nil))
    (pss_cons (ps_asg (pe_tup (pa_cons pe_int (pa_cons pe_int pa_nil))) (pg_tup (n := 2) rfl (pgs_cons (pg_name (i := 3) sc_poured.nd rfl (Or.inl rfl)) (pgs_cons (pg_name (i := 4) sc_poured.nd rfl (Or.inl rfl)) pgs_nil))))
    (pss_cons (ps_while PassesOwn.never (PW.pt (pw_or (pt_cmpR op_lt (pv 3) (pe_callB G.c_len (by rfl) T.n_len PySem.boot_len (pa_cons (pv 0) pa_nil)) (nomark _)) (pw_or1 (pt_cmpR op_lt (pv 4) (pe_callB G.c_len (by rfl) T.n_len PySem.boot_len (pa_cons (pv 1) pa_nil)) (nomark _))))) (pss_cons (ps_if (PW.pt (pw_or (pt_cmpR op_eq (pv 4) (pe_callB G.c_len (by rfl) T.n_len PySem.boot_len (pa_cons (pv 1) pa_nil)) (nomark _)) (pw_or1 (PW.pt (pw_and (pt_cmpR op_lt (pv 3) (pe_callB G.c_len (by rfl) T.n_len PySem.boot_len (pa_cons (pv 0) pa_nil)) (nomark _)) (pw_and1 (pt_cmpR (op_leT hr.units0) (pe_slice sl_tup (pe_ix ix_list (pv 0) (pv 3) (fun _ _ => rfl)) po_none (po_some pe_int)) (pe_slice sl_tup (pe_ix ix_list (pv 1) (pv 4) (fun _ _ => rfl)) po_none (po_some pe_int)) (nomark _)))))))) (pss_cons (ps_set (i := 5) sc_poured.nd rfl (Or.inl rfl) (pe_ix ix_list (pv 0) (pv 3) (fun _ _ => rfl)))
    (pss_one (ps_aug (i := 3) sc_poured.nd rfl (Or.inl rfl) pe_int ip_add))) (pss_cons (ps_set (i := 5) sc_poured.nd rfl (Or.inl rfl) (pe_ix ix_list (pv 1) (pv 4) (fun _ _ => rfl)))
    (pss_one (ps_aug (i := 4) sc_poured.nd rfl (Or.inl rfl) pe_int ip_add))))
    (pss_one (ps_if (pt_cmpR (op_neD hr.units) (pe_slice sl_list (pv 2) (po_some (pe_un un_neg pe_int)) po_none) (pe_lst (pa_cons (pv 5) pa_nil)) (nomark _)) (pss_one (ps_expr (pe_bm PySem.F.plainAttrs_list PySem.F.slot_list_append PySem.F.type_list_append mt_append (pv 2) (pa_cons (pv 5) pa_nil)))) pss_nil))))
    (pss_one (ps_ret (pv 2)))))), ?_⟩
  obtain ⟨_, xs, e, hs1, ha1⟩ := Dp.list_inv hd1
  cases e
  obtain ⟨_, ys, e, hs2, ha2⟩ := Dp.list_inv hd2
  cases e
  have hx : xs.length = one.length := by rw [DpAll.len ha1, List.length_map]
  have hy : ys.length = two.length := by rw [DpAll.len ha2, List.length_map]
  have L0 : LF H [] H := LF.nil
  walk_at "g"
  rename_i p H2 n2 L2 t F3 H3 n3 s3 et L3
  refine i_while (fun m σ H' => ∃ (i j : Nat) (told : List Row) (ts : List V) (v : Option V) (F : Hp), σ = [some (.ref a), some (.ref b), some (.ref p), some (.int i), some (.int j), v] ∧ i ≤ one.length ∧ j ≤ two.length ∧ m = (one.length - i) + (two.length - j) ∧
      Same H F ∧ F p = none ∧ LF F [(p, .lst ts)] H' ∧ DpAll K F0 ts (told.map rowP) ∧ told.length ≤ i + j ∧ pour m (one.drop i) (two.drop j) told = pour (one.length + two.length) one two []) (one.length + two.length)
    ⟨0, 0, [], [], none, F3, rfl, Nat.zero_le _, Nat.zero_le _, rfl, s3, L3.new _ (List.mem_cons_self ..), L3, .nil, Nat.le_refl _, rfl⟩ ?_
  rintro m σ H' ⟨i, j, told, ts, v, F, rfl, hi, hj, rfl, sF, nF, L, dp, htl, hpo⟩
  have hf1 := sF.seq (s0.seq hs1)
  have hf2 := sF.seq (s0.seq hs2)
  walk_at "g"
  have hx' : (xs.length : Int) = one.length := by rw [hx]
  have hy' : (ys.length : Int) = two.length := by rw [hy]
  refine i_ifd (fun h1 => ?_) (fun h1 => ?_)
  rotate_left
  walk_at "g"
  refine i_ifd (fun h2 => ?_) (fun h2 => ?_)
  rotate_left
  · walk_at "g"
    have ei : i = one.length := by omega
    have ej : j = two.length := by omega
    have e0 : (one.length - i) + (two.length - j) = 0 := by omega
    rw [e0] at hpo
    exact k _ p ts (sF.trans L.same) (sF.free nF) L.at0 (hpo ▸ dp)
  all_goals
    have hor : i < one.length ∨ j < two.length := by omega
    first | refine i_ift rfl ?_ | skip
    walk_at "g"
    refine i_ifd (fun c1 => ?_) (fun c1 => ?_)
    · refine i_ift rfl ?_
      walk_at "g"
      have hi1 : i < one.length := by omega
      obtain ⟨r, hr1⟩ : ∃ r, one[i]? = some r := ⟨one[i], List.getElem?_eq_getElem hi1⟩
      have hh : ∀ b, (two.drop j).head? = some b → leK r b := fun b hb => by
        rw [List.drop_eq_nil_of_le (by omega)] at hb
        cases hb
      refine i_ixRow (F := F0) (s0.trans (sF.trans L.same)) hs1 ha1 hr1 fun c hc dc => ?_
      walk_at "g"
      rename_i q1 H1 m1 M1 q2 H2 m2 M2
      have et : ts.length = told.length := by rw [DpAll.len dp, List.length_map]
      refine i_neRows (a := told.drop (told.length - 1)) (b := [r]) (.lst (.inl (.inl M2.at1)) (by
        rw [cut_last, List.map_drop, et]
        exact DpAll.drop _ (DpAll.mono (s0.trans (sF.trans M2.same)) _ _ dp))) (.lst (.inl (.inl M2.at0)) (.cons (Dp.mono (s0.trans (sF.trans M2.same)) _ _ dc) .nil)) ?_
      walk_at "g"
      have hpp : pour ((one.length - i) + (two.length - j)) (one.drop i) (two.drop j) told = pour ((one.length - (i + 1)) + (two.length - j)) (one.drop (i + 1)) (two.drop j) (pushR told r) := by
        have em : (one.length - i) + (two.length - j) = ((one.length - (i + 1)) + (two.length - j)) + 1 := by omega
        rw [em, drop_get hr1]
        exact pour_one (hh)
      refine i_ifnd (fun hne => ?_) (fun heq => ?_)
      · walk_at "g"
        · rename_i H3 M3
          refine ⟨_, ?_, i + 1, j, told ++ [r], _, _, F, rfl, by omega, by omega, rfl, sF, L.new _ (List.mem_cons_self ..), M3.tl.tl, ?_, ?_, ?_⟩
          · omega
          · rw [List.map_append]
            exact DpAll.app dp (.cons dc .nil)
          · simp; omega
          · rw [← hpo, hpp, push_new (fun h => hne ((last_iff _ _).mpr h))]
        · rw [et, sizeLine_eq]; omega
      · walk_at "g"
        refine ⟨_, ?_, i + 1, j, told, _, _, F, rfl, by omega, by omega, rfl, sF, L.new _ (List.mem_cons_self ..), M2.tl.tl, dp, by omega, ?_⟩
        · omega
        · rw [← hpo, hpp]
          unfold pushR
          rw [if_pos ((last_iff _ _).mp heq)]
    · walk_at "g"
      refine i_ifd (fun c2 => ?_) (fun c2 => ?_)
      · walk_at "g"
        have hi1 : i < one.length := by omega
        have hj1 : j < two.length := by omega
        obtain ⟨r1, hr1⟩ : ∃ r, one[i]? = some r := ⟨one[i], List.getElem?_eq_getElem hi1⟩
        obtain ⟨r2, hr2⟩ : ∃ r, two[j]? = some r := ⟨two[j], List.getElem?_eq_getElem hj1⟩
        refine i_ixRow (F := F0) (s0.trans (sF.trans L.same)) hs1 ha1 hr1 fun c1 hc1 dc1 => ?_
        have hc1 := Same.tup (s0.trans sF) hc1
        walk_at "g"
        rename_i t1 F4 H4 n4 s4 e4 L4
        refine i_ixRow (F := F0) (s0.trans ((sF.trans s4).trans L4.same)) hs2 ha2 hr2 fun c2 hc2 dc2 => ?_
        have hc2 := Same.tup (s0.trans (sF.trans s4)) hc2
        walk_at "g"
        rename_i t2 F5 H5 n5 s5 e5 L5
        have sF5 := (sF.trans s4).trans s5
        refine i_leT2 (L5.atF (s5 _ _ e4)) (L5.atF e5) ?_
        walk_at "g"
        refine i_ifd (fun c3 => ?_) (fun c3 => ?_)
        · walk_at "g"
          have hh : ∀ b, (two.drop j).head? = some b → leK r1 b := fun b hb => by
            rw [drop_get hr2] at hb
            cases hb
            exact c3
          refine i_ixRow (F := F0) (s0.trans (sF5.trans L5.same)) hs1 ha1 hr1 fun c hc dc => ?_
          walk_at "g"
          rename_i q1 H1 m1 M1 q2 H2 m2 M2
          have et : ts.length = told.length := by rw [DpAll.len dp, List.length_map]
          refine i_neRows (a := told.drop (told.length - 1)) (b := [r1]) (.lst (.inl (.inl M2.at1)) (by
            rw [cut_last, List.map_drop, et]
            exact DpAll.drop _ (DpAll.mono (s0.trans (sF5.trans M2.same)) _ _ dp))) (.lst (.inl (.inl M2.at0)) (.cons (Dp.mono (s0.trans (sF5.trans M2.same)) _ _ dc) .nil)) ?_
          walk_at "g"
          have hpp : pour ((one.length - i) + (two.length - j)) (one.drop i) (two.drop j) told = pour ((one.length - (i + 1)) + (two.length - j)) (one.drop (i + 1)) (two.drop j) (pushR told r1) := by
            have em : (one.length - i) + (two.length - j) = ((one.length - (i + 1)) + (two.length - j)) + 1 := by omega
            rw [em, drop_get hr1]
            exact pour_one (hh)
          refine i_ifnd (fun hne => ?_) (fun heq => ?_)
          · walk_at "g"
            · rename_i H3 M3
              refine ⟨_, ?_, i + 1, j, told ++ [r1], _, _, F5, rfl, by omega, by omega, rfl, sF5, L5.new _ (List.mem_cons_self ..), M3.tl.tl, ?_, ?_, ?_⟩
              · omega
              · rw [List.map_append]
                exact DpAll.app dp (.cons dc .nil)
              · simp; omega
              · rw [← hpo, hpp, push_new (fun h => hne ((last_iff _ _).mpr h))]
            · rw [et, sizeLine_eq]; omega
          · walk_at "g"
            refine ⟨_, ?_, i + 1, j, told, _, _, F5, rfl, by omega, by omega, rfl, sF5, L5.new _ (List.mem_cons_self ..), M2.tl.tl, dp, by omega, ?_⟩
            · omega
            · rw [← hpo, hpp]
              unfold pushR
              rw [if_pos ((last_iff _ _).mp heq)]
        · walk_at "g"
          have hh : ∀ a, (one.drop i).head? = some a → ¬ leK a r2 := fun b hb => by
            rw [drop_get hr1] at hb
            cases hb
            exact c3
          refine i_ixRow (F := F0) (s0.trans (sF5.trans L5.same)) hs2 ha2 hr2 fun c hc dc => ?_
          walk_at "g"
          rename_i q1 H1 m1 M1 q2 H2 m2 M2
          have et : ts.length = told.length := by rw [DpAll.len dp, List.length_map]
          refine i_neRows (a := told.drop (told.length - 1)) (b := [r2]) (.lst (.inl (.inl M2.at1)) (by
            rw [cut_last, List.map_drop, et]
            exact DpAll.drop _ (DpAll.mono (s0.trans (sF5.trans M2.same)) _ _ dp))) (.lst (.inl (.inl M2.at0)) (.cons (Dp.mono (s0.trans (sF5.trans M2.same)) _ _ dc) .nil)) ?_
          walk_at "g"
          have hpp : pour ((one.length - i) + (two.length - j)) (one.drop i) (two.drop j) told = pour ((one.length - i) + (two.length - (j + 1))) (one.drop i) (two.drop (j + 1)) (pushR told r2) := by
            have em : (one.length - i) + (two.length - j) = ((one.length - i) + (two.length - (j + 1))) + 1 := by omega
            rw [em, drop_get hr2]
            exact pour_two (hh)
          refine i_ifnd (fun hne => ?_) (fun heq => ?_)
          · walk_at "g"
            · rename_i H3 M3
              refine ⟨_, ?_, i, j + 1, told ++ [r2], _, _, F5, rfl, by omega, by omega, rfl, sF5, L5.new _ (List.mem_cons_self ..), M3.tl.tl, ?_, ?_, ?_⟩
              · omega
              · rw [List.map_append]
                exact DpAll.app dp (.cons dc .nil)
              · simp; omega
              · rw [← hpo, hpp, push_new (fun h => hne ((last_iff _ _).mpr h))]
            · rw [et, sizeLine_eq]; omega
          · walk_at "g"
            refine ⟨_, ?_, i, j + 1, told, _, _, F5, rfl, by omega, by omega, rfl, sF5, L5.new _ (List.mem_cons_self ..), M2.tl.tl, dp, by omega, ?_⟩
            · omega
            · rw [← hpo, hpp]
              unfold pushR
              rw [if_pos ((last_iff _ _).mp heq)]
      · refine i_iff rfl ?_
        walk_at "g"
        have hj1 : j < two.length := by omega
        obtain ⟨r, hr1⟩ : ∃ r, two[j]? = some r := ⟨two[j], List.getElem?_eq_getElem hj1⟩
        have hh : ∀ a, (one.drop i).head? = some a → ¬ leK a r := fun b hb => by
          rw [List.drop_eq_nil_of_le (by omega)] at hb
          cases hb
        refine i_ixRow (F := F0) (s0.trans (sF.trans L.same)) hs2 ha2 hr1 fun c hc dc => ?_
        walk_at "g"
        rename_i q1 H1 m1 M1 q2 H2 m2 M2
        have et : ts.length = told.length := by rw [DpAll.len dp, List.length_map]
        refine i_neRows (a := told.drop (told.length - 1)) (b := [r]) (.lst (.inl (.inl M2.at1)) (by
          rw [cut_last, List.map_drop, et]
          exact DpAll.drop _ (DpAll.mono (s0.trans (sF.trans M2.same)) _ _ dp))) (.lst (.inl (.inl M2.at0)) (.cons (Dp.mono (s0.trans (sF.trans M2.same)) _ _ dc) .nil)) ?_
        walk_at "g"
        have hpp : pour ((one.length - i) + (two.length - j)) (one.drop i) (two.drop j) told = pour ((one.length - i) + (two.length - (j + 1))) (one.drop i) (two.drop (j + 1)) (pushR told r) := by
          have em : (one.length - i) + (two.length - j) = ((one.length - i) + (two.length - (j + 1))) + 1 := by omega
          rw [em, drop_get hr1]
          exact pour_two (hh)
        refine i_ifnd (fun hne => ?_) (fun heq => ?_)
        · walk_at "g"
          · rename_i H3 M3
            refine ⟨_, ?_, i, j + 1, told ++ [r], _, _, F, rfl, by omega, by omega, rfl, sF, L.new _ (List.mem_cons_self ..), M3.tl.tl, ?_, ?_, ?_⟩
            · omega
            · rw [List.map_append]
              exact DpAll.app dp (.cons dc .nil)
            · simp; omega
            · rw [← hpo, hpp, push_new (fun h => hne ((last_iff _ _).mpr h))]
          · rw [et, sizeLine_eq]; omega
        · walk_at "g"
          refine ⟨_, ?_, i, j + 1, told, _, _, F, rfl, by omega, by omega, rfl, sF, L.new _ (List.mem_cons_self ..), M2.tl.tl, dp, by omega, ?_⟩
          · omega
          · rw [← hpo, hpp]
            unfold pushR
            rw [if_pos ((last_iff _ _).mp heq)]
def spRows (K : PySem.W.Frag) : Sp := fun vs H Q _ => ∃ (a : Addr) (m : Int) (most : Int), vs = [.ref a, .int most] ∧ DrawAt H a m ∧ m < 1000 ∧
  ∀ H' p rs, DrawAt H' a (m + 49) → But a H H' → H p = none → Dp K (cut H' a) (.ref p) (rowsP rs) → rs.Pairwise ltR → rs.length < 64 → Q (.ref p) H'
theorem ok_l_rows (T : Top K mg x) : FnOk P w K mg base CX0 2 x.f_l_rows x.d_l_rows ["_law_draws_here", "_law_most"] (spRows K) := by
  have G_l_next := ok_l_next (P := P) (w := w) (K := K) (base := base) T
  refine T.d_l_rows.F.ok sc_l_rows (fun vs H Q E h => ?_) (fun cdv A outer s H vs Q E hr h => ?_)
  · obtain ⟨a, m, most, rfl, ⟨n, c, f, ha, hn, hc, hm⟩, hm2, k⟩ := h
    rfl
  obtain ⟨a, m, most, rfl, ⟨n, c, f, ha, hn, hc, hm⟩, hm2, k⟩ := h
  refine ⟨_, (pss_cons (ps_set (i := 2) sc_l_rows.nd rfl (by first | exact Or.inl rfl | exact Or.inr rfl) (pe_lst pa_nil))
    (pss_cons (ps_for PassesOwn.never rfl (pi_range1 rfl T.n_range (pa_cons (pe_op op_mod (pe_call G_l_next (hr.mono (by decide)) rfl T.d_l_next.m T.d_l_next.F.kp T.d_l_next.b .nil pass0 (pa_cons (pv 0) pa_nil)) pe_int) pa_nil)) (pg_name (i := 3) sc_l_rows.nd rfl (Or.inl rfl))
      (pss_cons (ps_set (i := 4) sc_l_rows.nd rfl (Or.inl rfl) (pe_call G_l_next (hr.mono (by decide)) rfl T.d_l_next.m T.d_l_next.F.kp T.d_l_next.b .nil pass0 (pa_cons (pv 0) pa_nil)))
    (pss_cons (ps_set (i := 5) sc_l_rows.nd rfl (by first | exact Or.inl rfl | exact Or.inr rfl) (pe_op op_add (pe_ix ix_list (pe_lst (pa_cons (pv 3) (pa_cons (pe_op op_mul pe_int (pv 3)) (pa_cons (pe_op op_sub (pv 3) pe_int) (pa_cons (pe_op op_sub (pe_op op_mul (pv 3) (pe_op op_pow pe_int pe_int)) (pe_op op_pow pe_int pe_int)) pa_nil))))) (pe_op op_mod (pv 4) pe_int) (fun _ _ => rfl)) (pe_op op_mul pe_int (pe_op op_mod (pe_op op_fdiv (pv 4) pe_int) pe_int))))
    (pss_cons (ps_set (i := 6) sc_l_rows.nd rfl (by first | exact Or.inl rfl | exact Or.inr rfl) pe_int)
    (pss_one (ps_for PassesOwn.never rfl (pi_range1 rfl T.n_range (pa_cons (pe_op op_add pe_int (pe_op op_mod (pe_call G_l_next (hr.mono (by decide)) rfl T.d_l_next.m T.d_l_next.F.kp T.d_l_next.b .nil pass0 (pa_cons (pv 0) pa_nil)) pe_int)) pa_nil)) (pg_name (i := 7) sc_l_rows.nd rfl (Or.inl rfl))
      (pss_cons (ps_set (i := 8) sc_l_rows.nd rfl (Or.inl rfl) (pe_call G_l_next (hr.mono (by decide)) rfl T.d_l_next.m T.d_l_next.F.kp T.d_l_next.b .nil pass0 (pa_cons (pv 0) pa_nil)))
    (pss_cons (ps_set (i := 6) sc_l_rows.nd rfl (by first | exact Or.inl rfl | exact Or.inr rfl) (pe_op op_add (pe_op op_add (pv 6) pe_int) (pe_op op_mod (pv 8) (pe_ix ix_list (pe_lst (pa_cons pe_int (pa_cons pe_int pa_nil))) (pe_op op_mod (pe_op op_fdiv (pv 8) pe_int) pe_int) (fun _ _ => rfl)))))
    (pss_one (ps_if (pt_cmpR op_le (pv 6) (pv 1) (nomark _)) (pss_one (ps_expr (pe_bm PySem.F.plainAttrs_list PySem.F.slot_list_append PySem.F.type_list_append mt_append (pv 2) (pa_cons (pe_tup (pa_cons (pv 5) (pa_cons (pv 6) (pa_cons (pe_ix ix_list (pe_lst (pa_cons (pe_op op_sub (pe_op op_mod (pe_op op_fdiv (pv 8) pe_int) pe_int) pe_int) (pa_cons pe_non (pa_cons (pe_op op_mul (pv 8) (pe_op op_pow pe_int pe_int)) (pa_cons pe_int pa_nil))))) (pe_op op_mod (pe_op op_fdiv (pv 8) pe_int) pe_int) (fun _ _ => rfl)) pa_nil)))) pa_nil)))) pss_nil))))))))))
    (pss_cons (ps_set (i := 10) sc_l_rows.nd rfl (Or.inl rfl) (pe_callB (cr_sortedSet rfl) (by rfl) T.n_sorted (by decide +kernel) (pa_cons (pe_callTy (GS.cr_setLI rfl) (by rfl) T.n_set (by decide +kernel) (pa_cons (pe_lc (own := [("_law_row", 9)]) rfl sc_l_rows.nd (pi_list (pv 2)) (blkOk_by (own := [("_law_row", 9)]) (N := ["_law_draws_here", "_law_most", "_law_told", "_law_k", "_law_pick", "_law_time", "_law_number", "_law_j", "_law_some", "_law_row", "_law_times", "_law_found", "_law_numbers"]) (sc := defScope s_l_rows) (by decide +kernel)) (fun _ _ _ _ _ => (pg_name (i := 9) sc_l_rows.nd rfl (by first | exact Or.inl rfl | exact Or.inr rfl))) (fun _ _ _ _ _ => pts_nil) (fun _ _ _ _ _ => (pe_ix (G.k_ix_tup (K := K) rfl) (pv 9) pe_int (fun _ _ => rfl)))) pa_nil)) pa_nil)))
    (pss_cons (ps_set (i := 11) sc_l_rows.nd rfl (Or.inl rfl) (pe_lst pa_nil))
    (pss_cons (ps_for PassesOwn.never rfl (pi_list (pv 10)) (pg_name (i := 5) sc_l_rows.nd rfl (by first | exact Or.inl rfl | exact Or.inr rfl))
      (pss_cons (ps_set (i := 12) sc_l_rows.nd rfl (Or.inl rfl) (pe_callB (cr_sortedSet rfl) (by rfl) T.n_sorted (by decide +kernel) (pa_cons (pe_callTy (GS.cr_setLI rfl) (by rfl) T.n_set (by decide +kernel) (pa_cons (pe_lc (own := [("_law_row", 9)]) rfl sc_l_rows.nd (pi_list (pv 2)) (blkOk_by (own := [("_law_row", 9)]) (N := ["_law_draws_here", "_law_most", "_law_told", "_law_k", "_law_pick", "_law_time", "_law_number", "_law_j", "_law_some", "_law_row", "_law_times", "_law_found", "_law_numbers"]) (sc := defScope s_l_rows) (by decide +kernel)) (fun _ _ _ _ _ => (pg_name (i := 9) sc_l_rows.nd rfl (by first | exact Or.inl rfl | exact Or.inr rfl))) (fun _ _ _ _ _ => (pts_one (pt_cmpR op_eq (pe_ix (G.k_ix_tup (K := K) rfl) (pv 9) pe_int (fun _ _ => rfl)) (pv 5) (nomark _)))) (fun _ _ _ _ _ => (pe_ix (G.k_ix_tup (K := K) rfl) (pv 9) pe_int (fun _ _ => rfl)))) pa_nil)) pa_nil)))
    (pss_one (ps_set (i := 11) sc_l_rows.nd rfl (Or.inl rfl) (pe_op op_cat (pv 11) (pe_lc (own := [("_law_number", 6)]) rfl sc_l_rows.nd (pi_list (pv 12)) (blkOk_by (own := [("_law_number", 6)]) (N := ["_law_draws_here", "_law_most", "_law_told", "_law_k", "_law_pick", "_law_time", "_law_number", "_law_j", "_law_some", "_law_row", "_law_times", "_law_found", "_law_numbers"]) (sc := defScope s_l_rows) (by decide +kernel)) (fun _ _ _ _ _ => (pg_name (i := 6) sc_l_rows.nd rfl (by first | exact Or.inl rfl | exact Or.inr rfl))) (fun _ _ _ _ _ => pts_nil) (fun _ _ _ _ _ => (pe_ix (G.k_ix_list (K := K) rfl) (pe_lc (own := [("_law_row", 9)]) rfl sc_l_rows.nd (G.k_pi_list (K := K) rfl (pv 2)) (blkOk_by (own := [("_law_row", 9)]) (by rfl)) (fun _ _ _ _ _ => (pg_name (i := 9) sc_l_rows.nd rfl (by first | exact Or.inl rfl | exact Or.inr rfl))) (fun _ _ _ _ _ => (pts_one (pt_cmpR (G.k_eqD (K := K) rfl hr.units) (pe_slice (G.k_sl_tup (K := K) rfl) (pv 9) po_none (po_some pe_int)) (pe_tup (pa_cons (pv 5) (pa_cons (pv 6) pa_nil))) (nomark _)))) (fun _ _ _ _ _ => (pv 9))) pe_int (fun _ _ => rfl)))))))))
    (pss_one (ps_ret (pv 11)))))))), ?_⟩
  have L0 : LF (cut H a) [(a, .lst [.int n, .int c, .bl f])] H := LF.one ha
  walk_at "g"
  rename_i p H1 n1 L1
  refine ⟨a, m, rfl, ⟨n, c, f, L1.at1, hn, hc, hm⟩, by omega, fun z H2 z0 z1 ⟨n2, c2, f2, e2, hn2, hc2, hm2⟩ b2 => ?_⟩
  have L2 := L1.swap.mut0 b2 e2
  walk_at "g"
  refine FOR.range (fun i σ H' => ∃ (told : List Row) (ts : List V) (F : Hp) (n c : Int) (f : Bool) (v3 v4 v5 v6 v7 v8 : Option V), σ = [some (.ref a), some (.int most), some (.ref p), v3, v4, v5, v6, v7, v8, none, none, none, none] ∧ Same (cut H a) F ∧
      LF F [(a, .lst [.int n, .int c, .bl f]), (p, .lst ts)] H' ∧ 0 ≤ n ∧ 0 ≤ c ∧ c ≤ m + 1 + 6 * i ∧ DpAll K F ts (told.map rowP) ∧ told.length ≤ 4 * i)
    ⟨[], [], cut H a, n2, c2, f2, none, none, none, none, none, none, rfl, Same.refl _, L2, hn2, hc2, by omega, .nil, Nat.zero_le _⟩ ?_ ?_
  · rintro i σ H3 hi ⟨told, ts, F, n, c, f, v3, v4, v5, v6, v7, v8, rfl, sF, L3, hn, hc, hm, dp, hl⟩
    have hi8 : i < 9 := by omega
    walk_at "g"
    refine ⟨a, m + 1 + 6 * i, rfl, ⟨n, c, f, L3.at0, hn, hc, hm⟩, by omega, fun pk H4 pk0 pk1 ⟨n4, c4, f4, e4, hn4, hc4, hm4⟩ b4 => ?_⟩
    have L4 := L3.mut0 b4 e4
    walk_at "g"
    rename_i q5 H5 m5 M5
    refine i_ixB (-10000000000) 100 M5.at0 (fun x hx => ?_) ⟨by omega, by simp; omega⟩ (fun tm tm0 tm1 => ?_)
    · simp at hx
      rcases hx with rfl | rfl | rfl | rfl
      · exact ⟨_, rfl, by omega, by omega⟩
      · exact ⟨_, rfl, by omega, by omega⟩
      · exact ⟨_, rfl, by omega, by omega⟩
      · exact ⟨_, rfl, by omega, by omega⟩
    have L5 := M5.tl
    walk_at "g"
    generalize et : tm + 40 * (pk / 4 % 3) = time
    refine ⟨a, m + 2 + 6 * i, rfl, ⟨n4, c4, f4, L5.at0, hn4, hc4, by omega⟩, by omega, fun z H6 z0 z1 ⟨n6, c6, f6, e6, hn6, hc6, hm6⟩ b6 => ?_⟩
    have L6 := L5.mut0 b6 e6
    walk_at "g"
    refine FOR.range (fun j σ H' => ∃ (told : List Row) (ts : List V) (F : Hp) (n c nr : Int) (f : Bool) (v7 v8 : Option V), σ = [some (.ref a), some (.int most), some (.ref p), some (.int i), some (.int pk), some (.int time), some (.int nr), v7, v8, none, none, none, none] ∧ Same (cut H a) F ∧
        LF F [(a, .lst [.int n, .int c, .bl f]), (p, .lst ts)] H' ∧ 0 ≤ n ∧ 0 ≤ c ∧ c ≤ m + 3 + 6 * i + j ∧ DpAll K F ts (told.map rowP) ∧ told.length ≤ 4 * i + j ∧ 0 ≤ nr ∧ nr ≤ 10 * j)
      ⟨told, ts, F, n6, c6, 0, f6, _, _, rfl, sF, L6, hn6, hc6, by omega, dp, by omega, by omega, by omega⟩ ?_ ?_
    · rintro j σ H7 hj ⟨told, ts, F, n, c, nr, f, v7, v8, rfl, sF, L7, hn, hc, hm, dp, hl, hr0, hr1⟩
      have hj4 : j < 4 := by omega
      walk_at "g"
      refine ⟨a, m + 3 + 6 * i + j, rfl, ⟨n, c, f, L7.at0, hn, hc, hm⟩, by omega, fun so H8 so0 so1 ⟨n8, c8, f8, e8, hn8, hc8, hm8⟩ b8 => ?_⟩
      have L8 := L7.mut0 b8 e8
      walk_at "g"
      rename_i q9 H9 m9 M9
      refine i_ixB 2 9 M9.at0 (fun x hx => ?_) ⟨by omega, by simp; omega⟩ (fun mo mo0 mo1 => ?_)
      · simp at hx
        rcases hx with rfl | rfl
        · exact ⟨_, rfl, by omega, by omega⟩
        · exact ⟨_, rfl, by omega, by omega⟩
      have L9 := M9.tl
      have hmo := Int.emod_nonneg so (show mo ≠ 0 by omega)
      have hmo2 := Int.emod_lt_of_pos so (show 0 < mo by omega)
      walk_at "g"
      · generalize en : nr + 1 + so % mo = num
        refine i_ifd (fun hle => ?_) (fun hgt => ?_)
        · walk_at "g"
          · rename_i q10 H10 m10 M10
            refine i_ixP (fun v => ∃ o, v = optV o) M10.at0 (fun x hx => ?_) ⟨by omega, by simp; omega⟩ (fun v ⟨o, eo⟩ => ?_)
            · simp at hx
              rcases hx with rfl | rfl | rfl | rfl
              · exact ⟨some _, rfl⟩
              · exact ⟨none, rfl⟩
              · exact ⟨some _, rfl⟩
              · exact ⟨some _, rfl⟩
            subst eo
            have L10 := M10.tl
            walk_at "g"
            · rename_i q11 F11 H11 m11 s11 e11 L11 H12 L12
              refine ⟨told ++ [(time, num, o)], _, F11, n8, c8, num, f8, _, _, rfl, sF.trans s11, L12, hn8, hc8, by omega, ?_, ?_, by omega, by omega⟩
              · rw [List.map_append]
                refine DpAll.app (DpAll.mono s11 _ _ dp) (.cons (.tup (.inl (.inl e11)) (.cons (.int _) (.cons (.int _) (.cons (opt_dp o) .nil)))) .nil)
              · simp
                omega
            · rw [DpAll.len dp, List.length_map, sizeLine_eq]
              omega
        · walk_at "g"
          exact ⟨told, ts, F, n8, c8, num, f8, _, _, rfl, sF, L9, hn8, hc8, by omega, dp, by omega, by omega, by omega⟩
    · rintro σ H7 ⟨told, ts, F, n, c, nr, f, v7, v8, rfl, sF, L7, hn, hc, hm, dp, hl, hr0, hr1⟩
      walk_at "g"
      have : (1 + z % 4).toNat ≤ 4 := by omega
      exact ⟨told, ts, F, n, c, f, _, _, _, _, _, _, rfl, sF, L7, hn, hc, by omega, dp, by omega⟩
  · rintro σ H3 ⟨told, ts, F, n, c, f, v3, v4, v5, v6, v7, v8, rfl, sF, L3, hn, hc, hm, dp, hl⟩
    have hz8 : (z % 9).toNat ≤ 8 := by omega
    have nF : F p = none := L3.new (p, .lst ts) (by simp)
    have L4 := L3.swap.frz
    have s4 : Same F (upd F p (.lst ts)) := same_upd nF
    have e4 : (upd F p (.lst ts)) p = some (.lst ts) := upd_same
    generalize upd F p (.lst ts) = F4 at L4 s4 e4
    have dp4 := DpAll.mono s4 _ _ dp
    have tl : ts.length = told.length := by rw [DpAll.len dp, List.length_map]
    walk_at "g"
    refine LCN.data (K := K) (walk_list (xs := ts)) L4 (fun _ l => l = [(a, .lst [.int n, .int c, .bl f])]) (fun i => told[i]?.bind fun r => some (.int r.1)) (by omega) rfl ?_ ?_ ?_
    · rintro i D acc F2 l2 H3 sF z L
      exact .inl (.inl (L.atF (sF _ _ e4)))
    · rintro i x D acc F1 l1 H3 H4 hi sF rfl L1 dq ⟨rfl, hx⟩
      obtain ⟨r, hr1, b, rfl, hb⟩ := rows_get (DpAll.mono sF _ _ dp4) hx
      walk_at "g"
      refine i_ift rfl ?_
      walk_at "g"
      exact LCY.of dq sF (by omega) (Same.refl _) rfl L1 (by rw [hr1]; rfl) (.int _)
    · rintro D acc F5 l5 H5 nD nF5 s5 rfl L5 dq
      have ea : acc = (told.map (·.1)).map V.int := by
        refine DpAll.ints_inv (K := K) (H := F5) ?_
        rw [tl, filterMap_range] at dq
        have e : told.filterMap (fun r => some (PyData.int r.1)) = (told.map (·.1)).map PyData.int := by
          rw [List.map_map]
          exact congrFun List.filterMap_eq_map _
        rw [e] at dq
        exact dq
      subst ea
      walk_at "g"
      refine j_setLI L5 (.inl (.inl L5.at0)) (by show _ < 4096; simp; omega) (fun q6 H6 c6 m6 hc6 e6 L6 => ?_)
      walk_at "g"
      refine j_sortedSet L6 e6 (by simp at hc6; omega) (fun ys q7 H7 hp7 hm7 hl7 m7 L7 => ?_)
      have nF7 : F5 q7 = none := L7.new (q7, _) (List.mem_cons_self ..)
      have L8 := L7.frz
      have s8 : Same F5 (upd F5 q7 (.lst (ys.map V.int))) := same_upd nF7
      have e8 : (upd F5 q7 (.lst (ys.map V.int))) q7 = some (.lst (ys.map V.int)) := upd_same
      generalize upd F5 q7 (.lst (ys.map V.int)) = F8 at L8 s8 e8
      have L8 := L8.tl.tl
      have s48 := s5.trans s8
      have dp8 := DpAll.mono s48 _ _ dp4
      have ep8 := s48 _ _ e4
      walk_at "g"
      rename_i q9 H9 m9 L9
      refine FOR.list (xs := ys.map V.int) (fun i σ H' => ∃ (fo : Addr) (fs : List V) (found : List Row) (F : Hp) (v5 v6 v12 : Option V), σ = [some (.ref a), some (.int most), some (.ref p), v3, v4, v5, v6, v7, v8, none, some (.ref q7), some (.ref fo), v12] ∧ Same F8 F ∧
          LF F [(fo, .lst fs), (a, .lst [.int n, .int c, .bl f])] H' ∧ DpAll K F fs (found.map rowP) ∧ found.Pairwise ltR ∧ ∀ r ∈ found, r ∈ told ∧ r.1 ∈ ys.take i)
        ⟨q9, [], [], F8, _, _, _, rfl, Same.refl _, L9, .nil, .nil, fun r hr => by cases hr⟩ (fun i σ H _ ⟨_, _, _, _, _, _, _, _, sF, L, _⟩ => .inl (.inl (L.atF (sF _ _ e8)))) ?_ ?_
      · rintro i x σ H10 hx ⟨fo, fs, found, F, v5, v6, v12, rfl, s10, L10, dfs, hpw, hmem⟩
        obtain ⟨t, ht, rfl⟩ := map_get hx
        have dp10 := DpAll.mono s10 _ _ dp8
        have ep10 := s10 _ _ ep8
        walk_at "g"
        refine LCN.data (K := K) (walk_list (xs := ts)) L10 (fun _ l => l = [(fo, .lst fs), (a, .lst [.int n, .int c, .bl f])]) (fun i => told[i]?.bind fun r => if decide (r.1 = t) = true then some (.int r.2.1) else none) (by omega) rfl ?_ ?_ ?_
        · rintro i D acc F2 l2 H3 sF z L
          exact .inl (.inl (L.atF (sF _ _ ep10)))
        · rintro i x D acc F1 l1 H3 H4 hi sF rfl L1 dq ⟨rfl, hx⟩
          obtain ⟨r, hr1, b, rfl, hb⟩ := rows_get (DpAll.mono sF _ _ dp10) hx
          walk_at "g"
          refine i_ifd (fun he => ?_) (fun hne => ?_)
          · walk_at "g"
            exact LCY.of dq sF (by omega) (Same.refl _) rfl L1 (by rw [hr1]; simp [he]) (.int _)
          · exact LCP.no dq sF (Same.refl _) rfl L1 (by rw [hr1]; simp [hne])
        rintro D acc F11 l11 H11 nD nF11 s11 rfl L11 dq
        have ea : acc = ((told.filter fun r => decide (r.1 = t)).map (·.2.1)).map V.int := by
          refine DpAll.ints_inv (K := K) (H := F11) ?_
          rw [tl, filterMap_range, filterMap_if] at dq
          rw [List.map_map]
          exact dq
        subst ea
        walk_at "g"
        have hfl := List.length_filter_le (fun r : Row => decide (r.1 = t)) told
        refine j_setLI L11 (.inl (.inl L11.at0)) (by show _ < 4096; rw [List.length_map]; omega) (fun q12 H12 c12 m12 hc12 e12 L12 => ?_)
        walk_at "g"
        refine j_sortedSet L12 e12 (by rw [List.length_map] at hc12; omega) (fun ns q13 H13 hp13 hm13 hl13 m13 L13 => ?_)
        have nF13 : F11 q13 = none := L13.new (q13, _) (List.mem_cons_self ..)
        have L14 := L13.frz
        have s14 : Same F11 (upd F11 q13 (.lst (ns.map V.int))) := same_upd nF13
        have e14 : (upd F11 q13 (.lst (ns.map V.int))) q13 = some (.lst (ns.map V.int)) := upd_same
        generalize upd F11 q13 (.lst (ns.map V.int)) = F14 at L14 s14 e14
        have L14 := L14.tl.tl
        have s1014 := s11.trans s14
        have dp14 := DpAll.mono s1014 _ _ dp10
        have ep14 := s1014 _ _ ep10
        walk_at "g"
        refine LCN.data (K := K) (walk_list (xs := ns.map V.int)) L14 (fun _ l => l = [(fo, .lst fs), (a, .lst [.int n, .int c, .bl f])]) (fun i => ns[i]?.bind fun n => (told.find? fun r => decide (r.1 = t ∧ r.2.1 = n)).map rowP) (by rw [List.length_map, hl13]; rw [List.length_map] at hc12; omega) rfl ?_ ?_ ?_
        · rintro i D acc F2 l2 H3 sF z L
          exact .inl (.inl (L.atF (sF _ _ e14)))
        · rintro i x D acc F1 l1 H3 H4 hi sF rfl L1 dq ⟨rfl, hx⟩
          obtain ⟨u, hu, rfl⟩ := map_get hx
          walk_at "g"
          refine i_ift rfl ?_
          walk_at "g"
          refine ⟨p, rfl, ⟨ts, .inl (.inl (L1.atF (sF _ _ ep14)))⟩, ?_⟩
          have dp1 := DpAll.mono sF _ _ dp14
          have ep1 := sF _ _ ep14
          refine LCN.data (K := K) (walk_list (xs := ts)) L1 (fun _ l => l = [(D, .lst acc), (fo, .lst fs), (a, .lst [.int n, .int c, .bl f])]) (fun i => told[i]?.bind fun r => if decide (r.1 = t ∧ r.2.1 = u) = true then some (rowP r) else none) (by omega) rfl ?_ ?_ ?_
          · rintro i2 D2 acc2 F2 l2 H5 sF2 z L
            exact .inl (.inl (L.atF (sF2 _ _ ep1)))
          · rintro i2 x2 D2 acc2 F2 l2 H5 H6 hi2 sF2 rfl L2 dq2 ⟨rfl, hx2⟩
            obtain ⟨r, hr1, b, rfl, hb⟩ := rows_get (DpAll.mono sF2 _ _ dp1) hx2
            have hr2 := DpAll.getD (DpAll.mono sF2 _ _ dp1) (d := rowP r) (i := i2) (by rw [List.getElem?_map, hr1]; rfl)
            rw [hx2] at hr2
            obtain ⟨_, ev, dr⟩ := hr2
            cases ev
            walk_at "g"
            rename_i t1 G1 K1 y1 w1 z1' M1 t2 G2 K2 y2 w2 z2 M2
            refine i_eqPair (M2.atF (w2 _ _ z1')) (M2.atF z2) ?_
            walk_at "g"
            refine i_ifd (fun he => ?_) (fun hne => ?_)
            · walk_at "g"
              exact LCY.of dq2 sF2 (by omega) (w1.trans w2) rfl M2 (by rw [hr1]; simp [he]) (Dp.mono (w1.trans w2) _ _ dr)
            · exact LCP.no dq2 sF2 (w1.trans w2) rfl M2 (by rw [hr1]; simp; simpa using hne)
          rintro D2 acc2 F2 l2 H5 nD2 nF2 s2 rfl L2 dq2
          rw [tl, filterMap_range, filterMap_if] at dq2
          have hmem2 : ∃ r ∈ told, r.1 = t ∧ r.2.1 = u := by
            have := (hm13 u).mp (List.mem_of_getElem? hu)
            simpa using this
          obtain ⟨r, hfr⟩ : ∃ r, told.find? (fun r => decide (r.1 = t ∧ r.2.1 = u)) = some r := by
            cases e : told.find? (fun r => decide (r.1 = t ∧ r.2.1 = u)) with
            | none =>
              rw [List.find?_eq_none] at e
              obtain ⟨r, hr, h⟩ := hmem2
              exact absurd (decide_eq_true h) (e r hr)
            | some r => exact ⟨r, rfl⟩
          obtain ⟨v, ev, dv⟩ := DpAll.getD dq2 (i := 0) (d := rowP r) (by
            rw [List.getElem?_map, ← List.head?_eq_getElem?, List.head?_filter, hfr]
            rfl)
          walk_at "g"
          refine i_ixL L2.at0 (atI_nat (j := 0) ev) ?_
          exact LCY.of dq sF (by rw [List.length_map] at hi; rw [List.length_map] at hc12; omega) s2 rfl L2.tl (by rw [hu]; simp only [Option.bind_some]; rw [hfr]; rfl) dv
        rintro D acc F2 l2 H2 nD nF2 s2 rfl L2 dq
        rw [List.length_map, filterMap_range] at dq
        have eB : (ns.filterMap fun n => (told.find? fun r => decide (r.1 = t ∧ r.2.1 = n)).map rowP) = (ns.filterMap fun n => told.find? fun r => decide (r.1 = t ∧ r.2.1 = n)).map rowP := by
          rw [List.map_filterMap]
        rw [eB] at dq
        have hB : ∀ b ∈ ns.filterMap (fun n => told.find? fun r => decide (r.1 = t ∧ r.2.1 = n)), b ∈ told ∧ b.1 = t := fun b hb => by
          obtain ⟨n, _, h⟩ := List.mem_filterMap.mp hb
          have := List.find?_some h
          simp at this
          exact ⟨List.mem_of_find?_eq_some h, this.1⟩
        have hlen : found.length ≤ told.length := nodup_len (hpw.imp lt_ne) fun r hr => (hmem r hr).1
        have hfs : fs.length = found.length := by rw [DpAll.len dfs, List.length_map]
        have hac : acc.length ≤ ns.length := by rw [DpAll.len dq, List.length_map]; exact List.length_filterMap_le _ _
        refine j_cat L2 L2.at1 L2.at0 (by rw [sizeLine_eq]; rw [List.length_map] at hc12; omega) (fun q15 H15 n15 L15 => ?_)
        walk_at "g"
        refine ⟨q15, _, found ++ ns.filterMap (fun n => told.find? fun r => decide (r.1 = t ∧ r.2.1 = n)), F2, _, _, _, rfl, s10.trans (s1014.trans s2), L15.tl1.tl1, ?_, ?_, ?_⟩
        · rw [List.map_append]
          exact DpAll.app (DpAll.mono (s1014.trans s2) _ _ dfs) dq
        · rw [List.pairwise_append]
          refine ⟨hpw, ?_, fun x hx y hy => ?_⟩
          · rw [List.pairwise_filterMap]
            refine hp13.imp fun {n1 n2} h x hx y hy => ?_
            have h1 := List.find?_some hx
            have h2 := List.find?_some hy
            simp at h1 h2
            exact .inr ⟨h1.1.trans h2.1.symm, by omega⟩
          · refine .inl ?_
            rw [(hB y hy).2]
            exact take_lt hp7 ht (hmem x hx).2
        · intro r hr
          rw [List.take_add_one, ht]
          rcases List.mem_append.mp hr with h | h
          · exact ⟨(hmem r h).1, List.mem_append_left _ (hmem r h).2⟩
          · exact ⟨(hB r h).1, List.mem_append_right _ (by rw [(hB r h).2]; simp)⟩
      · rintro σ H10 ⟨fo, fs, found, F, v5, v6, v12, rfl, s10, L10, dfs, hpw, hmem⟩
        walk_at "g"
        have hlen : found.length ≤ told.length := nodup_len (hpw.imp lt_ne) fun r hr => (hmem r hr).1
        refine k H10 fo found ⟨n, c, f, L10.at1, hn, hc, by omega⟩ (L10.but (sF.trans (s4.trans (s48.trans s10)))) ?_ ?_ hpw (by omega)
        · exact cut_free L10 (sF.trans (s4.trans (s48.trans s10))) L10.ne01
        · have L11 := L10.frz
          exact .lst (.inl (.inl (lf_cut L11 _ _ upd_same))) (DpAll.mono ((same_upd (L10.new (fo, .lst fs) (List.mem_cons_self ..))).trans (lf_cut L11)) _ _ dfs)
theorem putA_keys {m : List (Int × Row)} {k : Int} {v : Row} (h : (m.map (·.1)).Pairwise (· < ·)) (hk : ∀ p ∈ m, p.1 ≤ k) : ((putA m k v).map (·.1)).Pairwise (· < ·) ∧ ∀ p ∈ putA m k v, p.1 ≤ k := by
  unfold putA
  split
  · have e : (m.map fun p => if p.1 = k then (p.1, v) else p).map (·.1) = m.map (·.1) := by
      rw [List.map_map]
      congr 1
      funext p
      show (if p.1 = k then (p.1, v) else p).1 = p.1
      split <;> rfl
    rw [e]
    refine ⟨h, fun p hp => ?_⟩
    obtain ⟨q, hq, rfl⟩ := List.mem_map.mp hp
    have := hk q hq
    split <;> exact this
  · rename_i hn
    rw [List.map_append, List.pairwise_append]
    refine ⟨⟨h, by simp, fun x hx y hy => ?_⟩, fun p hp => ?_⟩
    · obtain ⟨p, hp, rfl⟩ := List.mem_map.mp hx
      have : y = k := by simpa using hy
      subst this
      have h1 := hk p hp
      have h2 : p.1 ≠ y := fun e => hn (List.any_eq_true.mpr ⟨p, hp, by simpa using e⟩)
      omega
    · rcases List.mem_append.mp hp with h | h
      · exact hk p h
      · have : p = (k, v) := by simpa using h
        rw [this]
        exact Int.le_refl _
theorem last_keys (n : Int) : ∀ (rs : List Row) (m : List (Int × Row)), rs.Pairwise ltR → (m.map (·.1)).Pairwise (· < ·) → (∀ p ∈ m, ∀ r ∈ rs, p.1 ≤ r.1) →
    ((rs.foldl (fun m r => if r.2.1 ≤ n then putA m r.1 r else m) m).map (·.1)).Pairwise (· < ·)
  | [], m, _, h, _ => h
  | r :: rs, m, hs, h, hk => by
    rw [List.pairwise_cons] at hs
    rw [List.foldl_cons]
    have hr := fun x hx => hs.1 x hx
    split
    · obtain ⟨h1, h2⟩ := putA_keys (v := r) h (fun p hp => hk p hp r (List.mem_cons_self ..))
      refine last_keys n rs _ hs.2 h1 fun p hp x hx => ?_
      have h3 := h2 p hp
      have h4 := hs.1 x hx
      unfold ltR at h4
      omega
    · exact last_keys n rs m hs.2 h fun p hp x hx => hk p hp x (List.mem_cons_of_mem _ hx)
theorem val_mem {m : List (Int × Row)} : ∀ {p : Int × Row}, (m.map (·.1)).Pairwise (· < ·) → p ∈ m → valA m p.1 = some p.2 := by
  induction m with
  | nil => intro p _ h; cases h
  | cons q m ih =>
    intro p h hp
    rw [List.map_cons, List.pairwise_cons] at h
    unfold valA at ih ⊢
    rcases List.mem_cons.mp hp with rfl | hp
    · rw [List.find?_cons_of_pos (by simp)]
      rfl
    · rw [List.find?_cons_of_neg (by
        have := h.1 p.1 (List.mem_map.mpr ⟨p, hp, rfl⟩)
        simp
        omega)]
      exact ih h.2 hp
theorem fm_congr {α β : Type} {f g : α → Option β} : ∀ {xs : List α}, (∀ x ∈ xs, f x = g x) → xs.filterMap f = xs.filterMap g
  | [], _ => rfl
  | x :: xs, h => by
    rw [List.filterMap_cons, List.filterMap_cons, h x (List.mem_cons_self ..), fm_congr fun y hy => h y (List.mem_cons_of_mem _ hy)]
theorem sort_eq {xs ys : List Int} (h : xs.Perm ys) (hx : xs.Pairwise (· ≤ ·)) (hy : ys.Pairwise (· < ·)) : xs = ys := by
  refine List.Perm.eq_of_pairwise (le := fun a b => a ≤ b) ?_ hx (hy.imp fun h => Int.le_of_lt h) h
  intro a b _ _ h1 h2
  exact Int.le_antisymm h1 h2
def spLKnown (K : PySem.W.Frag) : Sp := fun vs H Q _ => ∃ (a : Addr) (rs : List Row) (n : Int), vs = [.ref a, .int n] ∧ Dp K H (.ref a) (rowsP rs) ∧ rs.length < 64 ∧ rs.Pairwise ltR ∧
  ∀ H' p, Same H H' → H p = none → Dp K H' (.ref p) (pairsP (knownL n rs)) → Q (.ref p) H'
theorem ok_l_known (T : Top K mg x) : FnOk P w K mg base CX0 2 x.f_l_known x.d_l_known ["_law_rows_here", "_law_number"] (spLKnown K) := by
  have G_l_last := ok_l_last (P := P) (w := w) (K := K) (base := base) T
  refine T.d_l_known.F.ok sc_l_known (fun vs H Q E h => ?_) (fun cdv A outer s H vs Q E hr h => ?_)
  · obtain ⟨a, rs, n, rfl, hd, hl, hs, k⟩ := h
    rfl
  obtain ⟨a, rs, n, rfl, hd, hl, hs, k⟩ := h
  refine ⟨_, (pss_cons (ps_set (i := 2) sc_l_known.nd rfl (by first | exact Or.inl rfl | exact Or.inr rfl) (pe_call G_l_last (hr.mono (by decide)) rfl T.d_l_last.m T.d_l_last.F.kp T.d_l_last.b .nil pass0 (pa_cons (pv 0) (pa_cons (pv 1) pa_nil))))
    (pss_one (ps_ret (pe_lc (own := [("_law_time", 3)]) rfl sc_l_known.nd (pi_list (pe_callB (G.c_sortedDI rfl) (by rfl) T.n_sorted (by decide +kernel) (pa_cons (pv 2) pa_nil))) (blkOk_by (own := [("_law_time", 3)]) (N := ["_law_rows_here", "_law_number", "_law_last_here", "_law_time"]) (sc := defScope s_l_known) (by decide +kernel)) (fun _ _ _ _ _ => (pg_name (i := 3) sc_l_known.nd rfl (by first | exact Or.inl rfl | exact Or.inr rfl))) (fun _ _ _ _ _ => (pts_one (pt_cmpR op_notN (pe_ix (G.k_ix_tup (K := K) rfl) (pe_dget (hu_of hr) (pv 2) (pv 3) (fun _ _ => rfl)) pe_int (fun _ _ => rfl)) pe_non (nomark _)))) (fun _ _ _ _ _ => (pe_tup (pa_cons (pv 3) (pa_cons (pe_ix (G.k_ix_tup (K := K) rfl) (pe_dget (hu_of hr) (pv 2) (pv 3) (fun _ _ => rfl)) pe_int (fun _ _ => rfl)) pa_nil)))))))), ?_⟩
  walk_at "g"
  refine ⟨a, rs, n, rfl, hd, by omega, fun H1 d kvs s1 nd ed ok => ?_⟩
  walk_at "g"
  have L1 : LF H1 [] H1 := LF.nil
  have ll := last_len n rs
  refine j_sortedDI L1 ed (KvOk.keys ok) (by rw [List.length_map]; omega) (fun ys q H2 hp hw nq L2 => ?_)
  have ey := sort_eq hp hw (last_keys n rs [] hs .nil fun p hp => by cases hp)
  change ys = (lastRows n rs).map (·.1) at ey
  have nF : H1 q = none := L2.new (q, _) (List.mem_cons_self ..)
  have L3 := L2.frz
  have s3 : Same H1 (upd H1 q (.lst (ys.map V.int))) := same_upd nF
  have e3 : (upd H1 q (.lst (ys.map V.int))) q = some (.lst (ys.map V.int)) := upd_same
  generalize upd H1 q (.lst (ys.map V.int)) = F3 at L3 s3 e3
  have ed3 := s3 _ _ ed
  have ok3 := KvOk.mono (s1.trans s3) ok
  walk_at "g"
  refine LCN.data (K := K) (walk_list (xs := ys.map V.int)) L3 (fun _ l => l = []) (fun i => ys[i]?.bind fun t => (valA (lastRows n rs) t).bind fun r => r.2.2.map fun w => pairP (t, w)) (by rw [List.length_map, ey, List.length_map]; omega) rfl ?_ ?_ ?_
  · rintro i D acc F2 l2 H3 sF z L
    exact .inl (.inl (L.atF (sF _ _ e3)))
  · rintro i x D acc F1 l1 H3 H4 hi sF rfl L1 dp ⟨rfl, hx⟩
    obtain ⟨t, ht, rfl⟩ := map_get hx
    have htm : t ∈ (lastRows n rs).map (·.1) := ey ▸ List.mem_of_getElem? ht
    obtain ⟨⟨t', r⟩, hr, et⟩ := List.mem_map.mp htm
    have et : t = t' := et.symm
    subst et
    have hv := val_mem (last_keys n rs [] hs .nil fun p hp => by cases hp) hr
    change valA (lastRows n rs) t = some r at hv
    obtain ⟨v, hv1, hv2⟩ := KvOk.val (KvOk.mono sF ok3) hv
    obtain ⟨b, rfl, hb⟩ := row_inv hv2
    walk_at "g"
    refine j_dgetI (L1.atF (sF _ _ ed3)) hv1 ?_
    walk_at "g"
    obtain ⟨r1, r2, r3⟩ := r
    cases r3 with
    | none => exact i_iff (by simp [optV]) (LCP.no dp sF (Same.refl _) rfl L1 (by rw [ht]; simp [hv]))
    | some w =>
      refine i_ift (by simp [optV]) ?_
      walk_at "g"
      refine j_dgetI (L1.atF (sF _ _ ed3)) hv1 ?_
      walk_at "g"
      rename_i q5 F5 H5 nq5 s5 eq5 L5
      exact LCY.of dp sF (by rw [List.length_map, ey, List.length_map] at hi; omega) s5 rfl L5 (by rw [ht]; simp [hv]; rfl) (by walk_at "g_dp")
  · rintro D acc F2 l2 H3 nD nF2 sF rfl L dp
    have L4 := L.frz
    refine k H3 D (s1.trans (s3.trans (sF.trans L.tl.same))) (s1.free (s3.free nF2)) ?_
    refine .lst (.inl (.inl L.at0)) ?_
    rw [List.length_map, filterMap_range] at dp
    have e : (ys.filterMap fun t => (valA (lastRows n rs) t).bind fun r => r.2.2.map fun w => pairP (t, w)) = (knownL n rs).map pairP := by
      rw [ey]
      unfold knownL
      rw [List.filterMap_map, List.map_filterMap]
      refine fm_congr fun p hp => ?_
      have hv := val_mem (last_keys n rs [] hs .nil fun p hp => by cases hp) hp
      change valA (lastRows n rs) p.1 = some p.2 at hv
      show ((valA (lastRows n rs) p.1).bind fun r => r.2.2.map fun w => pairP (p.1, w)) = _
      rw [hv, Option.bind_some]
      cases p.2.2.2 <;> rfl
    rw [← e]
    exact DpAll.mono L.same _ _ dp
theorem sub_one {rs xs : List Row} {i : Nat} {r : Row} (h : xs.Sublist (rs.take i)) (e : rs[i]? = some r) : (xs ++ [r]).Sublist (rs.take (i + 1)) := by
  rw [List.take_add_one, e]
  exact List.Sublist.append h (List.Sublist.refl _)
theorem sub_zero {rs xs : List Row} {i : Nat} (h : xs.Sublist (rs.take i)) : xs.Sublist (rs.take (i + 1)) := by
  rw [List.take_add_one]
  exact h.trans (List.sublist_append_left _ _)
theorem lf_cutat {F H : Hp} {l : List (Addr × HO)} {a p : Addr} {o u : HO} (L : LF F l H) (i j : Nat) (hi : l[i]? = some (a, o)) (hj : l[j]? = some (p, u)) (n : i ≠ j) : cut H a p = some u := by
  have ne : p ≠ a := fun e => by
    have h1 : (l.map (·.1))[i]? = some a := by rw [List.getElem?_map, hi]; rfl
    have h2 : (l.map (·.1))[j]? = some a := by rw [List.getElem?_map, hj, ← e]; rfl
    have il := (List.getElem?_eq_some_iff.mp hi).1
    exact n ((List.getElem?_inj (by simpa using il) L.nd).mp (h1.trans h2.symm))
  rw [cut_ne ne]
  exact L.at_ j p u hj
def spParts (K : PySem.W.Frag) : Sp := fun vs H Q _ => ∃ (a b : Addr) (m : Int) (rs : List Row), vs = [.ref a, .ref b] ∧ DrawAt H a m ∧ m < 2000 ∧ Dp K (cut H a) (.ref b) (rowsP rs) ∧ rs.length < 64 ∧
  ∀ H' q p0 p1 p2 r0 r1 r2, DrawAt H' a (m + 64) → But a H H' → (cut H' a) q = some (.lst [.ref p0, .ref p1, .ref p2]) → Dp K (cut H' a) (.ref p0) (rowsP r0) → Dp K (cut H' a) (.ref p1) (rowsP r1) → Dp K (cut H' a) (.ref p2) (rowsP r2) →
    r0.Sublist rs → r1.Sublist rs → r2.Sublist rs → Q (.ref q) H'
theorem ok_l_parts (T : Top K mg x) : FnOk P w K mg base CX0 2 x.f_l_parts x.d_l_parts ["_law_draws_here", "_law_rows_here"] (spParts K) := by
  have G_l_next := ok_l_next (P := P) (w := w) (K := K) (base := base) T
  refine T.d_l_parts.F.ok sc_l_parts (fun vs H Q E h => ?_) (fun cdv A outer s H vs Q E hr h => ?_)
  · obtain ⟨a, b, m, rs, rfl, ⟨n, c, f, ha, hn, hc, hm⟩, hm2, hd, hl, k⟩ := h
    rfl
  obtain ⟨a, b, m, rs, rfl, ⟨n, c, f, ha, hn, hc, hm⟩, hm2, hd, hl, k⟩ := h
  refine ⟨_, (pss_cons (ps_set (i := 2) sc_l_parts.nd rfl (Or.inl rfl) (pe_lst (pa_cons (pe_lst pa_nil) (pa_cons (pe_lst pa_nil) (pa_cons (pe_lst pa_nil) pa_nil)))))
    (pss_cons (ps_for PassesOwn.never rfl (pi_list (pv 1)) (pg_name (i := 3) sc_l_parts.nd rfl (Or.inl rfl))
      (pss_cons (ps_set (i := 4) sc_l_parts.nd rfl (Or.inl rfl) (pe_call G_l_next (hr.mono (by decide)) rfl T.d_l_next.m T.d_l_next.F.kp T.d_l_next.b .nil pass0 (pa_cons (pv 0) pa_nil)))
    (pss_one (ps_for PassesOwn.never rfl (pi_range1 rfl T.n_range (pa_cons pe_int pa_nil)) (pg_name (i := 5) sc_l_parts.nd rfl (Or.inl rfl))
      (pss_one (ps_if (pt_cmpR op_eq (pe_op op_mod (pe_op op_fdiv (pv 4) (pe_ix ix_list (pe_lst (pa_cons pe_int (pa_cons pe_int (pa_cons pe_int pa_nil)))) (pv 5) (fun _ _ => rfl))) pe_int) pe_int (nomark _)) (pss_one (ps_expr (pe_bm PySem.F.plainAttrs_list PySem.F.slot_list_append PySem.F.type_list_append mt_append (pe_ix ix_list (pv 2) (pv 5) (fun _ _ => rfl)) (pa_cons (pv 3) pa_nil)))) pss_nil))))))
    (pss_one (ps_ret (pv 2))))), ?_⟩
  obtain ⟨_, xs, e, hs, hx⟩ := Dp.list_inv hd
  cases e
  have hxl : xs.length = rs.length := by rw [DpAll.len hx, List.length_map]
  have L0 : LF (cut H a) [(a, .lst [.int n, .int c, .bl f])] H := LF.one ha
  walk_at "g"
  rename_i p0 H1 n1 L1 p1 H2 n2 L2 p2 H3 n3 L3 q H4 n4 L4
  have nF : (cut H a) q = none := L4.new (q, _) (List.mem_cons_self ..)
  have L5 := L4.frz
  have s5 : Same (cut H a) (upd (cut H a) q (.lst [.ref p0, .ref p1, .ref p2])) := same_upd nF
  have e5 : (upd (cut H a) q (.lst [.ref p0, .ref p1, .ref p2])) q = some (.lst [.ref p0, .ref p1, .ref p2]) := upd_same
  generalize upd (cut H a) q (.lst [.ref p0, .ref p1, .ref p2]) = F5 at L5 s5 e5
  refine FOR.list (xs := xs) (fun i σ H' => ∃ (x0 x1 x2 : List V) (r0 r1 r2 : List Row) (n c : Int) (f : Bool) (v3 v4 v5 : Option V), σ = [some (.ref a), some (.ref b), some (.ref q), v3, v4, v5] ∧
      LF F5 [(p2, .lst x2), (p1, .lst x1), (p0, .lst x0), (a, .lst [.int n, .int c, .bl f])] H' ∧ 0 ≤ n ∧ 0 ≤ c ∧ c ≤ m + i ∧
      DpAll K (cut H a) x0 (r0.map rowP) ∧ DpAll K (cut H a) x1 (r1.map rowP) ∧ DpAll K (cut H a) x2 (r2.map rowP) ∧ r0.Sublist (rs.take i) ∧ r1.Sublist (rs.take i) ∧ r2.Sublist (rs.take i))
    ⟨[], [], [], [], [], [], n, c, f, _, _, _, rfl, L5, hn, hc, by omega, .nil, .nil, .nil, List.nil_sublist _, List.nil_sublist _, List.nil_sublist _⟩ (fun i σ H _ ⟨_, _, _, _, _, _, _, _, _, _, _, _, _, L, _⟩ => (s5.trans L.same).seq hs) ?_ ?_
  · rintro i x σ H6 hxi ⟨x0, x1, x2, r0, r1, r2, n, c, f, v3, v4, v5, rfl, L6, hn, hc, hm, d0, d1, d2, b0, b1, b2⟩
    obtain ⟨r, hr1, bb, rfl, hb⟩ := rows_get hx hxi
    have hr2 := DpAll.getD hx (d := rowP r) (i := i) (by rw [List.getElem?_map, hr1]; rfl)
    rw [hxi] at hr2
    obtain ⟨_, ev, dr⟩ := hr2
    cases ev
    have hi : i < rs.length := (List.getElem?_eq_some_iff.mp hr1).1
    have lim : ∀ {x : List V} {r : List Row}, DpAll K (cut H a) x (r.map rowP) → r.Sublist (rs.take i) → x.length < sizeLine := fun {x r} d h => by
      have h1 := h.length_le
      rw [List.length_take] at h1
      rw [DpAll.len d, List.length_map, sizeLine_eq]
      omega
    walk_at "g"
    refine ⟨a, m + i, rfl, ⟨n, c, f, L6.at3, hn, hc, hm⟩, by omega, fun pk H7 pk0 pk1 ⟨n7, c7, f7, e7, hn7, hc7, hm7⟩ b7 => ?_⟩
    have L7 := L6.mut 3 rfl b7 e7
    change LF F5 [(p2, .lst x2), (p1, .lst x1), (p0, .lst x0), (a, .lst [.int n7, .int c7, .bl f7])] H7 at L7
    walk_at "g"
    refine FOR.range (fun j σ H' => ∃ (x0 x1 x2 : List V) (r0 r1 r2 : List Row) (v5 : Option V), σ = [some (.ref a), some (.ref b), some (.ref q), some (.ref bb), some (.int pk), v5] ∧
        LF F5 [(p2, .lst x2), (p1, .lst x1), (p0, .lst x0), (a, .lst [.int n7, .int c7, .bl f7])] H' ∧
        DpAll K (cut H a) x0 (r0.map rowP) ∧ DpAll K (cut H a) x1 (r1.map rowP) ∧ DpAll K (cut H a) x2 (r2.map rowP) ∧ r0.Sublist (rs.take (if 0 < j then i + 1 else i)) ∧ r1.Sublist (rs.take (if 1 < j then i + 1 else i)) ∧ r2.Sublist (rs.take (if 2 < j then i + 1 else i)))
      ⟨x0, x1, x2, r0, r1, r2, _, rfl, L7, d0, d1, d2, b0, b1, b2⟩ ?_ ?_
    · rintro j σ H8 hj ⟨x0, x1, x2, r0, r1, r2, v5, rfl, L8, d0, d1, d2, b0, b1, b2⟩
      have hj3 : j = 0 ∨ j = 1 ∨ j = 2 := by
        have : j < 3 := hj
        omega
      have q8 : H8 q = some (.lst [.ref p0, .ref p1, .ref p2]) := L8.atF e5
      rcases hj3 with rfl | rfl | rfl
      · walk_at "g"
        refine i_ifd (fun he => ?_) (fun hne => ?_)
        · walk_at "g"
          · rename_i q9 H9 m9 M9 H10 M10
            exact ⟨_, x1, x2, r0 ++ [r], r1, r2, _, rfl, M10.tl, (by rw [List.map_append]; exact DpAll.app d0 (.cons dr .nil)), d1, d2, (by simpa using sub_one (by simpa using b0) hr1), (by simpa using b1), (by simpa using b2)⟩
          · exact lim d0 (by simpa using b0)
        · walk_at "g"
          rename_i q9 H9 m9 M9
          exact ⟨x0, x1, x2, r0, r1, r2, _, rfl, M9.tl, d0, d1, d2, (by simpa using sub_zero (by simpa using b0)), (by simpa using b1), (by simpa using b2)⟩
      · walk_at "g"
        refine i_ifd (fun he => ?_) (fun hne => ?_)
        · walk_at "g"
          · rename_i q9 H9 m9 M9 H10 M10
            exact ⟨x0, _, x2, r0, r1 ++ [r], r2, _, rfl, M10.tl, d0, (by rw [List.map_append]; exact DpAll.app d1 (.cons dr .nil)), d2, (by simpa using b0), (by simpa using sub_one (by simpa using b1) hr1), (by simpa using b2)⟩
          · exact lim d1 (by simpa using b1)
        · walk_at "g"
          rename_i q9 H9 m9 M9
          exact ⟨x0, x1, x2, r0, r1, r2, _, rfl, M9.tl, d0, d1, d2, (by simpa using b0), (by simpa using sub_zero (by simpa using b1)), (by simpa using b2)⟩
      · walk_at "g"
        refine i_ifd (fun he => ?_) (fun hne => ?_)
        · walk_at "g"
          · rename_i q9 H9 m9 M9 H10 M10
            exact ⟨x0, x1, _, r0, r1, r2 ++ [r], _, rfl, M10.tl, d0, d1, (by rw [List.map_append]; exact DpAll.app d2 (.cons dr .nil)), (by simpa using b0), (by simpa using b1), (by simpa using sub_one (by simpa using b2) hr1)⟩
          · exact lim d2 (by simpa using b2)
        · walk_at "g"
          rename_i q9 H9 m9 M9
          exact ⟨x0, x1, x2, r0, r1, r2, _, rfl, M9.tl, d0, d1, d2, (by simpa using b0), (by simpa using b1), (by simpa using sub_zero (by simpa using b2))⟩
    · rintro σ H8 ⟨x0, x1, x2, r0, r1, r2, v5, rfl, L8, d0, d1, d2, b0, b1, b2⟩
      walk_at "g"
      exact ⟨x0, x1, x2, r0, r1, r2, n7, c7, f7, _, _, _, rfl, L8, hn7, hc7, by omega, d0, d1, d2, b0, b1, b2⟩
  · rintro σ H6 ⟨x0, x1, x2, r0, r1, r2, n, c, f, v3, v4, v5, rfl, L6, hn, hc, hm, d0, d1, d2, b0, b1, b2⟩
    walk_at "g"
    rw [hxl, List.take_length] at b0 b1 b2
    have bt := L6.but s5
    have c5 : Same F5 (cut H6 a) := fun b u e => by
      rw [cut_ne (ne_of_none e (L6.new (a, .lst [.int n, .int c, .bl f]) (by simp)))]
      exact L6.same b u e
    have cc := cut_cut bt
    exact k H6 q p0 p1 p2 r0 r1 r2 ⟨n, c, f, L6.at3, hn, hc, by omega⟩ bt (c5 _ _ e5) (.lst (.inl (.inl (lf_cutat L6 3 2 rfl rfl (by decide)))) (DpAll.mono cc _ _ d0)) (.lst (.inl (.inl (lf_cutat L6 3 1 rfl rfl (by decide)))) (DpAll.mono cc _ _ d1))
      (.lst (.inl (.inl (lf_cutat L6 3 0 rfl rfl (by decide)))) (DpAll.mono cc _ _ d2)) b0 b1 b2
def inP (xs : List Row) (r : Row) : Bool := decide (r ∈ xs)
theorem sub_filter : ∀ {xs rs : List Row}, xs.Sublist rs → rs.Pairwise ltR → xs = rs.filter (inP xs) := by
  intro xs rs h
  induction h with
  | slnil => intro _; rfl
  | cons r s ih =>
    rename_i l1 l2
    intro hp
    rw [List.pairwise_cons] at hp
    have : r ∉ l1 := fun hm => lt_ne (hp.1 r (s.subset hm)) rfl
    rw [List.filter_cons_of_neg (by simpa [inP] using this)]
    exact ih hp.2
  | cons_cons r s ih =>
    rename_i l1 l2
    intro hp
    rw [List.pairwise_cons] at hp
    rw [List.filter_cons_of_pos (by simp [inP])]
    congr 1
    have e : l2.filter (inP (r :: l1)) = l2.filter (inP l1) := List.filter_congr fun x hx => by
      have : x ≠ r := fun e => lt_ne (hp.1 x hx) e.symm
      simp [inP, this]
    rw [e]
    exact ih hp.2
theorem pour_sub {rs : List Row} {p q : Row → Bool} {n : Nat} (h : rs.Pairwise ltR) (hn : n = (rs.filter p).length + (rs.filter q).length) : pour n (rs.filter p) (rs.filter q) [] = rs.filter fun r => p r || q r := by
  have := pour_filter p q rs [] n h (fun r _ => by simp) hn
  simpa using this
theorem pour_in {rs xs ys : List Row} (h : rs.Pairwise ltR) (hx : xs.Sublist rs) (hy : ys.Sublist rs) : pour (xs.length + ys.length) xs ys [] = rs.filter fun r => inP xs r || inP ys r := by
  have e1 := sub_filter hx h
  have e2 := sub_filter hy h
  have h1 := pour_sub (p := inP xs) (q := inP ys) (n := xs.length + ys.length) h (by rw [← e1, ← e2])
  rw [← e1, ← e2] at h1
  exact h1
theorem pour_nil (rs : List Row) (h : rs.Pairwise ltR) : pour (rs.length + ([] : List Row).length) rs [] [] = rs := by
  rw [pour_in h (List.Sublist.refl _) (List.nil_sublist _)]
  exact List.filter_eq_self.mpr fun r hr => by simp [inP, hr]
theorem nil_pour (rs : List Row) (h : rs.Pairwise ltR) : pour (([] : List Row).length + rs.length) [] rs [] = rs := by
  rw [pour_in h (List.nil_sublist _) (List.Sublist.refl _)]
  exact List.filter_eq_self.mpr fun r hr => by simp [inP, hr]
theorem last_filter {α : Type} {p : α → Bool} {r : α} : ∀ {l : List α}, l.getLast? = some r → p r = true → (l.filter p).getLast? = some r := by
  intro l h hp
  rcases List.eq_nil_or_concat l with rfl | ⟨l, x, rfl⟩
  · cases h
  · have : x = r := by simpa using h
    subst this
    simp [List.filter_append, hp]
theorem thin_idem (n : Int) (rs : List Row) : thinL n (thinL n rs) = thinL n rs := by
  have h : ∀ r ∈ thinL n rs, thinP n (thinL n rs) r = true := fun r hr => by
    have h2 := (List.mem_filter.mp hr).2
    unfold thinP at h2 ⊢
    rw [Bool.or_eq_true] at h2 ⊢
    rcases h2 with h2 | h2
    · exact .inl h2
    · refine .inr ?_
      rw [Bool.and_eq_true] at h2 ⊢
      refine ⟨?_, h2.2⟩
      have h3 := of_decide_eq_true h2.1
      rw [val_last] at h3
      refine decide_eq_true ?_
      rw [val_last]
      unfold thinL
      rw [List.filter_filter]
      have e : rs.filter (fun a => upTo n r.1 a && thinP n rs a) = (rs.filter (upTo n r.1)).filter (thinP n rs) := by
        rw [List.filter_filter]
        exact List.filter_congr fun a _ => Bool.and_comm _ _
      rw [e]
      exact last_filter h3 (List.mem_filter.mp hr).2
  exact List.filter_eq_self.mpr h
theorem pairs_lay (ps : List (Int × Int)) : Lay 2 (pairsP ps) := Lay.list fun d hd => by
  obtain ⟨p, _, rfl⟩ := List.mem_map.mp hd
  exact Lay.tuple fun d hd => by
    have : d = .int p.1 ∨ d = .int p.2 := by simpa using hd
    rcases this with rfl | rfl
    · exact Lay.int _ _
    · exact Lay.int _ _
theorem i_inRows {H : Hp} {Q : VK} {v w : V} {r : Row} {rs : List Row} (h1 : Dp K H v (rowP r)) (h2 : Dp K H w (rowsP rs)) (h : Q (.bl (inP rs r)) H) : rInD K v w H Q := by
  refine ⟨rowP r, rs.map rowP, h1, h2, (row_lay 0 r).shaped (by decide), (rows_lay rs).shaped (by decide), ?_⟩
  have e : ((rs.map rowP).any fun z => PyData.eqv z (rowP r)) = inP rs r := by
    rw [List.any_map]
    unfold inP
    rw [Bool.eq_iff_iff, List.any_eq_true]
    constructor
    · rintro ⟨x, hx, h⟩
      have h : PyData.eqv (rowP x) (rowP r) = true := h
      rw [row_eqv] at h
      have := of_decide_eq_true h
      subst this
      exact decide_eq_true hx
    · intro h
      refine ⟨r, of_decide_eq_true h, ?_⟩
      show PyData.eqv (rowP r) (rowP r) = true
      rw [row_eqv]
      exact decide_eq_true rfl
  rw [e]
  exact h
theorem inP_filter {rs : List Row} {p : Row → Bool} {r : Row} (h : r ∈ rs) : inP (rs.filter p) r = p r := by
  unfold inP
  rw [Bool.eq_iff_iff]
  simp [h]
theorem frz_ex {F H : Hp} {p : Addr} {o : HO} {l : List (Addr × HO)} (L : LF F ((p, o) :: l) H) : ∃ F', Same F F' ∧ F' p = some o ∧ LF F' l H :=
  ⟨upd F p o, same_upd (L.new (p, o) (List.mem_cons_self ..)), upd_same, L.frz⟩
theorem rows_at {H : Hp} {p : Addr} {xs : List V} {rs : List Row} (e : H p = some (.lst xs)) (d : DpAll K H xs (rs.map rowP)) : Dp K H (.ref p) (rowsP rs) := .lst (.inl (.inl e)) d
def spRight (K : PySem.W.Frag) : Sp := fun vs H Q _ => ∃ (a b : Addr) (m : Int) (rs : List Row), vs = [.ref a, .ref b] ∧ DrawAt H a m ∧ m < 2000 ∧ Dp K (cut H a) (.ref b) (rowsP rs) ∧ rs.length < 64 ∧ rs.Pairwise ltR ∧
  ∀ H', But a H H' → Q (.bl true) H'
theorem ok_l_right (T : Top K mg x) : FnOk P w K mg base CX0 3 x.f_l_right x.d_l_right ["_law_draws_here", "_law_rows_here"] (spRight K) := by
  have G_l_known := ok_l_known (P := P) (w := w) (K := K) (base := base) T
  have G_l_next := ok_l_next (P := P) (w := w) (K := K) (base := base) T
  have G_l_parts := ok_l_parts (P := P) (w := w) (K := K) (base := base) T
  have G_known := ok_known (P := P) (w := w) (K := K) (base := base) T
  have G_poured := ok_poured (P := P) (w := w) (K := K) (base := base) T
  have G_thinned := ok_thinned (P := P) (w := w) (K := K) (base := base) T
  refine T.d_l_right.F.ok sc_l_right (fun vs H Q E h => ?_) (fun cdv A outer s H vs Q E hr h => ?_)
  · obtain ⟨a, b, m, rs, rfl, dr, hm2, hd, hl, hs, k⟩ := h
    rfl
  obtain ⟨a, b, m, rs, rfl, dr, hm2, hd, hl, hs, k⟩ := h
  refine ⟨_, (pss_cons (ps_asg (pe_call G_l_parts (hr.mono (by decide)) rfl T.d_l_parts.m T.d_l_parts.F.kp T.d_l_parts.b .nil pass0 (pa_cons (pv 0) (pa_cons (pv 1) pa_nil))) (pg_unl (n := 3) rfl (pgs_cons (pg_name (i := 2) sc_l_right.nd rfl (by first | exact Or.inl rfl | exact Or.inr rfl)) (pgs_cons (pg_name (i := 3) sc_l_right.nd rfl (by first | exact Or.inl rfl | exact Or.inr rfl)) (pgs_cons (pg_name (i := 4) sc_l_right.nd rfl (Or.inl rfl)) pgs_nil)))))
    (pss_cons (ps_setLc (i := 6) (own := [("_law_row", 5)]) rfl sc_l_right.nd rfl rfl (sw_true rfl rfl rfl (by decide +kernel)) (pi_list (pv 1)) (blkOk_by (own := [("_law_row", 5)]) (N := ["_law_draws_here", "_law_rows_here", "_law_a_one", "_law_a_two", "_law_three", "_law_row", "_law_due", "_law_handed", "_law_told", "_law_kept", "_law_first", "_law_second", "_law_third", "_law_whole", "_law_number", "_law_at"]) (sc := defScope s_l_right) (by decide +kernel)) (fun _ _ _ _ _ => (pg_name (i := 5) sc_l_right.nd rfl (by first | exact Or.inl rfl | exact Or.inr rfl))) (fun _ _ _ _ _ => (pts_one (PW.pt (pw_or (pt_cmpR (G.k_inD (K := K) rfl hr.u65) (pv 5) (pv 2) (by with_unfolding_all rfl)) (pw_or1 (pt_cmpR (G.k_inD (K := K) rfl hr.u65) (pv 5) (pv 3) (by with_unfolding_all rfl))))))) (fun _ _ _ _ _ => (pv 5)))
    (pss_cons (ps_set (i := 7) sc_l_right.nd rfl (Or.inl rfl) (pe_lst (pa_cons (pe_callTy G.c_listOf (by rfl) T.n_list (by decide +kernel) (pa_cons (pv 2) pa_nil)) (pa_cons (pe_callTy G.c_listOf (by rfl) T.n_list (by decide +kernel) (pa_cons (pv 3) pa_nil)) pa_nil))))
    (pss_cons (ps_set (i := 8) sc_l_right.nd rfl (Or.inl rfl) (pe_call G_poured (hr.mono (by decide)) rfl T.d_poured.m T.d_poured.F.kp T.d_poured.b .nil pass0 (pa_cons (pe_ix ix_list (pv 7) pe_int (fun _ _ => rfl)) (pa_cons (pe_ix ix_list (pv 7) pe_int (fun _ _ => rfl)) pa_nil))))
    (pss_cons (ps_if (PW.pt (pw_or (pt_cmpR (op_neD hr.units) (pv 8) (pv 6) (nomark _)) (pw_or (pt_cmpR (op_neD hr.units) (pe_call G_poured (hr.mono (by decide)) rfl T.d_poured.m T.d_poured.F.kp T.d_poured.b .nil pass0 (pa_cons (pv 3) (pa_cons (pv 2) pa_nil))) (pv 6) (nomark _)) (pw_or (pt_cmpR (op_neD hr.units) (pv 7) (pe_lst (pa_cons (pv 2) (pa_cons (pv 3) pa_nil))) (nomark _)) (pw_or1 (pt_cmpR (op_neD hr.units) (G.pe_callN0 G_poured (hr.mono (by decide)) rfl T.d_poured.m T.d_poured.F.kp T.k_poured_0_1_0 pass0 (pk_cons (pv 2) (pk_cons (pv 3) pk_nil))) (pv 6) (nomark _))))))) (pss_one (ps_ret pe_bl)) pss_nil)
    (pss_cons (ps_set (i := 9) sc_l_right.nd rfl (Or.inl rfl) (pe_callTy G.c_listOf (by rfl) T.n_list (by decide +kernel) (pa_cons (pv 2) pa_nil)))
    (pss_cons (ps_par3 (i := 10) (j := 11) (l := 12) (by rfl) sc_l_right.nd rfl rfl rfl (by decide) (by decide) (by decide) rfl rfl rfl (pa_cons (pe_call G_poured (hr.mono (by decide)) rfl T.d_poured.m T.d_poured.F.kp T.d_poured.b .nil pass0 (pa_cons (pv 2) (pa_cons (pv 2) pa_nil))) (pa_cons (pe_call G_poured (hr.mono (by decide)) rfl T.d_poured.m T.d_poured.F.kp T.d_poured.b .nil pass0 (pa_cons (pv 2) (pa_cons (pe_lst pa_nil) pa_nil))) (pa_cons (pe_call G_poured (hr.mono (by decide)) rfl T.d_poured.m T.d_poured.F.kp T.d_poured.b .nil pass0 (pa_cons (pe_lst pa_nil) (pa_cons (pv 2) pa_nil))) pa_nil))) (by rfl))
    (pss_cons (ps_if (pt_cmpR (op_neD hr.units) (pe_lst (pa_cons (pv 10) (pa_cons (pv 11) (pa_cons (pv 12) (pa_cons (pe_call G_poured (hr.mono (by decide)) rfl T.d_poured.m T.d_poured.F.kp T.d_poured.b .nil pass0 (pa_cons (pe_lst pa_nil) (pa_cons (pe_lst pa_nil) pa_nil))) pa_nil))))) (pe_lst (pa_cons (pv 9) (pa_cons (pv 9) (pa_cons (pv 9) (pa_cons (pe_lst pa_nil) pa_nil))))) (nomark _)) (pss_one (ps_ret pe_bl)) pss_nil)
    (pss_cons (ps_expr (pe_bm PySem.F.plainAttrs_list PySem.F.slot_list_append PySem.F.type_list_append mt_append (pv 10) (pa_cons pe_non pa_nil)))
    (pss_cons (ps_expr (pe_bm PySem.F.plainAttrs_list PySem.F.slot_list_append PySem.F.type_list_append mt_append (pv 11) (pa_cons pe_non pa_nil)))
    (pss_cons (ps_expr (pe_bm PySem.F.plainAttrs_list PySem.F.slot_list_append PySem.F.type_list_append mt_append (pv 12) (pa_cons pe_non pa_nil)))
    (pss_cons (ps_if (pt_cmpR (op_neD hr.units) (pv 2) (pv 9) (nomark _)) (pss_one (ps_ret pe_bl)) pss_nil)
    (pss_cons (ps_set (i := 13) sc_l_right.nd rfl (by first | exact Or.inl rfl | exact Or.inr rfl) (pe_call G_poured (hr.mono (by decide)) rfl T.d_poured.m T.d_poured.F.kp T.d_poured.b .nil pass0 (pa_cons (pe_call G_poured (hr.mono (by decide)) rfl T.d_poured.m T.d_poured.F.kp T.d_poured.b .nil pass0 (pa_cons (pv 2) (pa_cons (pv 3) pa_nil))) (pa_cons (pv 4) pa_nil))))
    (pss_cons (ps_if (PW.pt (pw_or (pt_cmpR (op_neD hr.units) (pv 13) (pe_call G_poured (hr.mono (by decide)) rfl T.d_poured.m T.d_poured.F.kp T.d_poured.b .nil pass0 (pa_cons (pv 2) (pa_cons (pe_call G_poured (hr.mono (by decide)) rfl T.d_poured.m T.d_poured.F.kp T.d_poured.b .nil pass0 (pa_cons (pv 3) (pa_cons (pv 4) pa_nil))) pa_nil))) (nomark _)) (pw_or1 (pt_cmpR (op_neD hr.units) (pv 13) (pe_call G_poured (hr.mono (by decide)) rfl T.d_poured.m T.d_poured.F.kp T.d_poured.b .nil pass0 (pa_cons (pe_call G_poured (hr.mono (by decide)) rfl T.d_poured.m T.d_poured.F.kp T.d_poured.b .nil pass0 (pa_cons (pv 4) (pa_cons (pv 2) pa_nil))) (pa_cons (pv 3) pa_nil))) (nomark _))))) (pss_one (ps_ret pe_bl)) pss_nil)
    (pss_cons (ps_set (i := 14) sc_l_right.nd rfl (Or.inl rfl) (pe_op op_mod (pe_call G_l_next (hr.mono (by decide)) rfl T.d_l_next.m T.d_l_next.F.kp T.d_l_next.b .nil pass0 (pa_cons (pv 0) pa_nil)) pe_int))
    (pss_cons (ps_for PassesOwn.never rfl (pi_list (pe_lst (pa_cons (pv 14) (pa_cons pe_int (pa_cons pe_int pa_nil))))) (pg_name (i := 15) sc_l_right.nd rfl (Or.inl rfl))
      (pss_one (ps_if (pt_cmpR (op_neD hr.units) (pe_call G_known (hr.mono (by decide)) rfl T.d_known.m T.d_known.F.kp T.d_known.b .nil pass0 (pa_cons (pv 13) (pa_cons (pv 15) pa_nil))) (pe_call G_l_known (hr.mono (by decide)) rfl T.d_l_known.m T.d_l_known.F.kp T.d_l_known.b .nil pass0 (pa_cons (pe_lc (own := [("_law_row", 5)]) rfl sc_l_right.nd (pi_list (pv 1)) (blkOk_by (own := [("_law_row", 5)]) (N := ["_law_draws_here", "_law_rows_here", "_law_a_one", "_law_a_two", "_law_three", "_law_row", "_law_due", "_law_handed", "_law_told", "_law_kept", "_law_first", "_law_second", "_law_third", "_law_whole", "_law_number", "_law_at"]) (sc := defScope s_l_right) (by decide +kernel)) (fun _ _ _ _ _ => (pg_name (i := 5) sc_l_right.nd rfl (by first | exact Or.inl rfl | exact Or.inr rfl))) (fun _ _ _ _ _ => (pts_one (pt_cmpR (G.k_inD (K := K) rfl hr.u65) (pv 5) (pv 13) (by with_unfolding_all rfl)))) (fun _ _ _ _ _ => (pv 5))) (pa_cons (pv 15) pa_nil))) (nomark _)) (pss_one (ps_ret pe_bl)) pss_nil)))
    (pss_cons (ps_expr (pe_bm PySem.F.plainAttrs_list PySem.F.slot_list_append PySem.F.type_list_append mt_append (pv 8) (pa_cons pe_non pa_nil)))
    (pss_one (ps_ret (pe_and (pe_cmpR (op_eqD hr.units) (pe_call G_thinned (hr.mono (by decide)) rfl T.d_thinned.m T.d_thinned.F.kp T.d_thinned.b .nil pass0 (pa_cons (pv 13) (pa_cons (pv 14) pa_nil))) (pe_call G_thinned (hr.mono (by decide)) rfl T.d_thinned.m T.d_thinned.F.kp T.d_thinned.b .nil pass0 (pa_cons (pe_call G_poured (hr.mono (by decide)) rfl T.d_poured.m T.d_poured.F.kp T.d_poured.b .nil pass0 (pa_cons (pe_call G_thinned (hr.mono (by decide)) rfl T.d_thinned.m T.d_thinned.F.kp T.d_thinned.b .nil pass0 (pa_cons (pv 13) (pa_cons (pv 14) pa_nil))) (pa_cons (pe_lst pa_nil) pa_nil))) (pa_cons (pv 14) pa_nil))) (nomark _)) (pe_one (pe_cmpR (op_eqD hr.units) (pe_call G_poured (hr.mono (by decide)) rfl T.d_poured.m T.d_poured.F.kp T.d_poured.b .nil pass0 (pa_cons (pv 2) (pa_cons (pv 3) pa_nil))) (pv 6) (nomark _))))))))))))))))))))))), ?_⟩
  walk_at "g"
  refine ⟨a, b, m, rs, rfl, dr, hm2, hd, hl, fun H1 q p0 p1 p2 r0 r1 r2 dr1 b1 eq d0 d1 d2 u0 u1 u2 => ?_⟩
  obtain ⟨n, c, f, ha, hn, hc, hm⟩ := dr1
  have L1 : LF (cut H1 a) [(a, .lst [.int n, .int c, .bl f])] H1 := LF.one ha
  have hd1 := Dp.mono (cut_cut b1) _ _ hd
  obtain ⟨_, xb, e, sb, db⟩ := Dp.list_inv hd1
  cases e
  have hxb : xb.length = rs.length := by rw [DpAll.len db, List.length_map]
  walk_at "g"
  refine LCN.data (K := K) (walk_list (xs := xb)) L1 (fun _ l => l = [(a, .lst [.int n, .int c, .bl f])]) (fun i => rs[i]?.bind fun r => if (inP r0 r || inP r1 r) = true then some (rowP r) else none) (by omega) rfl ?_ ?_ ?_
  · rintro i D acc F2 l2 H3 sF z L
    exact (sF.trans L.same).seq sb
  · rintro i x D acc F1 l1 H3 H4 hi sF rfl L1 dp ⟨rfl, hx⟩
    obtain ⟨r, hr1, bb, rfl, hb⟩ := rows_get (DpAll.mono sF _ _ db) hx
    obtain ⟨_, ev, dr⟩ := DpAll.getD (DpAll.mono sF _ _ db) (d := rowP r) (i := i) (by rw [List.getElem?_map, hr1]; rfl)
    rw [hx] at ev
    cases ev
    have sF4 := sF.trans L1.same
    walk_at "g"
    refine i_inRows (Dp.mono L1.same _ _ dr) (Dp.mono sF4 _ _ d0) ?_
    walk_at "g"
    refine i_ifb (fun h0 => ?_) (fun h0 => ?_)
    · refine i_ift rfl ?_
      walk_at "g"
      exact LCY.of dp sF (by omega) (Same.refl _) rfl L1 (by rw [hr1]; simp [h0]) dr
    · walk_at "g"
      refine i_inRows (Dp.mono L1.same _ _ dr) (Dp.mono sF4 _ _ d1) ?_
      walk_at "g"
      refine i_ifb (fun h1 => ?_) (fun h1 => ?_)
      · walk_at "g"
        exact LCY.of dp sF (by omega) (Same.refl _) rfl L1 (by rw [hr1]; simp [h1]) dr
      · exact LCP.no dp sF (Same.refl _) rfl L1 (by rw [hr1]; simp [h0, h1])
  · rintro D acc F2 l2 H3 nD nF2 sF rfl L2 dp
    rw [hxb, filterMap_range, filterMap_if] at dp
    generalize edue : rs.filter (fun r => inP r0 r || inP r1 r) = due at dp
    have l0 := u0.length_le
    have l1 := u1.length_le
    have l2 := u2.length_le
    obtain ⟨F3, s3, eD, L3⟩ := frz_ex L2
    have s03 := sF.trans s3
    obtain ⟨_, x0, e, q0, g0⟩ := Dp.list_inv (Dp.mono s03 _ _ d0)
    cases e
    obtain ⟨_, x1, e, q1, g1⟩ := Dp.list_inv (Dp.mono s03 _ _ d1)
    cases e
    have dD := rows_at eD (DpAll.mono s3 _ _ dp)
    walk_at "g"
    rename_i t0 H4 n4 L4 t1 H5 n5 L5 th H6 n6 L6
    obtain ⟨F4, s4, e4, L7⟩ := frz_ex L6
    obtain ⟨F5, s5, e5, L8⟩ := frz_ex L7
    obtain ⟨F6, s6, e6, L9⟩ := frz_ex L8
    have s36 := s4.trans (s5.trans s6)
    have s06 := s03.trans s36
    have eh := s6 _ _ (s5 _ _ e4)
    have dh0 := rows_at e6 (DpAll.mono s36 _ _ g0)
    have dh1 := rows_at (s6 _ _ e5) (DpAll.mono s36 _ _ g1)
    refine ⟨F6, t0, t1, r0, r1, rfl, L9.same, dh0, dh1, by omega, fun H10 to xo s10 no eo do_ => ?_⟩
    rw [pour_in hs u0 u1, edue] at do_
    have L10 := L9.new' s10 no eo
    have f0 := Dp.mono s06 _ _ d0
    have f1 := Dp.mono s06 _ _ d1
    have f2 := Dp.mono s06 _ _ d2
    have fD := Dp.mono s36 _ _ dD
    have edue2 : rs.filter (fun r => inP r1 r || inP r0 r) = due := by
      rw [← edue]
      exact List.filter_congr fun r _ => Bool.or_comm _ _
    have lay2 : Lay 3 (.list [rowsP r0, rowsP r1]) := Lay.list fun d hd => by
      have : d = rowsP r0 ∨ d = rowsP r1 := by simpa using hd
      rcases this with rfl | rfl <;> exact rows_lay _
    walk_at "g"
    refine i_neSame (rows_at L10.at0 (DpAll.mono L10.same _ _ do_)) (Dp.mono L10.same _ _ fD) (rows_lay due) (by decide) ?_
    walk_at "g"
    refine i_iff rfl ?_
    walk_at "g"
    refine ⟨F6, p1, p0, r1, r0, rfl, L10.same, f1, f0, by omega, fun H11 t11 x11 s11 n11 e11 do11 => ?_⟩
    rw [pour_in hs u1 u0, edue2] at do11
    have L11 := L10.step s11
    walk_at "g"
    refine i_neSame (rows_at e11 (DpAll.mono L11.same _ _ do11)) (Dp.mono L11.same _ _ fD) (rows_lay due) (by decide) ?_
    walk_at "g"
    refine i_iff rfl ?_
    walk_at "g"
    rename_i q12 H12 n12 L12
    refine i_neSame (d := .list [rowsP r0, rowsP r1]) (.lst (.inl (.inl (L12.atF eh))) (.cons (Dp.mono L12.same _ _ dh0) (.cons (Dp.mono L12.same _ _ dh1) .nil))) (.lst (.inl (.inl L12.at0)) (.cons (Dp.mono L12.same _ _ f0) (.cons (Dp.mono L12.same _ _ f1) .nil))) lay2 (by decide) ?_
    walk_at "g"
    refine i_iff rfl ?_
    walk_at "g"
    have L12 := L12.tl
    refine ⟨rfl, rfl, F6, p1, p0, r1, r0, rfl, L12.same, f1, f0, by omega, fun H13 t13 x13 s13 n13 e13 do13 => ?_⟩
    rw [pour_in hs u1 u0, edue2] at do13
    have L13 := L12.step s13
    walk_at "g"
    refine i_neSame (rows_at e13 (DpAll.mono L13.same _ _ do13)) (Dp.mono L13.same _ _ fD) (rows_lay due) (by decide) ?_
    walk_at "g"
    refine i_iff rfl ?_
    have q06 := s36.seq q0
    walk_at "g"
    rename_i kp H14 n14 L14
    obtain ⟨F7, s7, e7, L15⟩ := frz_ex L14
    have g07 := Dp.mono s7 _ _ f0
    refine ⟨F7, p0, p0, r0, r0, rfl, L15.same, g07, g07, by omega, fun H16 ta xa s16 n16 e16 do16 => ?_⟩
    have hs0 := hs.sublist u0
    have self0 : pour (r0.length + r0.length) r0 r0 [] = r0 := by
      rw [pour_in hs0 (List.Sublist.refl _) (List.Sublist.refl _)]
      exact List.filter_eq_self.mpr fun r hr => by simp [inP, hr]
    rw [self0] at do16
    have L16 := L15.new' s16 n16 e16
    walk_at "g"
    rename_i z1 H17 n17 L17
    obtain ⟨F8, s8, e8, L18⟩ := frz_ex L17
    refine ⟨F8, p0, z1, r0, [], rfl, L18.same, Dp.mono s8 _ _ g07, rows_at e8 .nil, by simp; omega, fun H19 tb xb' s19 n19 e19 do19 => ?_⟩
    rw [pour_nil r0 hs0] at do19
    have L19 := L18.new' s19 n19 e19
    walk_at "g"
    rename_i z2 H20 n20 L20
    obtain ⟨F9, s9, e9, L21⟩ := frz_ex L20
    have s79 := s8.trans s9
    refine ⟨F9, z2, p0, [], r0, rfl, L21.same, rows_at e9 .nil, Dp.mono s79 _ _ g07, by simp; omega, fun H22 tc xc s22 n22 e22 do22 => ?_⟩
    rw [nil_pour r0 hs0] at do22
    have L22 := L21.new' s22 n22 e22
    walk_at "g"
    rename_i z3 H23 n23 L23 z4 H24 n24 L24
    obtain ⟨F10, s10', e10, L25⟩ := frz_ex L24
    obtain ⟨F11, s11', e11', L26⟩ := frz_ex L25
    refine ⟨F11, z3, z4, [], [], rfl, L26.same, rows_at e11' .nil, rows_at (s11' _ _ e10) .nil, by simp, fun H27 td xd s27 n27 e27 do27 => ?_⟩
    have L27 := L26.new' s27 n27 e27
    have s711 := s79.trans (s10'.trans s11')
    have g011 := Dp.mono s711 _ _ g07
    have lay4 : Lay 3 (.list [rowsP r0, rowsP r0, rowsP r0, rowsP []]) := Lay.list fun d hd => by
      have : d = rowsP r0 ∨ d = rowsP [] := by simpa using hd
      rcases this with rfl | rfl <;> exact rows_lay _
    have k7 := rows_at e7 (DpAll.mono (s36.trans s7) _ _ g0)
    have k11 := Dp.mono s711 _ _ k7
    walk_at "g"
    rename_i w1 H28 n28 L28 w2 H29 n29 L29 w3 H30 n30 L30
    have m19 := DpAll.mono (s9.trans (s10'.trans (s11'.trans L30.same))) _ _ do19
    have m16 := DpAll.mono (s8.trans (s9.trans (s10'.trans (s11'.trans L30.same)))) _ _ do16
    have m22 := DpAll.mono (s10'.trans (s11'.trans L30.same)) _ _ do22
    have m27 := DpAll.mono L30.same _ _ do27
    have mk := Dp.mono L30.same _ _ k11
    refine i_neSame (d := .list [rowsP r0, rowsP r0, rowsP r0, rowsP []])
      (.lst (.inl (.inl (L30.at_ 2 _ _ rfl))) (.cons (rows_at (L30.at_ 6 _ _ rfl) m16) (.cons (rows_at (L30.at_ 5 _ _ rfl) m19) (.cons (rows_at (L30.at_ 4 _ _ rfl) m22) (.cons (rows_at (L30.at_ 3 _ _ rfl) m27) .nil)))))
      (.lst (.inl (.inl (L30.at_ 0 _ _ rfl))) (.cons mk (.cons mk (.cons mk (.cons (rows_at (L30.at_ 1 _ _ rfl) .nil) .nil))))) lay4 (by decide) ?_
    have L31 := L30.tl.tl.tl.tl
    walk_at "g"
    refine i_iff rfl ?_
    have lim : ∀ {F : Hp} {x : List V}, DpAll K F x (r0.map rowP) → x.length < sizeLine := fun {F x} d => by
      rw [DpAll.len d, List.length_map, sizeLine_eq]
      omega
    walk_at "g"
    rotate_left
    · exact lim do16
    · exact lim do19
    · exact lim do22
    rename_i H32 L32 H33 L33 H34 L34
    have L35 := L34.tl.tl.tl
    refine i_neSame (Dp.mono L35.same _ _ g011) (Dp.mono L35.same _ _ k11) (rows_lay r0) (by decide) ?_
    walk_at "g"
    refine i_iff rfl ?_
    have s611 := s7.trans s711
    have h0 := Dp.mono s611 _ _ f0
    have h1 := Dp.mono s611 _ _ f1
    have h2 := Dp.mono s611 _ _ f2
    have hD := Dp.mono s611 _ _ fD
    have ud : due.Sublist rs := edue ▸ List.filter_sublist
    have ld := ud.length_le
    walk_at "g"
    refine ⟨F11, p0, p1, r0, r1, rfl, L35.same, h0, h1, by omega, fun H36 t36 x36 s36' n36 e36 do36 => ?_⟩
    rw [pour_in hs u0 u1, edue] at do36
    obtain ⟨F12, s12, e12, L36⟩ := frz_ex (L35.new' s36' n36 e36)
    walk_at "g"
    refine ⟨F12, t36, p2, due, r2, rfl, L36.same, rows_at e12 (DpAll.mono s12 _ _ do36), Dp.mono s12 _ _ h2, by omega, fun H37 wo xw s37 n37 e37 do37 => ?_⟩
    rw [pour_in hs ud u2] at do37
    generalize eW : rs.filter (fun r => inP due r || inP r2 r) = W at do37
    obtain ⟨F13, s13', e13', L37⟩ := frz_ex (L36.new' s37 n37 e37)
    have s1113 := s12.trans s13'
    have uW : W.Sublist rs := eW ▸ List.filter_sublist
    have lW := uW.length_le
    have hW := rows_at e13' (DpAll.mono s13' _ _ do37)
    have j0 := Dp.mono s1113 _ _ h0
    have j1 := Dp.mono s1113 _ _ h1
    have j2 := Dp.mono s1113 _ _ h2
    have jD := Dp.mono s1113 _ _ hD
    have inD : ∀ r ∈ rs, inP due r = (inP r0 r || inP r1 r) := fun r hr => by rw [← edue]; exact inP_filter hr
    walk_at "g"
    refine ⟨F13, p1, p2, r1, r2, rfl, L37.same, j1, j2, by omega, fun H38 t38 x38 s38 n38 e38 do38 => ?_⟩
    rw [pour_in hs u1 u2] at do38
    have lS := (List.filter_sublist (l := rs) (p := fun r => inP r1 r || inP r2 r)).length_le
    obtain ⟨F14, s14, e14, L38⟩ := frz_ex (L37.new' s38 n38 e38)
    walk_at "g"
    refine ⟨F14, p0, t38, r0, _, rfl, L38.same, Dp.mono s14 _ _ j0, rows_at e14 (DpAll.mono s14 _ _ do38), by omega, fun H39 t39 x39 s39 n39 e39 do39 => ?_⟩
    have eW1 : pour (r0.length + (rs.filter fun r => inP r1 r || inP r2 r).length) r0 (rs.filter fun r => inP r1 r || inP r2 r) [] = W := by
      rw [pour_in hs u0 List.filter_sublist, ← eW]
      refine List.filter_congr fun r hr => ?_
      rw [inP_filter hr, inD r hr, Bool.or_assoc]
    rw [eW1] at do39
    have L39 := L38.step s39
    walk_at "g"
    refine i_neSame (Dp.mono (s14.trans L39.same) _ _ hW) (rows_at e39 (DpAll.mono L39.same _ _ do39)) (rows_lay W) (by decide) ?_
    walk_at "g"
    refine i_iff rfl ?_
    walk_at "g"
    refine ⟨F14, p2, p0, r2, r0, rfl, L39.same, Dp.mono s14 _ _ j2, Dp.mono s14 _ _ j0, by omega, fun H40 t40 x40 s40 n40 e40 do40 => ?_⟩
    rw [pour_in hs u2 u0] at do40
    have lS2 := (List.filter_sublist (l := rs) (p := fun r => inP r2 r || inP r0 r)).length_le
    obtain ⟨F15, s15, e15, L40⟩ := frz_ex (L39.new' s40 n40 e40)
    walk_at "g"
    refine ⟨F15, t40, p1, _, r1, rfl, L40.same, rows_at e15 (DpAll.mono s15 _ _ do40), Dp.mono (s14.trans s15) _ _ j1, by omega, fun H41 t41 x41 s41 n41 e41 do41 => ?_⟩
    have eW2 : pour ((rs.filter fun r => inP r2 r || inP r0 r).length + r1.length) (rs.filter fun r => inP r2 r || inP r0 r) r1 [] = W := by
      rw [pour_in hs List.filter_sublist u1, ← eW]
      refine List.filter_congr fun r hr => ?_
      rw [inP_filter hr, inD r hr]
      cases inP r0 r <;> cases inP r1 r <;> cases inP r2 r <;> rfl
    rw [eW2] at do41
    have L41 := L40.step s41
    walk_at "g"
    refine i_neSame (Dp.mono (s14.trans (s15.trans L41.same)) _ _ hW) (rows_at e41 (DpAll.mono L41.same _ _ do41)) (rows_lay W) (by decide) ?_
    walk_at "g"
    refine i_iff rfl ?_
    walk_at "g"
    refine ⟨a, m + 64, rfl, ⟨n, c, f, L41.at1, hn, hc, hm⟩, by omega, fun z H42 z0 z1' ⟨n42, c42, f42, e42, hn42, hc42, hm42⟩ b42 => ?_⟩
    have L42 := (L41.swap.mut0 b42 e42).swap
    walk_at "g"
    rename_i ql H43 n43 L43
    obtain ⟨F16, s16, e16, L44⟩ := frz_ex L43
    have s1316 := s14.trans (s15.trans s16)
    have kW := Dp.mono s1316 _ _ hW
    have sb16 : SqL K F16 b xb := (s03.trans (s36.trans (s611.trans (s1113.trans s1316)))).seq sb
    have db16 := DpAll.mono (s03.trans (s36.trans (s611.trans (s1113.trans s1316)))) _ _ db
    generalize en : z % 42 = num at e16
    refine FOR.list (xs := [V.int num, .int 0, .int 41]) (fun i σ H' => ∃ v15, σ = [some (.ref a), some (.ref b), some (.ref p0), some (.ref p1), some (.ref p2), none, some (.ref D), some (.ref th), some (.ref to), some (.ref kp), some (.ref ta), some (.ref tb), some (.ref tc), some (.ref wo), some (.int num), v15] ∧
        LF F16 [(to, .lst xo), (a, .lst [.int n42, .int c42, .bl f42])] H') ⟨none, by rw [← en]; rfl, L44⟩ (fun i σ H _ ⟨_, _, L⟩ => .inl (.inl (L.atF e16))) ?_ ?_
    · rintro i x σ H45 hx ⟨v15, rfl, L45⟩
      obtain ⟨at_, rfl⟩ : ∃ k : Int, x = .int k := by
        have := List.mem_of_getElem? hx
        simp at this
        rcases this with rfl | rfl | rfl <;> exact ⟨_, rfl⟩
      walk_at "g"
      refine ⟨wo, W, at_, rfl, Dp.mono L45.same _ _ kW, by omega, fun H46 tk s46 n46 dk => ?_⟩
      have L46 := L45.step s46
      have sb46 := L46.same.seq sb16
      have db46 := DpAll.mono L46.same _ _ db16
      have N46 : LF H46 [] H46 := LF.nil
      walk_at "g"
      refine LCN.data (K := K) (walk_list (xs := xb)) N46 (fun _ l => l = []) (fun i => rs[i]?.bind fun r => if inP W r = true then some (rowP r) else none) (by omega) rfl ?_ ?_ ?_
      · rintro i D acc F2 l2 H3 sF z L
        exact (sF.trans L.same).seq sb46
      · rintro i x D acc F1 l1 H3 H4 hi sF rfl L1 dp ⟨rfl, hx⟩
        obtain ⟨r, hr1, bb, rfl, hb⟩ := rows_get (DpAll.mono sF _ _ db46) hx
        obtain ⟨_, ev, dr⟩ := DpAll.getD (DpAll.mono sF _ _ db46) (d := rowP r) (i := i) (by rw [List.getElem?_map, hr1]; rfl)
        rw [hx] at ev
        cases ev
        walk_at "g"
        refine i_inRows (Dp.mono L1.same _ _ dr) (Dp.mono (L46.same.trans (sF.trans L1.same)) _ _ kW) ?_
        walk_at "g"
        refine i_ifb (fun h0 => ?_) (fun h0 => ?_)
        · walk_at "g"
          exact LCY.of dp sF (by omega) (Same.refl _) rfl L1 (by rw [hr1]; simp [h0]) dr
        · exact LCP.no dp sF (Same.refl _) rfl L1 (by rw [hr1]; simp [h0])
      · rintro D2 acc F2 l2 H47 nD nF2 sF rfl L47 dp
        rw [hxb, filterMap_range, filterMap_if, ← sub_filter uW hs] at dp
        walk_at "g"
        refine ⟨D2, W, at_, rfl, rows_at L47.at0 (DpAll.mono L47.same _ _ dp), by omega, hs.sublist uW, fun H48 tl s48 n48 dl => ?_⟩
        walk_at "g"
        refine i_neSame (Dp.mono (sF.trans (L47.same.trans s48)) _ _ dk) dl (pairs_lay _) (by decide) ?_
        walk_at "g"
        refine i_iff rfl ?_
        walk_at "g"
        exact ⟨_, rfl, L46.step (sF.trans (L47.same.trans s48))⟩
    · rintro σ H45 ⟨v15, rfl, L45⟩
      walk_at "g"
      rotate_left
      · rw [DpAll.len do_, List.length_map, sizeLine_eq]
        omega
      rename_i H50 L50
      have bt : But a H H50 := fun b o e ne => by
        have e1 := b1 b o e ne
        exact L50.same _ _ ((s03.trans (s36.trans (s611.trans (s1113.trans s1316)))) b o (by rw [cut_ne ne]; exact e1))
      have lT : (thinL num W).length ≤ W.length := List.length_filter_le _ _
      have sT : (thinL num W).Pairwise ltR := (hs.sublist uW).sublist List.filter_sublist
      refine ⟨wo, W, num, rfl, Dp.mono L50.same _ _ kW, by omega, fun H51 tp xp s51 n51 e51 d51 => ?_⟩
      walk_at "g"
      refine ⟨wo, W, num, rfl, Dp.mono (L50.same.trans s51) _ _ kW, by omega, fun H52 tq xq s52 n52 e52 d52 => ?_⟩
      have N52 : LF H52 [] H52 := LF.nil
      walk_at "g"
      rename_i z5 H53 n53 L53
      obtain ⟨F53, s53, e53, N53⟩ := frz_ex L53
      refine ⟨F53, tq, z5, thinL num W, [], rfl, N53.same, rows_at (s53 _ _ e52) (DpAll.mono s53 _ _ d52), rows_at e53 .nil, by simp; omega, fun H54 tr xr s54 n54 e54 do54 => ?_⟩
      rw [pour_nil _ sT] at do54
      walk_at "g"
      refine ⟨tr, thinL num W, num, rfl, rows_at e54 (DpAll.mono (N53.same.trans s54) _ _ do54), by omega, fun H55 tu xu s55 n55 e55 d55 => ?_⟩
      rw [thin_idem] at d55
      have s5155 := s52.trans (s53.trans (N53.same.trans (s54.trans s55)))
      walk_at "g"
      refine i_eqSame (rows_at (s5155 _ _ e51) (DpAll.mono s5155 _ _ d51)) (rows_at e55 d55) (rows_lay _) (by decide) ?_
      walk_at "g"
      refine i_ift rfl ?_
      walk_at "g"
      have sE := (s1316.trans (L50.same.trans (s51.trans s5155)))
      refine ⟨H55, p0, p1, r0, r1, rfl, Same.refl _, Dp.mono sE _ _ j0, Dp.mono sE _ _ j1, by omega, fun H56 tz xz s56 n56 e56 do56 => ?_⟩
      rw [pour_in hs u0 u1, edue] at do56
      walk_at "g"
      refine i_eqSame (rows_at e56 (DpAll.mono s56 _ _ do56)) (Dp.mono (sE.trans s56) _ _ jD) (rows_lay due) (by decide) ?_
      walk_at "g"
      exact k H56 fun b o e ne => s56 _ _ (s5155 _ _ (s51 _ _ (bt b o e ne)))
def spLaw (K : PySem.W.Frag) : Sp := fun vs H Q _ => ∃ (a : Addr) (ns : List Int), vs = [.ref a] ∧ SqL K H a (ns.map V.int) ∧ ns.length ≤ 63 ∧ ∀ H', Q (.bl true) H'
theorem cut_int {ns : List Int} {lo hi : Option Int} {i : Nat} {x : V} {zs : List Int} (h : (cutV (ns.map V.int) lo hi ++ zs.map V.int)[i]? = some x) : ∃ n, x = .int n := G.cut_int h
theorem ok_law (T : Top K mg x) : FnOk P w K mg base CX0 4 x.f_law x.d_law ["_law_script"] (spLaw K) := by
  have G_l_draws := ok_l_draws (P := P) (w := w) (K := K) (base := base) T
  have G_l_right := ok_l_right (P := P) (w := w) (K := K) (base := base) T
  have G_l_rows := ok_l_rows (P := P) (w := w) (K := K) (base := base) T
  refine T.d_law.F.ok sc_law (fun vs H Q E h => ?_) (fun cdv A outer s H vs Q E hr h => ?_)
  · obtain ⟨a, ns, rfl, hS, hlen, k⟩ := h
    rfl
  obtain ⟨a, ns, rfl, hS, hlen, k⟩ := h
  refine ⟨_, (pss_cons (ps_for PassesOwn.never rfl (pi_list (pe_op op_cat (pe_slice sl_list (pv 0) po_none (po_some pe_int)) (pe_lst (pa_cons pe_int pa_nil)))) (pg_name (i := 1) sc_law.nd rfl (Or.inl rfl))
      (pss_cons (ps_set (i := 2) sc_law.nd rfl (Or.inl rfl) (pe_call G_l_draws (hr.mono (by decide)) rfl T.d_l_draws.m T.d_l_draws.F.kp T.d_l_draws.b .nil pass0 (pa_cons (pv 1) pa_nil)))
    (pss_one (ps_if (pt_not (pt_val (pe_call G_l_right (hr.mono (by decide)) rfl T.d_l_right.m T.d_l_right.F.kp T.d_l_right.b .nil pass0 (pa_cons (pv 2) (pa_cons (pe_call G_l_rows (hr.mono (by decide)) rfl T.d_l_rows.m T.d_l_rows.F.kp T.d_l_rows.b .nil pass0 (pa_cons (pv 2) (pa_cons pe_int pa_nil))) pa_nil))))) (pss_one (ps_ret pe_bl)) pss_nil))))
    (pss_one (ps_ret pe_bl))), ?_⟩
  have L0 : LF H [] H := LF.nil
  walk_at "g"
  rotate_left
  · have := cutV_length (ns.map V.int) none (some 6)
    rw [List.length_map] at this
    exact Nat.le_trans (Nat.add_le_add_right this _) (Nat.le_trans (Nat.add_le_add_right hlen _) (sz rfl))
  rename_i p1 H1 n1 L1 p2 H2 n2 L2 p3 H3 n3 L3
  obtain ⟨F, sF, eF, L4⟩ := frz_ex L3
  have L5 := L4.tl.tl
  refine FOR.list (xs := cutV (ns.map V.int) none (some 6) ++ [V.int 0]) (fun i σ H4 => ∃ v1 v2 : Option V, σ = [some (.ref a), v1, v2] ∧ LF F [] H4) ⟨none, none, rfl, L5⟩ (fun i σ H _ ⟨_, _, _, L⟩ => .inl (.inl (L.atF eF))) ?_ ?_
  · rintro i x σ H4 hx ⟨v1, v2, rfl, L6⟩
    obtain ⟨c, rfl⟩ := cut_int (zs := [0]) hx
    walk_at "g"
    refine ⟨c, rfl, fun H5 p5 S5 n5 D5 => ?_⟩
    walk_at "g"
    refine ⟨p5, 0, 40, rfl, D5, by omega, fun H6 p6 rs D6 B6 n6 d6 w6 l6 => ?_⟩
    walk_at "g"
    refine ⟨p5, p6, _, rs, rfl, D6, by omega, d6, l6, w6, fun H7 B7 => ?_⟩
    walk_at "g"
    refine iteF ?_
    walk_at "g"
    refine ⟨_, _, rfl, ⟨fun b o e => ?_, fun j b o e => by simp at e, fun q hq => (by cases hq), List.nodup_nil⟩⟩
    have e4 := L6.same b o e
    have nb : b ≠ p5 := ne_of_none e4 n5
    exact B7 b o (B6 b o (S5 b o e4) nb) nb
  · rintro σ H4 ⟨v1, v2, rfl, L6⟩
    walk_at "g"
    exact k _
end
theorem all_mk {l : PySem.W.OpenLaw} {w : World} {K : PySem.W.Frag} {h : Heap} {mg : Str → Option Value} {fa f1 f2 f3 f4 f5 f6 f7 f8 f9 f10 f11 f12 : Addr} (X : K.In h) (hG : h.Ns mainGlobals mg) (hfa : mg "law" = some (.ref fa))
    {oc1 : Value} {od1 an1 : Option Addr} {sl1 : Array (Option Value)} {kV1 dc1 pm1 cd1 ct1 : Value} {oc2 : Value} {od2 an2 : Option Addr} {sl2 : Array (Option Value)} {kV2 dc2 pm2 cd2 ct2 : Value} {oc3 : Value} {od3 an3 : Option Addr} {sl3 : Array (Option Value)} {kV3 dc3 pm3 cd3 ct3 : Value} {oc4 : Value} {od4 an4 : Option Addr} {sl4 : Array (Option Value)} {kV4 dc4 pm4 cd4 ct4 : Value} {oc5 : Value} {od5 an5 : Option Addr} {sl5 : Array (Option Value)} {kV5 dc5 pm5 cd5 ct5 : Value} {oc6 : Value} {od6 an6 : Option Addr} {sl6 : Array (Option Value)} {kV6 dc6 pm6 cd6 ct6 : Value} {oc7 : Value} {od7 an7 : Option Addr} {sl7 : Array (Option Value)} {kV7 dc7 pm7 cd7 ct7 : Value} {oc8 : Value} {od8 an8 : Option Addr} {sl8 : Array (Option Value)} {kV8 dc8 pm8 cd8 ct8 : Value} {oc9 : Value} {od9 an9 : Option Addr} {sl9 : Array (Option Value)} {kV9 dc9 pm9 cd9 ct9 : Value} {oc10 : Value} {od10 an10 : Option Addr} {sl10 : Array (Option Value)} {kV10 dc10 pm10 cd10 ct10 : Value} {oc11 : Value} {od11 an11 : Option Addr} {sl11 : Array (Option Value)} {kV11 dc11 pm11 cd11 ct11 : Value} {oc12 : Value} {od12 an12 : Option Addr} {sl12 : Array (Option Value)} {kV12 dc12 pm12 cd12 ct12 : Value}
    (a1 : PySem.W.nsIn K mainGlobals "last_rows" = some (some (.ref f1))) (l1 : K.lookup f1 = some ⟨oc1, od1, .func (PySem.W.fnOf "last_rows" "last_rows" (defArgs s_last_rows) (defBody s_last_rows) (defScope s_last_rows) .none kV1 dc1 pm1 an1 cd1 ct1), sl1⟩) (c1 : PySem.W.codeIn K cd1 "last_rows" = true) (k1 : PySem.W.keepIn K (.ref f1) = true)
    (a2 : PySem.W.nsIn K mainGlobals "known" = some (some (.ref f2))) (l2 : K.lookup f2 = some ⟨oc2, od2, .func (PySem.W.fnOf "known" "known" (defArgs s_known) (defBody s_known) (defScope s_known) .none kV2 dc2 pm2 an2 cd2 ct2), sl2⟩) (c2 : PySem.W.codeIn K cd2 "known" = true) (k2 : PySem.W.keepIn K (.ref f2) = true)
    (a3 : PySem.W.nsIn K mainGlobals "thinned" = some (some (.ref f3))) (l3 : K.lookup f3 = some ⟨oc3, od3, .func (PySem.W.fnOf "thinned" "thinned" (defArgs s_thinned) (defBody s_thinned) (defScope s_thinned) .none kV3 dc3 pm3 an3 cd3 ct3), sl3⟩) (c3 : PySem.W.codeIn K cd3 "thinned" = true) (k3 : PySem.W.keepIn K (.ref f3) = true)
    (a4 : PySem.W.nsIn K mainGlobals "poured" = some (some (.ref f4))) (l4 : K.lookup f4 = some ⟨oc4, od4, .func (PySem.W.fnOf "poured" "poured" (defArgs s_poured) (defBody s_poured) (defScope s_poured) .none kV4 dc4 pm4 an4 cd4 ct4), sl4⟩) (c4 : PySem.W.codeIn K cd4 "poured" = true) (k4 : PySem.W.keepIn K (.ref f4) = true)
    (a5 : PySem.W.nsIn K mainGlobals "_law_draws" = some (some (.ref f5))) (l5 : K.lookup f5 = some ⟨oc5, od5, .func (PySem.W.fnOf "_law_draws" "_law_draws" (defArgs s_l_draws) (defBody s_l_draws) (defScope s_l_draws) .none kV5 dc5 pm5 an5 cd5 ct5), sl5⟩) (c5 : PySem.W.codeIn K cd5 "_law_draws" = true) (k5 : PySem.W.keepIn K (.ref f5) = true)
    (a6 : PySem.W.nsIn K mainGlobals "_law_next" = some (some (.ref f6))) (l6 : K.lookup f6 = some ⟨oc6, od6, .func (PySem.W.fnOf "_law_next" "_law_next" (defArgs s_l_next) (defBody s_l_next) (defScope s_l_next) .none kV6 dc6 pm6 an6 cd6 ct6), sl6⟩) (c6 : PySem.W.codeIn K cd6 "_law_next" = true) (k6 : PySem.W.keepIn K (.ref f6) = true)
    (a7 : PySem.W.nsIn K mainGlobals "_law_rows" = some (some (.ref f7))) (l7 : K.lookup f7 = some ⟨oc7, od7, .func (PySem.W.fnOf "_law_rows" "_law_rows" (defArgs s_l_rows) (defBody s_l_rows) (defScope s_l_rows) .none kV7 dc7 pm7 an7 cd7 ct7), sl7⟩) (c7 : PySem.W.codeIn K cd7 "_law_rows" = true) (k7 : PySem.W.keepIn K (.ref f7) = true)
    (a8 : PySem.W.nsIn K mainGlobals "_law_last" = some (some (.ref f8))) (l8 : K.lookup f8 = some ⟨oc8, od8, .func (PySem.W.fnOf "_law_last" "_law_last" (defArgs s_l_last) (defBody s_l_last) (defScope s_l_last) .none kV8 dc8 pm8 an8 cd8 ct8), sl8⟩) (c8 : PySem.W.codeIn K cd8 "_law_last" = true) (k8 : PySem.W.keepIn K (.ref f8) = true)
    (a9 : PySem.W.nsIn K mainGlobals "_law_known" = some (some (.ref f9))) (l9 : K.lookup f9 = some ⟨oc9, od9, .func (PySem.W.fnOf "_law_known" "_law_known" (defArgs s_l_known) (defBody s_l_known) (defScope s_l_known) .none kV9 dc9 pm9 an9 cd9 ct9), sl9⟩) (c9 : PySem.W.codeIn K cd9 "_law_known" = true) (k9 : PySem.W.keepIn K (.ref f9) = true)
    (a10 : PySem.W.nsIn K mainGlobals "_law_parts" = some (some (.ref f10))) (l10 : K.lookup f10 = some ⟨oc10, od10, .func (PySem.W.fnOf "_law_parts" "_law_parts" (defArgs s_l_parts) (defBody s_l_parts) (defScope s_l_parts) .none kV10 dc10 pm10 an10 cd10 ct10), sl10⟩) (c10 : PySem.W.codeIn K cd10 "_law_parts" = true) (k10 : PySem.W.keepIn K (.ref f10) = true)
    (a11 : PySem.W.nsIn K mainGlobals "_law_right" = some (some (.ref f11))) (l11 : K.lookup f11 = some ⟨oc11, od11, .func (PySem.W.fnOf "_law_right" "_law_right" (defArgs s_l_right) (defBody s_l_right) (defScope s_l_right) .none kV11 dc11 pm11 an11 cd11 ct11), sl11⟩) (c11 : PySem.W.codeIn K cd11 "_law_right" = true) (k11 : PySem.W.keepIn K (.ref f11) = true)
    (a12 : PySem.W.nsIn K mainGlobals "law" = some (some (.ref f12))) (l12 : K.lookup f12 = some ⟨oc12, od12, .func (PySem.W.fnOf "law" "law" (defArgs s_law) (defBody s_law) (defScope s_law) .none kV12 dc12 pm12 an12 cd12 ct12), sl12⟩) (c12 : PySem.W.codeIn K cd12 "law" = true) (k12 : PySem.W.keepIn K (.ref f12) = true)
    (n_len : PySem.W.nsIn K mainGlobals "len" = some none)
    (n_list : PySem.W.nsIn K mainGlobals "list" = some none)
    (n_range : PySem.W.nsIn K mainGlobals "range" = some none)
    (n_set : PySem.W.nsIn K mainGlobals "set" = some none)
    (n_sorted : PySem.W.nsIn K mainGlobals "sorted" = some none) :
    ∃ fd : FuncData, (∀ (s : Shared) (v : Value), BindsTo s fd ⟨[v], []⟩ [("_law_script", v)]) ∧ ∀ base : Heap, K.In base → base.Ns mainGlobals mg → FnOk l.prog w K mg base CX0 4 fa fd ["_law_script"] (spLaw K) := by
  have e := hfa.symm.trans (PySem.W.mg_of X hG a12)
  cases e
  have F1 := fun_mk (st := s_last_rows) l1 c1 k1
  have D1 : G.DefAt K mg "last_rows" s_last_rows f1 _ ["rows", "number"] := ⟨F1, PySem.W.mg_of X hG a1, F1.binds (ps := ["rows", "number"]) fun _ _ _ _ _ _ us hl => match us, hl with | [_, _], _ => rfl⟩
  have F2 := fun_mk (st := s_known) l2 c2 k2
  have D2 : G.DefAt K mg "known" s_known f2 _ ["rows", "number"] := ⟨F2, PySem.W.mg_of X hG a2, F2.binds (ps := ["rows", "number"]) fun _ _ _ _ _ _ us hl => match us, hl with | [_, _], _ => rfl⟩
  have F3 := fun_mk (st := s_thinned) l3 c3 k3
  have D3 : G.DefAt K mg "thinned" s_thinned f3 _ ["rows", "number"] := ⟨F3, PySem.W.mg_of X hG a3, F3.binds (ps := ["rows", "number"]) fun _ _ _ _ _ _ us hl => match us, hl with | [_, _], _ => rfl⟩
  have F4 := fun_mk (st := s_poured) l4 c4 k4
  have D4 : G.DefAt K mg "poured" s_poured f4 _ ["one", "two"] := ⟨F4, PySem.W.mg_of X hG a4, F4.binds (ps := ["one", "two"]) fun _ _ _ _ _ _ us hl => match us, hl with | [_, _], _ => rfl⟩
  have F5 := fun_mk (st := s_l_draws) l5 c5 k5
  have D5 : G.DefAt K mg "_law_draws" s_l_draws f5 _ ["_law_cell"] := ⟨F5, PySem.W.mg_of X hG a5, F5.binds (ps := ["_law_cell"]) fun _ _ _ _ _ _ us hl => match us, hl with | [_], _ => rfl⟩
  have F6 := fun_mk (st := s_l_next) l6 c6 k6
  have D6 : G.DefAt K mg "_law_next" s_l_next f6 _ ["_law_draws_here"] := ⟨F6, PySem.W.mg_of X hG a6, F6.binds (ps := ["_law_draws_here"]) fun _ _ _ _ _ _ us hl => match us, hl with | [_], _ => rfl⟩
  have F7 := fun_mk (st := s_l_rows) l7 c7 k7
  have D7 : G.DefAt K mg "_law_rows" s_l_rows f7 _ ["_law_draws_here", "_law_most"] := ⟨F7, PySem.W.mg_of X hG a7, F7.binds (ps := ["_law_draws_here", "_law_most"]) fun _ _ _ _ _ _ us hl => match us, hl with | [_, _], _ => rfl⟩
  have F8 := fun_mk (st := s_l_last) l8 c8 k8
  have D8 : G.DefAt K mg "_law_last" s_l_last f8 _ ["_law_rows_here", "_law_number"] := ⟨F8, PySem.W.mg_of X hG a8, F8.binds (ps := ["_law_rows_here", "_law_number"]) fun _ _ _ _ _ _ us hl => match us, hl with | [_, _], _ => rfl⟩
  have F9 := fun_mk (st := s_l_known) l9 c9 k9
  have D9 : G.DefAt K mg "_law_known" s_l_known f9 _ ["_law_rows_here", "_law_number"] := ⟨F9, PySem.W.mg_of X hG a9, F9.binds (ps := ["_law_rows_here", "_law_number"]) fun _ _ _ _ _ _ us hl => match us, hl with | [_, _], _ => rfl⟩
  have F10 := fun_mk (st := s_l_parts) l10 c10 k10
  have D10 : G.DefAt K mg "_law_parts" s_l_parts f10 _ ["_law_draws_here", "_law_rows_here"] := ⟨F10, PySem.W.mg_of X hG a10, F10.binds (ps := ["_law_draws_here", "_law_rows_here"]) fun _ _ _ _ _ _ us hl => match us, hl with | [_, _], _ => rfl⟩
  have F11 := fun_mk (st := s_l_right) l11 c11 k11
  have D11 : G.DefAt K mg "_law_right" s_l_right f11 _ ["_law_draws_here", "_law_rows_here"] := ⟨F11, PySem.W.mg_of X hG a11, F11.binds (ps := ["_law_draws_here", "_law_rows_here"]) fun _ _ _ _ _ _ us hl => match us, hl with | [_, _], _ => rfl⟩
  have F12 := fun_mk (st := s_law) l12 c12 k12
  have D12 : G.DefAt K mg "law" s_law fa _ ["_law_script"] := ⟨F12, PySem.W.mg_of X hG a12, F12.binds (ps := ["_law_script"]) fun _ _ _ _ _ _ us hl => match us, hl with | [_], _ => rfl⟩
  have k_poured_0_1_0 := F4.kbn (ps := ["one", "two"]) 0 ["two", "one"] [1, 0] (fun _ _ _ _ _ _ us ws hu hw => match us, ws, hu, hw with | [], [_, _], _, _ => rfl)
  have T : Top K mg ⟨f1, _, f2, _, f3, _, f4, _, f5, _, f6, _, f7, _, f8, _, f9, _, f10, _, f11, _, fa, _⟩ := ⟨D1, D2, D3, D4, D5, D6, D7, D8, D9, D10, D11, D12, k_poured_0_1_0, PySem.W.mg_none_of X hG n_len, PySem.W.mg_none_of X hG n_list, PySem.W.mg_none_of X hG n_range, PySem.W.mg_none_of X hG n_set, PySem.W.mg_none_of X hG n_sorted⟩
  exact ⟨_, fun s v => .of_eq rfl, fun base _ _ => ok_law T⟩
theorem walk {l : PySem.W.OpenLaw} {q : Program} {loose : List Str} {XP : (Str → Option Value) → Heap → Prop} {YP : World → Heap → Prop} {d : DefRec} {K : Params → PySem.W.Frag} (hn : l.most = some 63) (hdf : d.params.defaults = [])
    (hY : ∀ (w : World) (h : Heap), YP w h → (K w.params).In h)
    (F : ∀ (w : World) (mg : Str → Option Value) (fa : Addr) (h : Heap), (K w.params).In h → h.Ns mainGlobals mg → mg d.name = some (.ref fa) →
      ∃ fd : FuncData, (∀ (s : Shared) (u : Value), BindsTo s fd ⟨[u], []⟩ [("_law_script", u)]) ∧ ∀ base : Heap, (K w.params).In base → base.Ns mainGlobals mg → FnOk l.prog w (K w.params) mg base CX0 4 fa fd ["_law_script"] (spLaw (K w.params))) :
    PySem.W.WalkO q loose XP YP l.row.toRowW d [] (fun f vs => PySem.call f vs) :=
  L2.walk_of (n := 63) (k := 4) (x := "_law_script") (CX := fun _ => CX0) (sp := fun w => spLaw (K w.params)) hn (by decide) hdf ⟨rfl, by decide, by decide⟩ hY F (fun _ _ a ns hl _ hS => ⟨a, ns, rfl, hS, hl, fun _ => rfl⟩) fun _ _ _ _ _ z => z
end K28
open PySem PySem.W PyProof.Rows
set_option maxRecDepth 100000 in
set_option maxHeartbeats 0 in
theorem PySem.Challenge.cw_timegranary_k28_whole_rows_poured_holds : PySem.Challenge.rw_timegranary_k28_whole_rows_poured.Holds := by
  w_on; o_law; k_head; (case hw => w_witness2)
  k_fill
  refine K28.walk (l := PySem.Challenge.rw_timegranary_k28_whole_rows_poured) rfl rfl (fun w h Y => PySem.W.kIn_of Y) ?F
  case F =>
    intro w mg fa h KX G hmg
    refine' K28.all_mk KX G hmg ?a1 ?l1 ?c1 ?k1 ?a2 ?l2 ?c2 ?k2 ?a3 ?l3 ?c3 ?k3 ?a4 ?l4 ?c4 ?k4 ?a5 ?l5 ?c5 ?k5 ?a6 ?l6 ?c6 ?k6 ?a7 ?l7 ?c7 ?k7 ?a8 ?l8 ?c8 ?k8 ?a9 ?l9 ?c9 ?k9 ?a10 ?l10 ?c10 ?k10 ?a11 ?l11 ?c11 ?k11 ?a12 ?l12 ?c12 ?k12 ?n_len ?n_list ?n_range ?n_set ?n_sorted
    (case a1 => k_is)
    (case l1 => k_is)
    (case c1 => k_is)
    (case k1 => k_is)
    (case a2 => k_is)
    (case l2 => k_is)
    (case c2 => k_is)
    (case k2 => k_is)
    (case a3 => k_is)
    (case l3 => k_is)
    (case c3 => k_is)
    (case k3 => k_is)
    (case a4 => k_is)
    (case l4 => k_is)
    (case c4 => k_is)
    (case k4 => k_is)
    (case a5 => k_is)
    (case l5 => k_is)
    (case c5 => k_is)
    (case k5 => k_is)
    (case a6 => k_is)
    (case l6 => k_is)
    (case c6 => k_is)
    (case k6 => k_is)
    (case a7 => k_is)
    (case l7 => k_is)
    (case c7 => k_is)
    (case k7 => k_is)
    (case a8 => k_is)
    (case l8 => k_is)
    (case c8 => k_is)
    (case k8 => k_is)
    (case a9 => k_is)
    (case l9 => k_is)
    (case c9 => k_is)
    (case k9 => k_is)
    (case a10 => k_is)
    (case l10 => k_is)
    (case c10 => k_is)
    (case k10 => k_is)
    (case a11 => k_is)
    (case l11 => k_is)
    (case c11 => k_is)
    (case k11 => k_is)
    (case a12 => k_is)
    (case l12 => k_is)
    (case c12 => k_is)
    (case k12 => k_is)
    (case n_len => k_is)
    (case n_list => k_is)
    (case n_range => k_is)
    (case n_set => k_is)
    (case n_sorted => k_is)

