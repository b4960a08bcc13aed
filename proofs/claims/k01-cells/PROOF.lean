import PyProof.Rows.All
import Wide.All
import OpenK.AllK
import Wide.FinOn
import HandS.ForMost
import HandS.Defaults
import HandS.Wide
import HandS.IsInst
import HandS.Conv
import PySem.Challenge.RW_timegranary_k01_cells
set_option Elab.async false
set_option linter.all false
set_option maxRecDepth 100000
set_option maxHeartbeats 4000000
namespace G
open PySem PySem.Spec PyProof.Rows L2

/-! ### the ledger -/
structure Led (H0 : Hp) (l : List (Addr × HO)) (H : Hp) : Prop where
  old : ∀ a o, H0 a = some o → (∀ q ∈ l, a ≠ q.1) → H a = some o
  at_ : ∀ (i : Nat) (a : Addr) (o : HO), l[i]? = some (a, o) → H a = some o
  nd : (l.map (·.1)).Nodup
section
variable {H0 H H' : Hp} {l : List (Addr × HO)} {p a : Addr} {o o' u : HO} {q q1 q2 q3 q4 q5 : Addr × HO}
theorem Led.nil : Led H [] H := ⟨fun _ _ h _ => h, fun i a o h => by simp at h, List.nodup_nil⟩
theorem Led.notin (L : Led H0 l H) (n : H p = none) : ∀ q ∈ l, p ≠ q.1 := fun q hq e => by
  obtain ⟨i, hi, hq⟩ := List.mem_iff_getElem.mp hq
  have h := L.at_ i q.1 q.2 (by rw [List.getElem?_eq_getElem hi, hq])
  rw [← e, n] at h
  cases h
theorem Led.fresh (L : Led H0 l H) (n : H p = none) : H0 p = none := by
  cases e : H0 p with
  | none => rfl
  | some u =>
    have h := L.old p u e (L.notin n)
    rw [n] at h
    cases h
theorem Led.new (L : Led H0 l H) (n : H p = none) : Led H0 ((p, o) :: l) (upd H p o) := by
  refine ⟨fun a u e h => ?_, fun i a u h => ?_, ?_⟩
  · rw [upd_ne (h _ (List.mem_cons_self ..))]
    exact L.old a u e fun q hq => h q (List.mem_cons_of_mem _ hq)
  · cases i with
    | zero =>
      simp at h
      obtain ⟨rfl, rfl⟩ := h
      exact upd_same
    | succ i =>
      have h2 := L.at_ i a u (by simpa using h)
      rw [upd_ne (ne_of_none h2 n)]
      exact h2
  · rw [List.map_cons, List.nodup_cons]
    refine ⟨fun hm => ?_, L.nd⟩
    obtain ⟨q, hq, e⟩ := List.mem_map.mp hm
    exact L.notin n q hq e.symm
theorem Led.same (L : Led H0 l H) (s : Same H H') : Led H0 l H' := ⟨fun a o e h => s a o (L.old a o e h), fun i a o h => s a o (L.at_ i a o h), L.nd⟩
theorem Led.made (L : Led H0 l H) (s : Same H H') (n : H p = none) (e : H' p = some o) : Led H0 ((p, o) :: l) H' := by
  refine ⟨fun a u e h => s _ _ (L.old a u e fun q hq => h q (List.mem_cons_of_mem _ hq)), fun i a u h => ?_, ?_⟩
  · cases i with
    | zero =>
      simp at h
      obtain ⟨rfl, rfl⟩ := h
      exact e
    | succ i => exact s _ _ (L.at_ i a u (by simpa using h))
  · rw [List.map_cons, List.nodup_cons]
    refine ⟨fun hm => ?_, L.nd⟩
    obtain ⟨q, hq, e⟩ := List.mem_map.mp hm
    exact L.notin n q hq e.symm
/-- an object that stood and is looked at -/
theorem Led.add (L : Led H0 l H) (e : H a = some o) (n : ∀ q ∈ l, a ≠ q.1) : Led H0 ((a, o) :: l) H := by
  refine ⟨fun b u e h => L.old b u e fun q hq => h q (List.mem_cons_of_mem _ hq), fun i b u h => ?_, ?_⟩
  · cases i with
    | zero =>
      simp at h
      obtain ⟨rfl, rfl⟩ := h
      exact e
    | succ i => exact L.at_ i b u (by simpa using h)
  · rw [List.map_cons, List.nodup_cons]
    refine ⟨fun hm => ?_, L.nd⟩
    obtain ⟨q, hq, e⟩ := List.mem_map.mp hm
    exact n q hq e.symm
theorem Led.one (e : H a = some o) : Led H [(a, o)] H := Led.nil.add e fun q hq => by simp at hq
theorem Led.mut (L : Led H0 l H) (i : Nat) (hi : l[i]? = some (p, o)) (k : ∀ b u, H b = some u → b ≠ p → H' b = some u) (e : H' p = some o') : Led H0 (l.set i (p, o')) H' := by
  have il := (List.getElem?_eq_some_iff.mp hi).1
  have nm : (l.set i (p, o')).map (·.1) = l.map (·.1) := by
    rw [List.map_set]
    apply List.ext_getElem?
    intro j
    by_cases hj : i = j
    · subst hj
      rw [List.getElem?_set_self (by simpa using il), List.getElem?_map, hi]
      rfl
    · rw [List.getElem?_set_ne hj]
  refine ⟨fun a u ea h => ?_, fun j a u h => ?_, ?_⟩
  · have hp : a ≠ p := h (p, o') (List.mem_iff_getElem?.mpr ⟨i, List.getElem?_set_self il⟩)
    refine k a u (L.old a u ea fun q hq => ?_) hp
    have : q.1 ∈ (l.set i (p, o')).map (·.1) := by
      rw [nm]
      exact List.mem_map_of_mem hq
    obtain ⟨q', hq', e'⟩ := List.mem_map.mp this
    rw [← e']
    exact h q' hq'
  · by_cases hj : i = j
    · subst hj
      rw [List.getElem?_set_self il] at h
      cases h
      exact e
    · rw [List.getElem?_set_ne hj] at h
      refine k a u (L.at_ j a u h) fun ea => hj ?_
      have h1 : (l.map (·.1))[i]? = some p := by rw [List.getElem?_map, hi]; rfl
      have h2 : (l.map (·.1))[j]? = some p := by rw [List.getElem?_map, h, ea]; rfl
      exact (List.getElem?_inj (by simpa using il) L.nd).mp (h1.trans h2.symm)
  · rw [nm]
    exact L.nd
theorem Led.set (L : Led H0 l H) (i : Nat) (hi : l[i]? = some (p, o)) : Led H0 (l.set i (p, o')) (upd H p o') :=
  L.mut i hi (fun b u e n => by rw [upd_ne n]; exact e) upd_same
theorem Led.at0 (L : Led H0 ((p, o) :: l) H) : H p = some o := L.at_ 0 p o rfl
theorem Led.at1 (L : Led H0 (q :: (p, o) :: l) H) : H p = some o := L.at_ 1 p o rfl
theorem Led.at2 (L : Led H0 (q :: q1 :: (p, o) :: l) H) : H p = some o := L.at_ 2 p o rfl
theorem Led.at3 (L : Led H0 (q :: q1 :: q2 :: (p, o) :: l) H) : H p = some o := L.at_ 3 p o rfl
theorem Led.at4 (L : Led H0 (q :: q1 :: q2 :: q3 :: (p, o) :: l) H) : H p = some o := L.at_ 4 p o rfl
theorem Led.at5 (L : Led H0 (q :: q1 :: q2 :: q3 :: q4 :: (p, o) :: l) H) : H p = some o := L.at_ 5 p o rfl
theorem Led.at6 (L : Led H0 (q :: q1 :: q2 :: q3 :: q4 :: q5 :: (p, o) :: l) H) : H p = some o := L.at_ 6 p o rfl
theorem Led.set0 (L : Led H0 ((p, o) :: l) H) : Led H0 ((p, o') :: l) (upd H p o') := L.set 0 rfl
theorem Led.set1 (L : Led H0 (q :: (p, o) :: l) H) : Led H0 (q :: (p, o') :: l) (upd H p o') := L.set 1 rfl
theorem Led.set2 (L : Led H0 (q :: q1 :: (p, o) :: l) H) : Led H0 (q :: q1 :: (p, o') :: l) (upd H p o') := L.set 2 rfl
theorem Led.set3 (L : Led H0 (q :: q1 :: q2 :: (p, o) :: l) H) : Led H0 (q :: q1 :: q2 :: (p, o') :: l) (upd H p o') := L.set 3 rfl
theorem Led.set4 (L : Led H0 (q :: q1 :: q2 :: q3 :: (p, o) :: l) H) : Led H0 (q :: q1 :: q2 :: q3 :: (p, o') :: l) (upd H p o') := L.set 4 rfl
theorem Led.set5 (L : Led H0 (q :: q1 :: q2 :: q3 :: q4 :: (p, o) :: l) H) : Led H0 (q :: q1 :: q2 :: q3 :: q4 :: (p, o') :: l) (upd H p o') := L.set 5 rfl
/-- one object fewer is looked at -/
theorem Led.tl (L : Led H0 ((p, o) :: l) H) (n : H0 p = none ∨ H0 p = some o) : Led H0 l H := by
  refine ⟨fun a u e h => ?_, fun i a u h => L.at_ (i + 1) a u (by simpa using h), ?_⟩
  · by_cases ha : a = p
    · subst ha
      rcases n with n | n
      · rw [n] at e
        cases e
      · rw [n] at e
        cases e
        exact L.at0
    · refine L.old a u e fun q hq => ?_
      rcases List.mem_cons.mp hq with rfl | hq
      · exact ha
      · exact h q hq
  · have := L.nd
    rw [List.map_cons, List.nodup_cons] at this
    exact this.2
theorem Led.tl1 (L : Led H0 (q :: (p, o) :: l) H) (n : H0 p = none ∨ H0 p = some o) : Led H0 (q :: l) H := by
  have nd := L.nd
  rw [List.map_cons, List.map_cons, List.nodup_cons, List.nodup_cons] at nd
  have L2 : Led H0 ((p, o) :: q :: l) H := by
    refine ⟨fun a u e h => L.old a u e fun x hx => h x ?_, fun i a u h => ?_, ?_⟩
    · rcases List.mem_cons.mp hx with rfl | hx
      · exact List.mem_cons_of_mem _ (List.mem_cons_self ..)
      · rcases List.mem_cons.mp hx with rfl | hx
        · exact List.mem_cons_self ..
        · exact List.mem_cons_of_mem _ (List.mem_cons_of_mem _ hx)
    · match i, h with
      | 0, h => exact L.at_ 1 a u h
      | 1, h => exact L.at_ 0 a u h
      | i + 2, h => exact L.at_ (i + 2) a u h
    · rw [List.map_cons, List.map_cons, List.nodup_cons, List.nodup_cons]
      refine ⟨fun h => ?_, fun h => nd.1 (List.mem_cons_of_mem _ h), nd.2.2⟩
      rcases List.mem_cons.mp h with h | h
      · exact nd.1 (by rw [h]; exact List.mem_cons_self ..)
      · exact nd.2.1 h
  exact L2.tl n
theorem Led.toSame (L : Led H0 [] H) : Same H0 H := fun a o e => L.old a o e fun q hq => by cases hq
/-- all but one stood still -/
theorem Led.but (L : Led H0 [(a, o)] H) : ∀ b u, H0 b = some u → b ≠ a → H b = some u := fun b u e n => L.old b u e fun q hq => by
  rcases List.mem_cons.mp hq with rfl | hq
  · exact n
  · cases hq
theorem Led.ne01 (L : Led H0 ((p, o) :: (a, u) :: l) H) : p ≠ a := fun e => by
  have := L.nd
  rw [List.map_cons, List.map_cons, List.nodup_cons] at this
  exact this.1 (by rw [e]; exact List.mem_cons_self ..)
end

/-! ### the steps of a reading -/
def NEWL (xs : List V) (H : Hp) (Q : VK) : Prop := xs.length ≤ sizeLine ∧ ∀ p, H p = none → Q (.ref p) (upd H p (.lst xs))
def NEWT (xs : List V) (H : Hp) (Q : VK) : Prop := xs.length ≤ sizeLine ∧ ∀ p, H p = none → Q (.ref p) (upd H p (.tup xs))
section
variable {te ta tb : TE} {t u : TS} {tt t1 t2 : TT} {tl : TA} {g : TG} {D : Ends} {σ : L2.St} {H H' H0 : Hp} {Q : VK} {QB : Bool → Hp → Prop} {QL : List V → Hp → Prop} {QS : L2.St → Hp → Prop} {v w : V} {vs : List V} {i j : Int} {n : Nat} {r : R2} {K : PySem.W.Frag} {p : Addr} {l : List (Addr × HO)} {xs : List V}
theorem i_seq (h : t { D with nx := u D } σ H) : tSeq t u D σ H := h
theorem i_next (h : D.nx σ H) : tNext D σ H := h
theorem i_cont (h : D.ct σ H) : tCont D σ H := h
theorem i_break (h : D.bk σ H) : tBreak D σ H := h
theorem i_asg (h : te σ H fun x H1 => g x σ H1 D.nx) : tAsg te g D σ H := h
theorem i_gname (h : QS (σ.set n (some v)) H) : gName n v σ H QS := h
theorem i_drop (h : te σ H fun _ H1 => D.nx σ H1) : tDrop te D σ H := h
theorem i_ret (h : te σ H D.rt) : tRet te D σ H := h
theorem i_retN (h : D.rt .non H) : tRetN D σ H := h
theorem i_ifS (h : tt σ H fun b H1 => if b = true then t D σ H1 else u D σ H1) : tIfS tt t u D σ H := h
theorem i_var (e : σ[n]? = some (some v)) (h : Q v H) : tVar n σ H Q := ⟨v, e, h⟩
theorem i_c (h : Q v H) : tC v σ H Q := h
theorem i_op (h : ta σ H fun x H1 => tb σ H1 fun y H2 => r x y H2 Q) : tOp r ta tb σ H Q := h
theorem i_un {r : V → Hp → VK → Prop} (h : ta σ H fun x H1 => r x H1 Q) : tUn r ta σ H Q := h
theorem i_I0 {f : Int → Int → V} (h : Q (f i j) H) : rI0 f (.int i) (.int j) H Q := ⟨i, j, rfl, rfl, h⟩
theorem i_I {C : Int → Int → Prop} {f : Int → Int → V} (c : C i j) (h : Q (f i j) H) : rI C f (.int i) (.int j) H Q := ⟨i, j, rfl, rfl, c, h⟩
theorem i_U {f : Int → V} (h : Q (f i) H) : rU f (.int i) H Q := ⟨i, rfl, h⟩
theorem i_eq (e : scal v w = true) (h : Q (.bl (decide (v = w))) H) : rEq v w H Q := ⟨e, h⟩
theorem i_ne (e : scal v w = true) (h : Q (.bl (!decide (v = w))) H) : rNe v w H Q := ⟨e, h⟩
theorem i_eqI (h : Q (.bl (decide (i = j))) H) : rEq (.int i) (.int j) H Q := ⟨rfl, by
  have : decide (V.int i = V.int j) = decide (i = j) := by simp
  rw [this]; exact h⟩
theorem i_neI (h : Q (.bl (!decide (i = j))) H) : rNe (.int i) (.int j) H Q := ⟨rfl, by
  have : decide (V.int i = V.int j) = decide (i = j) := by simp
  rw [this]; exact h⟩
theorem i_test (h : te σ H fun x H' => ∃ k, x = .bl k ∧ QB k H') : tTest te σ H QB := h
theorem i_B (h : te σ H fun x H' => ∃ k, x = .bl k ∧ QB k H') : tB te σ H QB := h
theorem i_bl {b : Bool} {QP : Bool → Prop} (h : QP b) : ∃ k, V.bl b = .bl k ∧ QP k := ⟨b, rfl, h⟩
theorem i_not (h : t1 σ H fun c H1 => QB (!c) H1) : tNot t1 σ H QB := h
theorem i_and (h : t1 σ H fun c H1 => if c = true then t2 σ H1 QB else QB false H1) : tAnd t1 t2 σ H QB := h
theorem i_or (h : t1 σ H fun c H1 => if c = true then QB true H1 else t2 σ H1 QB) : tOr t1 t2 σ H QB := h
theorem i_notV (h : ta σ H fun x H1 => ∃ c, x = .bl c ∧ Q (.bl (!c)) H1) : tNotV ta σ H Q := h
theorem i_andV (h : ta σ H fun x H1 => ∃ c, x = .bl c ∧ if c = true then tb σ H1 Q else Q (.bl false) H1) : tAndV ta tb σ H Q := h
theorem i_orV (h : ta σ H fun x H1 => ∃ c, x = .bl c ∧ if c = true then Q (.bl true) H1 else tb σ H1 Q) : tOrV ta tb σ H Q := h
theorem i_ifE (h : tt σ H fun c H1 => if c = true then ta σ H1 Q else tb σ H1 Q) : tIf tt ta tb σ H Q := h
theorem i_nil (h : QL [] H) : tNil σ H QL := h
theorem i_cons (h : ta σ H fun x H1 => tl σ H1 fun xs H2 => QL (x :: xs) H2) : tCons ta tl σ H QL := h
theorem i_tup (h : tl σ H fun xs H1 => NEWT xs H1 Q) : tTup tl σ H Q := h
theorem i_lst (h : tl σ H fun xs H1 => NEWL xs H1 Q) : tLst tl σ H Q := h
theorem i_new {k : List V → HO} (L : Led H0 l H) (s : vs.length ≤ sizeLine) (h : ∀ p H2, H p = none → H0 p = none → Led H0 ((p, k vs) :: l) H2 → Q (.ref p) H2) : vs.length ≤ sizeLine ∧ ∀ p, H p = none → Q (.ref p) (upd H p (k vs)) :=
  ⟨s, fun p np => h p _ np (L.fresh np) (L.new np)⟩
theorem i_fresh {o : HO} (L : Led H0 l H) (h : ∀ p H2, H p = none → H0 p = none → Led H0 ((p, o) :: l) H2 → Q (.ref p) H2) : ∀ p, H p = none → Q (.ref p) (upd H p o) :=
  fun p np => h p _ np (L.fresh np) (L.new np)
theorem i_call {sp : Sp} {dvs : List V} {E : XK} (h : tl σ H fun vs H1 => sp (vs ++ dvs) H1 Q E) : tCall sp dvs E tl σ H Q := h
theorem i_callN {sp : Sp} {m : Nat} {gV : List V → List V → List V} {E : XK} {tk : TA} (h : tl σ H fun vs H1 => tk σ H1 fun zs H2 => vs.length = n ∧ zs.length = m ∧ sp (gV vs zs) H2 Q E) : tCallN n m sp gV E tl tk σ H Q := h
theorem i_CB {r : List V → Hp → VK → Prop} (h : tl σ H fun vs H1 => r vs H1 Q) : tCB r tl σ H Q := h
theorem i_ixL (s : H p = some (.lst xs)) (a : atI xs i = some v) (h : Q v H) : rIxL K (.ref p) (.int i) H Q := ⟨p, xs, i, v, rfl, rfl, .inl (.inl s), a, h⟩
theorem i_ixLS (s : SqL K H p xs) (a : atI xs i = some v) (h : Q v H) : rIxL K (.ref p) (.int i) H Q := ⟨p, xs, i, v, rfl, rfl, s, a, h⟩
theorem i_ixT (s : H p = some (.tup xs)) (a : atI xs i = some v) (h : Q v H) : rIxT K (.ref p) (.int i) H Q := ⟨p, xs, i, v, rfl, rfl, .inl (.inl s), a, h⟩
theorem i_ixTS (s : SqT K H p xs) (a : atI xs i = some v) (h : Q v H) : rIxT K (.ref p) (.int i) H Q := ⟨p, xs, i, v, rfl, rfl, s, a, h⟩
theorem i_ifd {c A B : Prop} [Decidable c] (h1 : c → A) (h2 : ¬ c → B) : if decide c = true then A else B := by
  by_cases h : c
  · rw [if_pos (by simpa using h)]; exact h1 h
  · rw [if_neg (by simpa using h)]; exact h2 h
theorem i_ifnd {c A B : Prop} [Decidable c] (h1 : ¬ c → A) (h2 : c → B) : if (!decide c) = true then A else B := by
  by_cases h : c
  · rw [if_neg (by simpa using h)]; exact h2 h
  · rw [if_pos (by simpa using h)]; exact h1 h
theorem i_ifb {b : Bool} {A B : Prop} (h1 : b = true → A) (h2 : b = false → B) : if b = true then A else B := by
  cases b with
  | true => exact h1 rfl
  | false => exact h2 rfl
theorem i_ift {b : Bool} {A B : Prop} (e : b = true) (h : A) : if b = true then A else B := by rw [if_pos e]; exact h
theorem i_iff {b : Bool} {A B : Prop} (e : b = false) (h : B) : if b = true then A else B := by rw [if_neg (by simp [e])]; exact h
end

theorem atI_lt {α : Type} {xs : List α} {i : Int} (d : α) (h0 : 0 ≤ i) (h1 : i < xs.length) : atI xs i = some (xs.getD i.toNat d) := by
  obtain ⟨j, rfl⟩ : ∃ j : Nat, i = (j : Int) := ⟨i.toNat, by omega⟩
  refine atI_nat ?_
  rw [Int.toNat_natCast, List.getD_eq_getElem?_getD, List.getElem?_eq_getElem (by omega)]
  rfl
/-- an item of a list whose items all are such -/
theorem atI_all {α : Type} {xs : List α} {i : Int} (P : α → Prop) (hP : ∀ x ∈ xs, P x) (h0 : 0 ≤ i) (h1 : i < xs.length) : ∃ v, atI xs i = some v ∧ P v := by
  obtain ⟨j, rfl⟩ : ∃ j : Nat, i = (j : Int) := ⟨i.toNat, by omega⟩
  have hj : j < xs.length := by omega
  exact ⟨xs[j], atI_nat (List.getElem?_eq_getElem hj), hP _ (List.getElem_mem hj)⟩
end G

namespace G
open PySem PySem.Spec PyProof.Rows L2
/-! ### a def of the top -/
structure DefAt (K : PySem.W.Frag) (mg : Str → Option Value) (x : Str) (st : Stmt) (f : Addr) (fd : FuncData) (ps : List Str) : Prop where
  F : Fun K x x st f fd
  m : mg x = some (.ref f)
  b : Binds K fd ps []
def pickU (ix : List Nat) (us ws : List Value) : List Value := ix.map fun i => (us ++ ws).getD i .none
def pickV (ix : List Nat) (vs zs : List V) : List V := ix.map fun i => (vs ++ zs).getD i .non
theorem rel_getD : ∀ {vs : List V} {us : List Value} (i : Nat), Vals vs us → L2.RelV (vs.getD i .non) (us.getD i .none)
  | _, _, _, .nil => by simp [L2.RelV]
  | _, _, 0, .cons r _ => r
  | _, _, i + 1, .cons _ t => rel_getD i t
theorem rel_pick {vs zs : List V} {us ws : List Value} (r : Vals vs us) (rz : Vals zs ws) : ∀ ix : List Nat, Vals (pickV ix vs zs) (pickU ix us ws)
  | [] => .nil
  | i :: ix => .cons (rel_getD i (r.append rz)) (rel_pick r rz ix)
end G
namespace L2
open PySem PySem.Spec PyProof.Rows
theorem Fun.kbn {K : PySem.W.Frag} {x qual : Str} {st : Stmt} {f : Addr} {fd : FuncData} {ps : List Str} (F : Fun K x qual st f fd) (n : Nat) (ks : List Str) (ix : List Nat)
    (h : ∀ (kV doc pm : Value) (an : Option Addr) (cdv ct : Value) (us ws : List Value), us.length = n → ws.length = ks.length → bindArgs (PySem.W.fnOf x qual (defArgs st) (defBody st) (defScope st) .none kV doc pm an cdv ct) ⟨us, ks.zip ws⟩ = pure (ps.zip (G.pickU ix us ws))) :
    KBn K fd ps n ks (G.pickU ix) (G.pickV ix) := by
  obtain ⟨oc, od, kV, doc, pm, an, cdv, ct, osl, rfl, lk, hcd⟩ := F.ex
  exact ⟨fun s us ws _ h1 h2 => .of_eq (h kV doc pm an cdv ct us ws h1 h2), fun r rz => G.rel_pick r rz ix⟩
end L2
namespace G
open PySem PySem.Spec PyProof.Rows L2
section
variable {X : Cx} {CX : CXT} {k n : Nat} {f : Addr} {fd : FuncData} {ps ks : List Str} {sp : Sp} {E : XK} {x : Str} {p pos : Pos} {kws : List Keyword} {tk : TA} {g : List Value → List Value → List Value} {gV : List V → List V → List V}
/-- f(k = v, ..), keywords alone -/
theorem pe_callN0 (F : FnOk X.prog X.w X.K X.mg X.base CX k f fd ps sp) (hr : Room k X.A) (hg : Gl X x) (hm : X.mg x = some (.ref f)) (hk : PySem.W.keepIn X.K (.ref f) = true) (hb : KBn X.K fd ps 0 ks g gV) (hx : Passes CX X E)
    (hkw : PK X kws tk) (hall : (backToKw pos (keywordEach kws X.env)).all (·.1.isSome) = true := by rfl) (hks : (backToKw pos (keywordEach kws X.env)).filterMap (·.1) = ks := by rfl)
    (hdb : (x == ("__debug__" : Str)) = false := by decide)
    (hpl : ((backTo pos (starEach [] X.env)).any (·.1) || (backToKw pos (keywordEach kws X.env)).any (·.1.isNone)) = false := by rfl) :
    PE X (.Call (.Name x p) [] kws pos) (tCallN 0 ks.length sp gV E tNil tk) := by
  refine ⟨fun pins s σ H Q I h => ?_⟩
  refine wpAny_Call_Name_kw (ld_glob I hg hm ?_ hdb)
  refine PySem.W.callWith_KW0 (h₀ := X.base) I.ok.mod.kin hk hall ?_ hpl
  refine thn (hkw.run pos pins s σ H _ I h) fun ws s2 ⟨zs, H2, I2, rz, l1, l2, q2⟩ => ⟨I2.kIn, ?_⟩
  rw [hks]
  exact run_fnN F hr hb hx I2 .nil rz l1 l2 q2
end
/-! ### list(range(a, b, c)) -/
def PRg3 (X : Cx) (e : Expr) (t : L2.St → Hp → (Int → Int → Int → Hp → Prop) → Prop) : Prop :=
  ∀ (pins : List (Addr × Obj)) (s : Shared) (σ : L2.St) (H : Hp) (Q : Int → Int → Int → Hp → Prop), Inv X pins σ H s → t σ H Q →
    wpAny (model X.prog X.w) X.A (eval e X.env) (fun x s' => ∃ r a b c t u v H', x = .ref r ∧ IsRange s'.heap r a b c t u v ∧ Inv X pins σ H' s' ∧ Q a b c H') X.xe s
end G
namespace G
open PySem PySem.Spec PyProof.Rows L2
section
variable {X : Cx} {a b c e : Expr} {ta tb tc : TE} {te : L2.St → Hp → (Int → Int → Int → Hp → Prop) → Prop}
/-- what a range with a step asks -/
def RgOk3 (a b c : Int) (n : Nat) : Prop := c ≠ 0 ∧ c.natAbs.log2 < 9000 ∧ Builtin.Range.small a b c = true ∧ Builtin.Range.rangeSize a b c = n ∧ n ≤ 2 ^ 24
def tRg3 (ta tb tc : TE) : L2.St → Hp → (Int → Int → Int → Hp → Prop) → Prop := fun σ H Q => ta σ H fun x H1 => tb σ H1 fun y H2 => tc σ H2 fun z H3 => ∃ i j k, x = .int i ∧ y = .int j ∧ z = .int k ∧ (k ≠ 0 ∧ k.natAbs.log2 < 9000) ∧ Q i j k H3
theorem prg_3 {p pos : Pos} (hg : Gl X "range") (hm : X.mg "range" = none) (ha : PE X a ta) (hb : PE X b tb) (hc : PE X c tc) (na : starEach [a, b, c] X.env = (false, eval a X.env) :: starEach [b, c] X.env := by rfl)
    (nb : starEach [b, c] X.env = (false, eval b X.env) :: starEach [c] X.env := by rfl) (nc : starEach [c] X.env = (false, eval c X.env) :: starEach [] X.env := by rfl) (hp : (backTo pos (starEach [b, c] X.env)).any (·.1) = false := by rfl) (hp2 : (backTo pos (starEach [c] X.env)).any (·.1) = false := by rfl) : PRg3 X (.Call (.Name "range" p) [a, b, c] [] pos) (tRg3 ta tb tc) := by
  intro pins s σ H Q I h
  have hA : PA X [a, b, c] (tCons ta (tCons tb (tCons tc tNil))) := pa_cons ha (pa_cons hb (pa_cons hc pa_nil nc) nb) na
  refine Call_ (ld_blt I hg hm boot_range (PyProof.Rows.callWith_type1 (thn (hA.run pos pins s σ H (fun vs H3 => ∃ i j k, vs = [.int i, .int j, .int k] ∧ (k ≠ 0 ∧ k.natAbs.log2 < 9000) ∧ Q i j k H3) I ?_) fun us s1 ⟨vs, H1, I1, r1, q1⟩ => ?_) na hp))
  · show ta σ H _
    have h2 : ta σ H fun x H1 => tb σ H1 fun y H2 => tc σ H2 fun z H3 => ∃ i j k, x = .int i ∧ y = .int j ∧ z = .int k ∧ (k ≠ 0 ∧ k.natAbs.log2 < 9000) ∧ Q i j k H3 := h
    have e : (fun x H1 => tb σ H1 fun y H2 => tc σ H2 fun z H3 => ∃ i j k, [x, y, z] = [V.int i, .int j, .int k] ∧ (k ≠ 0 ∧ k.natAbs.log2 < 9000) ∧ Q i j k H3)
        = (fun x H1 => tb σ H1 fun y H2 => tc σ H2 fun z H3 => ∃ i j k, x = .int i ∧ y = .int j ∧ z = .int k ∧ (k ≠ 0 ∧ k.natAbs.log2 < 9000) ∧ Q i j k H3) := by
      funext x H1
      congr 1
      funext y H2
      congr 1
      funext z H3
      simp [and_assoc]
    show ta σ H (fun x H1 => tb σ H1 fun y H2 => tc σ H2 fun z H3 => ∃ i j k, [x, y, z] = [V.int i, .int j, .int k] ∧ (k ≠ 0 ∧ k.natAbs.log2 < 9000) ∧ Q i j k H3)
    rw [e]
    exact h2
  · obtain ⟨i, j, k, ev, ⟨c0, c1⟩, q⟩ := q1
    subst ev
    cases r1 with
    | cons r rr =>
      cases rr with
      | cons r' rr =>
        cases rr with
        | cons r'' rr =>
          cases rr
          obtain ⟨t, rfl⟩ := r
          obtain ⟨t', rfl⟩ := r'
          obtain ⟨t'', rfl⟩ := r''
          refine call_range_3 c0 ?_ (.inl (PyProof.noPylong_of_log2 c1))
          exact ⟨_, i, j, k, _, _, _, H1, rfl, IsRange.new _ _ _ _ _ _ _, I1.kept fun b u e => Heap.get?_push_of_some _ e, q⟩
/-- a, a + c, .. -/
def rgV3 (a c : Int) (n : Nat) : List V := (List.range n).map fun i => V.int (a + (i : Nat) * c)
theorem vals_rg3 {a c : Int} {n : Nat} {acc : Array Value} (h : ItemsOf (fun i v => ∃ t, v = .int (a + i * c) t) acc n) : Vals (rgV3 a c n) acc.toList := by
  have e : acc.toList.length = n := by rw [Array.length_toList]; exact h.1
  unfold rgV3
  rw [← e]
  refine vals_of_get acc.toList _ fun j u hj => ?_
  obtain ⟨t, rfl⟩ := h.2 j u (by rw [← hj, Array.getElem?_toList])
  exact ⟨t, rfl⟩
def tLstRg3 (te : L2.St → Hp → (Int → Int → Int → Hp → Prop) → Prop) : TE := fun σ H Q => te σ H fun a b c H1 => ∃ n, Builtin.Range.small a b c = true ∧ Builtin.Range.rangeSize a b c = (n : Nat) ∧ n ≤ 2 ^ 24 ∧ ∀ q, H1 q = none → Q (.ref q) (upd H1 q (.lst (rgV3 a c n)))
theorem pe_listRg3 {p pos : Pos} (hc : X.calm = true) (hg : Gl X "list") (hm : X.mg "list" = none) (he : PRg3 X e te) (na : starEach [e] X.env = (false, eval e X.env) :: starEach [] X.env := by rfl) : PE X (.Call (.Name "list" p) [e] [] pos) (tLstRg3 te) := by
  refine ⟨fun pins s σ H Q I h => ?_⟩
  refine Call_ (ld_blt I hg hm boot_list (PyProof.Rows.callWith_type1 (args_cons (thn (he pins s σ H _ I h) fun x s1 ⟨r, a, b, c, t, u, v, H1, ex, hr, I1, q⟩ => args_nil ?_) na) na))
  subst ex
  obtain ⟨n, sm, sz, b5, q⟩ := q
  refine call_list_range (n := n) (I1.ok.hd hc) hr sm sz b5 fun h' tk acc c' hk e' hi => ?_
  refine ⟨.ref s1.heap.objs.size, upd H1 s1.heap.objs.size (.lst (rgV3 a c n)), I1.laid hk (Nat.le_refl _) (show ObjOk X.prog X.w _ _ _ (.lst (rgV3 a c n)) from ⟨?_, acc.toList, c', vals_rg3 hi, ?_⟩), rfl, q _ (I1.hok.fresh (Nat.le_refl _))⟩
  · unfold rgV3
    rw [List.length_map, List.length_range, sizeLine_eq]
    exact b5
  · rw [Array.toArray_toList]; exact e'
end
end G

namespace G
open PySem PySem.Spec PyProof.Rows L2
section
variable {H H0 : Hp} {Q : VK} {vs : List V} {l : List (Addr × HO)}
theorem sz {n : Nat} (h : Nat.ble n sizeLine = true) : n ≤ sizeLine := Nat.le_of_ble_eq_true h
theorem i_newL (L : Led H0 l H) (s : vs.length ≤ sizeLine) (h : ∀ p H2, H p = none → H0 p = none → Led H0 ((p, .lst vs) :: l) H2 → Q (.ref p) H2) : NEWL vs H Q :=
  ⟨s, fun p np => h p _ np (L.fresh np) (L.new np)⟩
theorem i_newT (L : Led H0 l H) (s : vs.length ≤ sizeLine) (h : ∀ p H2, H p = none → H0 p = none → Led H0 ((p, .tup vs) :: l) H2 → Q (.ref p) H2) : NEWT vs H Q :=
  ⟨s, fun p np => h p _ np (L.fresh np) (L.new np)⟩
end
end G

namespace G
open PySem PySem.Spec PyProof.Rows L2
/-! ### data -/
def Lay (n : Nat) (d : PyData) : Prop := d.canLay0 = true ∧ d.depth ≤ n
theorem Lay.int (n : Nat) (i : Int) : Lay n (.int i) := ⟨by simp [PyData.canLay0], by simp [PyData.depth]⟩
theorem Lay.bool (n : Nat) (i : Bool) : Lay n (.bool i) := ⟨by simp [PyData.canLay0], by simp [PyData.depth]⟩
theorem Lay.none (n : Nat) : Lay n .none := ⟨by simp [PyData.canLay0], by simp [PyData.depth]⟩
theorem lay_all {n : Nat} : ∀ {ds : List PyData}, (∀ d ∈ ds, Lay n d) → PyData.canLayAll0 ds = true ∧ PyData.depthAll ds ≤ n
  | [], _ => ⟨by simp [PyData.canLayAll0], by simp [PyData.depthAll]⟩
  | d :: ds, h => by
    obtain ⟨a, b⟩ := lay_all fun x hx => h x (List.mem_cons_of_mem _ hx)
    obtain ⟨c, e⟩ := h d (List.mem_cons_self ..)
    refine ⟨by simp [PyData.canLayAll0, a, c], ?_⟩
    simp only [PyData.depthAll]
    exact Nat.max_le.mpr ⟨e, b⟩
theorem Lay.list {n : Nat} {ds : List PyData} (h : ∀ d ∈ ds, Lay n d) : Lay (n + 1) (.list ds) := by
  obtain ⟨a, b⟩ := lay_all h
  exact ⟨by simp [PyData.canLay0, a], by simp only [PyData.depth]; omega⟩
theorem Lay.tuple {n : Nat} {ds : List PyData} (h : ∀ d ∈ ds, Lay n d) : Lay (n + 1) (.tuple ds) := by
  obtain ⟨a, b⟩ := lay_all h
  exact ⟨by simp [PyData.canLay0, a], by simp only [PyData.depth]; omega⟩
theorem Lay.shaped {n : Nat} {d : PyData} (h : Lay n d) (hn : n ≤ 64 := by decide) : SeqAt.shaped d = true := by
  unfold SeqAt.shaped
  rw [h.1, decide_eq_true (Nat.le_trans h.2 hn)]
  rfl
theorem Lay.ints (xs : List Int) : Lay 1 (.list (xs.map PyData.int)) := Lay.list fun d hd => by
  obtain ⟨i, _, rfl⟩ := List.mem_map.mp hd
  exact Lay.int 0 i
theorem DpAll.ints {K : PySem.W.Frag} {H : Hp} : ∀ xs : List Int, DpAll K H (xs.map V.int) (xs.map PyData.int)
  | [] => .nil
  | _ :: xs => .cons (.int _) (DpAll.ints xs)
theorem Dp.ints {K : PySem.W.Frag} {H : Hp} {p : Addr} {xs : List Int} (h : H p = some (.lst (xs.map V.int))) : Dp K H (.ref p) (.list (xs.map PyData.int)) := .lst (.inl (.inl h)) (DpAll.ints xs)
section
variable {K : PySem.W.Frag} {H : Hp} {Q : VK} {v w : V} {d : PyData} {n : Nat}
theorem i_neSame (h1 : Dp K H v d) (h2 : Dp K H w d) (l : Lay n d) (hn : n ≤ 64) (h : Q (.bl false) H) : rNeD K v w H Q :=
  ⟨d, d, h1, h2, l.shaped hn, l.shaped hn, by rw [SeqAt.eqv_refl d l.1]; exact h⟩
theorem i_eqSame (h1 : Dp K H v d) (h2 : Dp K H w d) (l : Lay n d) (hn : n ≤ 64) (h : Q (.bl true) H) : rEqD K v w H Q :=
  ⟨d, d, h1, h2, l.shaped hn, l.shaped hn, by rw [SeqAt.eqv_refl d l.1]; exact h⟩
theorem i_isi {t u : String} {b : Bool} (ty : TyX K H v (.type t)) (k : kitB t u = some b) (h : Q (.bl b) H) : rIsi K [v, .ty u] H Q :=
  ⟨v, .ty u, .type t, .type u, b, rfl, .ty u, ty, kit_ty k, h⟩
end
/-! ### stores and appends by the ledger -/
section
variable {H0 H : Hp} {Q : Hp → Prop} {QV : VK} {l : List (Addr × HO)} {p : Addr} {xs : List V} {i : Int} {j : Nat} {v : V} {q1 q2 q3 q4 : Addr × HO} {K : PySem.W.Frag} {D : Ends} {σ : L2.St}
theorem i_gsub {to ti : TE} {t : TSet} {QS : L2.St → Hp → Prop} (h : to σ H fun o H1 => ti σ H1 fun i H2 => t o i v H2 fun H3 => QS σ H3) : gSub to ti t v σ H QS := h
theorem i_setL (s : H p = some (.lst xs)) (e : ixN xs.length i = some j) (h : Q (upd H p (.lst (xs.set j v)))) : rSetL (.ref p) (.int i) v H Q := ⟨p, xs, i, j, rfl, rfl, s, e, h⟩
theorem i_setL0 (L : Led H0 ((p, .lst xs) :: l) H) (e : ixN xs.length i = some j) (h : ∀ H2, Led H0 ((p, .lst (xs.set j v)) :: l) H2 → Q H2) : rSetL (.ref p) (.int i) v H Q := i_setL L.at0 e (h _ L.set0)
theorem i_setL1 (L : Led H0 (q1 :: (p, .lst xs) :: l) H) (e : ixN xs.length i = some j) (h : ∀ H2, Led H0 (q1 :: (p, .lst (xs.set j v)) :: l) H2 → Q H2) : rSetL (.ref p) (.int i) v H Q := i_setL L.at1 e (h _ L.set1)
theorem i_setL2 (L : Led H0 (q1 :: q2 :: (p, .lst xs) :: l) H) (e : ixN xs.length i = some j) (h : ∀ H2, Led H0 (q1 :: q2 :: (p, .lst (xs.set j v)) :: l) H2 → Q H2) : rSetL (.ref p) (.int i) v H Q := i_setL L.at2 e (h _ L.set2)
theorem i_bm {r : V → List V → Hp → VK → Prop} {T : String} {to : TE} {t : TA} (h : to σ H fun x H1 => tyV K T x H1 ∧ t σ H1 fun xs H2 => r x xs H2 QV) : tBM K T r to t σ H QV := h
theorem i_bm0 {r : V → List V → Hp → VK → Prop} {T : String} {to : TE} (h : to σ H fun x H1 => tyV K T x H1 ∧ r x [] H1 QV) : tBM0 K T r to σ H QV := h
theorem i_tyL {R : Prop} (s : H p = some (.lst xs)) (h : R) : tyV K "list" (.ref p) H ∧ R := ⟨.inl ⟨rfl, _, .inl (.inl s)⟩, h⟩
theorem i_app (s : H p = some (.lst xs)) (e : xs.length < sizeLine) (h : QV .non (upd H p (.lst (xs ++ [v])))) : rAppend (.ref p) [v] H QV := ⟨p, xs, v, rfl, rfl, s, e, h⟩
theorem i_app0 (L : Led H0 ((p, .lst xs) :: l) H) (e : xs.length < sizeLine) (h : ∀ H2, Led H0 ((p, .lst (xs ++ [v])) :: l) H2 → QV .non H2) : rAppend (.ref p) [v] H QV := i_app L.at0 e (h _ L.set0)
theorem i_app1 (L : Led H0 (q1 :: (p, .lst xs) :: l) H) (e : xs.length < sizeLine) (h : ∀ H2, Led H0 (q1 :: (p, .lst (xs ++ [v])) :: l) H2 → QV .non H2) : rAppend (.ref p) [v] H QV := i_app L.at1 e (h _ L.set1)
theorem i_app2 (L : Led H0 (q1 :: q2 :: (p, .lst xs) :: l) H) (e : xs.length < sizeLine) (h : ∀ H2, Led H0 (q1 :: q2 :: (p, .lst (xs ++ [v])) :: l) H2 → QV .non H2) : rAppend (.ref p) [v] H QV := i_app L.at2 e (h _ L.set2)
theorem i_app3 (L : Led H0 (q1 :: q2 :: q3 :: (p, .lst xs) :: l) H) (e : xs.length < sizeLine) (h : ∀ H2, Led H0 (q1 :: q2 :: q3 :: (p, .lst (xs ++ [v])) :: l) H2 → QV .non H2) : rAppend (.ref p) [v] H QV := i_app L.at3 e (h _ L.set3)
theorem i_slL {lo hi : Option Int} (L : Led H0 l H) (s : SqL K H p xs) (h : ∀ a H2, H a = none → H0 a = none → Led H0 ((a, .lst (cutV xs lo hi)) :: l) H2 → QV (.ref a) H2) : rSlL K (.ref p) lo hi H QV :=
  ⟨p, xs, rfl, s, fun a na => h a _ na (L.fresh na) (L.new na)⟩
theorem i_sl {r : V → Option Int → Option Int → Hp → VK → Prop} {te : TE} {tl th : TO} (h : te σ H fun x H1 => tl σ H1 fun l H2 => th σ H2 fun u H3 => r x l u H3 QV) : tSl r te tl th σ H QV := h
theorem i_noPart {QO : Option Int → Hp → Prop} (h : QO none H) : tNoPart σ H QO := h
theorem i_part {t : TE} {QO : Option Int → Hp → Prop} (h : t σ H fun x H1 => ∃ i, x = .int i ∧ QO (some i) H1) : tPart t σ H QO := h
theorem i_isInt {R : Int → Prop} (h : R i) : ∃ k, V.int i = .int k ∧ R k := ⟨i, rfl, h⟩
end
end G

namespace G
open PySem PySem.Spec PyProof.Rows L2
/-! ### loops -/
def FOR (J : It) (g : TG) (tb : TS) (D : Ends) (σ : L2.St) (H : Hp) : Prop := ∃ W : Nat → Nat → L2.St → Hp → Prop, (∃ m, W 0 m σ H) ∧ ∀ i m σ H, W i m σ H →
      (J.stop i H ∧ D.nx σ H) ∨ (J.go i H ∧ ∃ N : L2.St → Hp → Prop, (∀ σ' H', N σ' H' → ∃ m', m' < m ∧ W (i + 1) m' σ' H') ∧ ∀ x H', J.yld i H x H' → g x σ H' fun σ2 H2 => tb { D with nx := N, ct := N, bk := D.nx } σ2 H2)
section
variable {wi : TI} {g : TG} {tb : TS} {c : TT} {D : Ends} {σ : L2.St} {H : Hp} {tl : TA} {te : TE} {R : It → Hp → Prop} {K : PySem.W.Frag} {a : Addr} {xs : List V} {i j : Int}
theorem i_for (h : wi σ H fun J H1 => FOR J g tb D σ H1) : tFor wi g tb D σ H := h
theorem i_rng1 (h : tl σ H fun vs H1 => ∃ j : Int, vs = [.int j] ∧ -(2 ^ 62) ≤ j ∧ j < 2 ^ 62 ∧ R (Itr 0 j.toNat) H1) : iRng1 tl σ H R := h
theorem i_rng2 (h : tl σ H fun vs H1 => ∃ i j : Int, vs = [.int i, .int j] ∧ (-(2 ^ 62) ≤ i ∧ i < 2 ^ 62 ∧ -(2 ^ 62) ≤ j ∧ j < 2 ^ 62) ∧ R (Itr i (j - i).toNat) H1) : iRng2 tl σ H R := h
theorem i_rng1v {P : Int → Prop} (b : -(2 ^ 62) ≤ j ∧ j < 2 ^ 62) (h : P j) : ∃ j' : Int, [V.int j] = [.int j'] ∧ -(2 ^ 62) ≤ j' ∧ j' < 2 ^ 62 ∧ P j' := ⟨j, rfl, b.1, b.2, h⟩
theorem i_rng2v {P : Int → Int → Prop} (b : -(2 ^ 62) ≤ i ∧ i < 2 ^ 62 ∧ -(2 ^ 62) ≤ j ∧ j < 2 ^ 62) (h : P i j) : ∃ i' j' : Int, [V.int i, V.int j] = [.int i', .int j'] ∧ (-(2 ^ 62) ≤ i' ∧ i' < 2 ^ 62 ∧ -(2 ^ 62) ≤ j' ∧ j' < 2 ^ 62) ∧ P i' j' := ⟨i, j, rfl, b, h⟩
theorem i_list (h : te σ H fun x H1 => ∃ a, x = .ref a ∧ (∃ xs, SqL K H1 a xs) ∧ R (Itl K a) H1) : iList K te σ H R := h
theorem i_listv {P : Addr → Prop} (s : SqL K H a xs) (h : P a) : ∃ a', V.ref a = .ref a' ∧ (∃ xs, SqL K H a' xs) ∧ P a' := ⟨a, rfl, ⟨xs, s⟩, h⟩
theorem i_listt (h : te σ H fun x H1 => ∃ a, x = .ref a ∧ (∃ xs, SqT K H1 a xs) ∧ R (Itt K a) H1) : iTup K te σ H R := h
theorem i_listtv {P : Addr → Prop} (s : SqT K H a xs) (h : P a) : ∃ a', V.ref a = .ref a' ∧ (∃ xs, SqT K H a' xs) ∧ P a' := ⟨a, rfl, ⟨xs, s⟩, h⟩
theorem FOR.range {n : Nat} (Pv : Nat → L2.St → Hp → Prop) (h0 : Pv 0 σ H)
    (hs : ∀ i σ H, i < n → Pv i σ H → g (.int (i : Nat)) σ H fun σ2 H2 => tb { D with nx := Pv (i + 1), ct := Pv (i + 1), bk := D.nx } σ2 H2) (hd : ∀ σ H, Pv n σ H → D.nx σ H) : FOR (Itr 0 n) g tb D σ H :=
  for_range (lo := 0) Pv h0 (fun i σ H hi p => by
    have e : (0 : Int) + (i : Nat) = (i : Nat) := Int.zero_add _
    rw [e]
    exact hs i σ H hi p) hd
theorem FOR.rangeL {lo : Int} {n : Nat} (Pv : Nat → L2.St → Hp → Prop) (h0 : Pv 0 σ H)
    (hs : ∀ i σ H, i < n → Pv i σ H → g (.int (lo + (i : Nat))) σ H fun σ2 H2 => tb { D with nx := Pv (i + 1), ct := Pv (i + 1), bk := D.nx } σ2 H2) (hd : ∀ σ H, Pv n σ H → D.nx σ H) : FOR (Itr lo n) g tb D σ H :=
  for_range (lo := lo) Pv h0 hs hd
theorem FOR.list (Pv : Nat → L2.St → Hp → Prop) (h0 : Pv 0 σ H) (hl : ∀ i σ H, i ≤ xs.length → Pv i σ H → SqL K H a xs)
    (hs : ∀ i x σ H, xs[i]? = some x → Pv i σ H → g x σ H fun σ2 H2 => tb { D with nx := Pv (i + 1), ct := Pv (i + 1), bk := D.nx } σ2 H2) (hd : ∀ σ H, Pv xs.length σ H → D.nx σ H) : FOR (Itl K a) g tb D σ H :=
  for_list (K := K) (a := a) (xs := xs) Pv h0 hl hs hd
theorem FOR.tup (Pv : Nat → L2.St → Hp → Prop) (h0 : Pv 0 σ H) (hl : ∀ i σ H, i ≤ xs.length → Pv i σ H → SqT K H a xs)
    (hs : ∀ i x σ H, xs[i]? = some x → Pv i σ H → g x σ H fun σ2 H2 => tb { D with nx := Pv (i + 1), ct := Pv (i + 1), bk := D.nx } σ2 H2) (hd : ∀ σ H, Pv xs.length σ H → D.nx σ H) : FOR (Itt K a) g tb D σ H :=
  for_tup (K := K) (a := a) (xs := xs) Pv h0 hl hs hd
theorem i_while (W : Nat → L2.St → Hp → Prop) (m : Nat) (h0 : W m σ H) (hs : ∀ m σ H, W m σ H → c σ H fun b H1 => if b = true then ∃ N : L2.St → Hp → Prop, (∀ σ' H', N σ' H' → ∃ m', m' < m ∧ W m' σ' H') ∧ tb { D with nx := N, ct := N, bk := D.nx } σ H1 else D.nx σ H1) : tWhile c tb D σ H := ⟨W, ⟨m, h0⟩, hs⟩
theorem i_turn {W : Nat → L2.St → Hp → Prop} {m : Nat} {B : (L2.St → Hp → Prop) → Prop} (h : B (fun σ' H' => ∃ m', m' < m ∧ W m' σ' H')) :
    ∃ N : L2.St → Hp → Prop, (∀ σ' H', N σ' H' → ∃ m', m' < m ∧ W m' σ' H') ∧ B N := ⟨_, fun _ _ h => h, h⟩
theorem map_get {α : Type} {f : α → V} {ns : List α} {i : Nat} {v : V} (h : (ns.map f)[i]? = some v) : ∃ n, ns[i]? = some n ∧ v = f n := by
  rw [List.getElem?_map] at h
  cases e : ns[i]? with
  | none => rw [e] at h; cases h
  | some n => rw [e] at h; exact ⟨n, rfl, (Option.some.inj h).symm⟩
end
end G

namespace G
open PySem PySem.Spec PyProof.Rows L2
theorem i_pow {H : Hp} {Q : VK} {i j z : Int} (c : CPow i j) (e : i ^ j.toNat = z) (h : Q (.int z) H) : rI CPow (fun i j => V.int (i ^ j.toNat)) (.int i) (.int j) H Q := ⟨i, j, rfl, rfl, c, by rw [← e] at h; exact h⟩
end G
namespace G
open PySem PySem.Spec PyProof.Rows L2
section
variable {K : PySem.W.Frag} {H : Hp} {Q : VK} {p : Addr} {xs : List V} {i : Int}
theorem all_nil {P : V → Prop} : ∀ x ∈ ([] : List V), P x := fun x hx => by cases hx
theorem all_cons {P : V → Prop} {y : V} {ys : List V} (h : P y) (t : ∀ x ∈ ys, P x) : ∀ x ∈ y :: ys, P x := fun x hx => by
  rcases List.mem_cons.mp hx with rfl | hx
  · exact h
  · exact t x hx
theorem i_ixP (P : V → Prop) (s : H p = some (.lst xs)) (hP : ∀ x ∈ xs, P x) (h0 : 0 ≤ i ∧ i < xs.length) (h : ∀ v, P v → Q v H) : rIxL K (.ref p) (.int i) H Q := by
  obtain ⟨v, e, pv⟩ := atI_all P hP h0.1 h0.2
  exact i_ixL s e (h v pv)
theorem i_ixB (lo hi : Int) (s : H p = some (.lst xs)) (hP : ∀ x ∈ xs, ∃ z, x = V.int z ∧ lo ≤ z ∧ z ≤ hi) (h0 : 0 ≤ i ∧ i < xs.length) (h : ∀ z, lo ≤ z → z ≤ hi → Q (.int z) H) : rIxL K (.ref p) (.int i) H Q :=
  i_ixP _ s hP h0 fun v ⟨z, e, a, b⟩ => by rw [e]; exact h z a b
end
end G

namespace G
open PySem PySem.Spec PyProof.Rows L2
section
variable {H H0 : Hp} {Q : VK} {l : List (Addr × HO)} {σ : L2.St}
/-- list(range(i, j, k)) -/
def LRG (i j k : Int) (H : Hp) (Q : VK) : Prop := ∃ n, Builtin.Range.small i j k = true ∧ Builtin.Range.rangeSize i j k = (n : Nat) ∧ n ≤ 2 ^ 24 ∧ ∀ q, H q = none → Q (.ref q) (upd H q (.lst (rgV3 i k n)))
theorem i_listRg3 {te : L2.St → Hp → (Int → Int → Int → Hp → Prop) → Prop} (h : te σ H fun a b c H1 => LRG a b c H1 Q) : tLstRg3 te σ H Q := h
theorem i_rg3 {ta tb tc : TE} {R : Int → Int → Int → Hp → Prop} (h : ta σ H fun x H1 => tb σ H1 fun y H2 => tc σ H2 fun z H3 => ∃ i j k, x = .int i ∧ y = .int j ∧ z = .int k ∧ (k ≠ 0 ∧ k.natAbs.log2 < 9000) ∧ R i j k H3) : tRg3 ta tb tc σ H R := h
theorem i_rg3v {P : Int → Int → Int → Prop} {i j k : Int} (b : k ≠ 0 ∧ k.natAbs.log2 < 9000) (h : P i j k) : ∃ i' j' k', V.int i = .int i' ∧ V.int j = .int j' ∧ V.int k = .int k' ∧ (k' ≠ 0 ∧ k'.natAbs.log2 < 9000) ∧ P i' j' k' := ⟨i, j, k, rfl, rfl, rfl, b, h⟩
theorem small_up {a b c : Int} (h : 0 < c) (ha : -(2 ^ 61) ≤ a) (ha' : a < 2 ^ 61) (hb : -(2 ^ 61) ≤ b) (hb' : b < 2 ^ 61) (hc : c < 2 ^ 61) (n0 : 0 ≤ Builtin.Range.rangeSize a b c) (n1 : Builtin.Range.rangeSize a b c < 2 ^ 61) : Builtin.Range.small a b c = true := by
  unfold Builtin.Range.small
  generalize Builtin.Range.rangeSize a b c = n at n0 n1 ⊢
  simp only [Builtin.Range.rangeFitsLong, Bool.and_eq_true, Bool.or_eq_true, decide_eq_true_eq, beq_iff_eq, if_pos h, gt_iff_lt]
  omega
theorem i_LRG {i j k : Int} (L : Led H0 l H) (n : Nat) (hs : Builtin.Range.small i j k = true) (hn : Builtin.Range.rangeSize i j k = (n : Nat)) (hb : n ≤ 2 ^ 24) (h : ∀ p H2, H p = none → H0 p = none → Led H0 ((p, .lst (rgV3 i k n)) :: l) H2 → Q (.ref p) H2) : LRG i j k H Q :=
  ⟨n, hs, hn, hb, fun p np => h p _ np (L.fresh np) (L.new np)⟩
end
end G
namespace G
open PySem PySem.Spec PyProof.Rows L2
/-- all but one stands -/
def But (a : Addr) (H H' : Hp) : Prop := ∀ b o, H b = some o → b ≠ a → H' b = some o
section
variable {H0 H H1 H2 : Hp} {a p : Addr} {l : List (Addr × HO)} {o : HO} {m : Int}
theorem But.trans (x : But a H H1) (y : But a H1 H2) : But a H H2 := fun b o e n => y b o (x b o e n) n
theorem But.of (x : Same H H1) : But a H H1 := fun b o e _ => x b o e
theorem But.refl : But a H H := fun _ _ e _ => e
def AllNew (H0 : Hp) : List (Addr × HO) → Prop
  | [] => True
  | q :: l => H0 q.1 = none ∧ AllNew H0 l
theorem AllNew.mem : ∀ {l : List (Addr × HO)}, AllNew H0 l → ∀ q ∈ l, H0 q.1 = none
  | _ :: _, h, q, hq => by
    rcases List.mem_cons.mp hq with rfl | hq
    · exact h.1
    · exact h.2.mem q hq
theorem Led.toS (L : Led H0 l H) (n : AllNew H0 l) : Same H0 H := fun a o e => L.old a o e fun q hq h => by
  have := n.mem q hq
  rw [← h, e] at this
  cases this
end
end G
namespace G
open PySem PySem.Spec PyProof.Rows L2
section
variable {K : PySem.W.Frag} {H : Hp} {Q : VK} {v w : V} {d : PyData} {n : Nat}
theorem i_neS (h1 : Dp K H v d) (h2 : Dp K H w d) (s : SeqAt.shaped d = true) (h : Q (.bl false) H) : rNeD K v w H Q :=
  ⟨d, d, h1, h2, s, s, by rw [SeqAt.eqv_refl d (SeqAt.canLay_of_shaped s)]; exact h⟩
theorem i_eqS (h1 : Dp K H v d) (h2 : Dp K H w d) (s : SeqAt.shaped d = true) (h : Q (.bl true) H) : rEqD K v w H Q :=
  ⟨d, d, h1, h2, s, s, by rw [SeqAt.eqv_refl d (SeqAt.canLay_of_shaped s)]; exact h⟩
end
end G
namespace G
open PySem PySem.Spec PyProof.Rows L2
theorem kb_int_int : kitB "int" "int" = some true := by decide +kernel
theorem kb_int_bool : kitB "int" "bool" = some false := by decide +kernel
theorem kb_bool_bool : kitB "bool" "bool" = some true := by decide +kernel
theorem kb_bool_int : kitB "bool" "int" = some true := by decide +kernel
theorem kb_list_list : kitB "list" "list" = some true := by decide +kernel
theorem kb_tuple_tuple : kitB "tuple" "tuple" = some true := by decide +kernel
theorem kb_list_tuple : kitB "list" "tuple" = some false := by decide +kernel
theorem kb_tuple_list : kitB "tuple" "list" = some false := by decide +kernel
theorem kb_str_str : kitB "str" "str" = some true := by decide +kernel
section
variable {K : PySem.W.Frag} {H : Hp} {Q : VK} {i : Int} {b : Bool} {p : Addr} {xs : List V}
theorem i_isi_ii (h : Q (.bl true) H) : rIsi K [.int i, .ty "int"] H Q := i_isi (.base (.int _)) kb_int_int h
theorem i_isi_ib (h : Q (.bl false) H) : rIsi K [.int i, .ty "bool"] H Q := i_isi (.base (.int _)) kb_int_bool h
theorem i_isi_bb (h : Q (.bl true) H) : rIsi K [.bl b, .ty "bool"] H Q := i_isi (.base (.bl _)) kb_bool_bool h
theorem i_isi_ll (s : H p = some (.lst xs)) (h : Q (.bl true) H) : rIsi K [.ref p, .ty "list"] H Q := i_isi (.base (.lst s)) kb_list_list h
theorem i_isi_tt (s : H p = some (.tup xs)) (h : Q (.bl true) H) : rIsi K [.ref p, .ty "tuple"] H Q := i_isi (.base (.tup s)) kb_tuple_tuple h
end
end G
namespace G
open PySem PySem.Spec PyProof.Rows L2
section
variable {K : PySem.W.Frag} {H H0 : Hp} {Q : VK} {p q a : Addr} {xs ys : List V} {l : List (Addr × HO)} {P : Addr → Prop} {lo hi : Option Int}
theorem i_listv0 (s : H a = some (.lst xs)) (h : P a) : ∃ a', V.ref a = .ref a' ∧ (∃ xs, SqL K H a' xs) ∧ P a' := ⟨a, rfl, ⟨xs, .inl (.inl s)⟩, h⟩
theorem i_listtv0 (s : H a = some (.tup xs)) (h : P a) : ∃ a', V.ref a = .ref a' ∧ (∃ xs, SqT K H a' xs) ∧ P a' := ⟨a, rfl, ⟨xs, .inl (.inl s)⟩, h⟩
theorem i_cat (L : Led H0 l H) (h1 : H p = some (.lst xs)) (h2 : H q = some (.lst ys)) (z : xs.length + ys.length ≤ sizeLine) (h : ∀ a H2, H a = none → H0 a = none → Led H0 ((a, .lst (xs ++ ys)) :: l) H2 → Q (.ref a) H2) : rCat (.ref p) (.ref q) H Q :=
  ⟨p, q, xs, ys, rfl, rfl, h1, h2, z, fun a na => h a _ na (L.fresh na) (L.new na)⟩
theorem i_slL0 (L : Led H0 l H) (s : H p = some (.lst xs)) (h : ∀ a H2, H a = none → H0 a = none → Led H0 ((a, .lst (cutV xs lo hi)) :: l) H2 → Q (.ref a) H2) : rSlL K (.ref p) lo hi H Q :=
  ⟨p, xs, rfl, .inl (.inl s), fun a na => h a _ na (L.fresh na) (L.new na)⟩
end
end G
namespace G
open PySem PySem.Spec PyProof.Rows L2
theorem cutV_mem {xs : List V} {lo hi : Option Int} {x : V} (h : x ∈ cutV xs lo hi) : x ∈ xs := by
  unfold cutV at h
  exact List.mem_of_mem_drop (List.mem_of_mem_take h)
theorem cut_int {ns : List Int} {lo hi : Option Int} {i : Nat} {x : V} {zs : List Int} (h : (cutV (ns.map V.int) lo hi ++ zs.map V.int)[i]? = some x) : ∃ n, x = .int n := by
  have := List.mem_of_getElem? h
  rcases List.mem_append.mp this with h | h
  · obtain ⟨n, _, e⟩ := List.mem_map.mp (cutV_mem h)
    exact ⟨n, e.symm⟩
  · obtain ⟨n, _, e⟩ := List.mem_map.mp h
    exact ⟨n, e.symm⟩
end G

namespace K01
open PySem PySem.Spec PyProof.Rows L2 G
/-! the steps, tried one after another -/
local macro_rules | `(tactic| walk_at "g_ar") => `(tactic| (first | omega | decide | (refine Or.inl ⟨?_, ?_⟩ <;> omega) | (refine Or.inr ⟨?_, ?_⟩ <;> omega) | (refine ⟨?_, ?_⟩ <;> omega) | (refine ⟨?_, ?_, ?_⟩ <;> omega)))
local macro_rules | `(tactic| walk_at "g_at") => `(tactic| (first | assumption | exact Led.at0 (by assumption) | exact Led.at1 (by assumption) | exact Led.at2 (by assumption) | exact Led.at3 (by assumption) | exact Led.at4 (by assumption) | exact Led.at5 (by assumption) | exact Led.at6 (by assumption)))
local macro_rules | `(tactic| walk_at "g1") => `(tactic| (first
  | with_reducible refine i_seq ?_
  | with_reducible refine i_asg ?_
  | with_reducible refine i_gname ?_
  | ((with_reducible refine' i_var ?e ?_); (case e => exact rfl))
  | with_reducible refine i_c ?_
  | with_reducible refine i_op ?_
  | with_reducible refine i_un ?_
  | with_reducible refine i_I0 ?_
  | ((with_reducible refine' i_pow ?c ?e ?_); (case c => exact ⟨by decide, by decide, by decide⟩); (case e => (simp only [Int.reduceToNat, Int.reducePow]; exact rfl)))
  | ((with_reducible refine i_I ?c ?_); (case c => walk_at "g_ar"))
  | ((with_reducible refine i_I ?c ?_); rotate_left)
  | with_reducible refine i_U ?_
  | with_reducible refine i_eqI ?_
  | with_reducible refine i_neI ?_
  | with_reducible refine i_ifS ?_
  | with_reducible refine i_test ?_
  | with_reducible refine i_B ?_
  | with_reducible refine i_bl ?_
  | with_reducible refine i_not ?_
  | with_reducible refine i_and ?_
  | with_reducible refine i_or ?_
  | with_reducible refine i_notV ?_
  | with_reducible refine i_andV ?_
  | with_reducible refine i_orV ?_
  | with_reducible refine i_ifE ?_
  | with_reducible refine i_ret ?_
  | with_reducible refine i_retN ?_
  | with_reducible refine i_drop ?_
  | with_reducible refine i_nil ?_
  | with_reducible refine i_cons ?_
  | with_reducible refine i_tup ?_
  | with_reducible refine i_lst ?_
  | with_reducible refine i_call ?_
  | with_reducible refine i_CB ?_
  | with_reducible refine i_next ?_
  | with_reducible refine i_cont ?_
  | with_reducible refine i_break ?_
  | ((with_reducible refine' i_newL ?L ?s ?_); (case L => assumption); (case s => exact sz rfl))
  | ((with_reducible refine' i_newT ?L ?s ?_); (case L => assumption); (case s => exact sz rfl))))
local macro_rules | `(tactic| walk_at "g") => `(tactic| (repeat (first | walk_at "g1" | dsimp only)))
local macro_rules | `(tactic| walk_at "g2") => `(tactic| (first
  | walk_at "g1"
  | ((with_reducible refine' i_app0 ?s ?a ?_); (case s => assumption); (rotate_left))
  | ((with_reducible refine' i_app1 ?s ?a ?_); (case s => assumption); (rotate_left))
  | ((with_reducible refine' i_app2 ?s ?a ?_); (case s => assumption); (rotate_left))
  | ((with_reducible refine' i_app3 ?s ?a ?_); (case s => assumption); (rotate_left))
  | with_reducible refine i_turn ?_
  | ((with_reducible refine' i_cat ?L ?s ?t ?z ?_); (case L => assumption); (case s => walk_at "g_at"); (case t => walk_at "g_at"); rotate_left)
  | ((with_reducible refine' i_slL0 ?L ?s ?_); (case L => assumption); (case s => walk_at "g_at"))
  | ((with_reducible refine' i_slL ?L ?s ?_); (case L => assumption); (case s => assumption))
  | with_reducible refine i_gsub ?_
  | with_reducible refine i_bm ?_
  | with_reducible refine i_bm0 ?_
  | ((with_reducible refine' i_tyL ?s ?_); (case s => walk_at "g_at"))
  | with_reducible refine i_sl ?_
  | with_reducible refine i_noPart ?_
  | with_reducible refine i_part ?_
  | with_reducible refine i_isInt ?_
  | with_reducible refine i_isi_ii ?_
  | with_reducible refine i_isi_ib ?_
  | with_reducible refine i_isi_bb ?_
  | ((with_reducible refine' i_isi_ll ?s ?_); (case s => walk_at "g_at"))
  | ((with_reducible refine' i_isi_tt ?s ?_); (case s => walk_at "g_at"))
  | with_reducible refine i_callN ?_
  | (with_reducible show ∀ (H2 : Hp), Led _ _ H2 → _; intro _ _)
  | (with_reducible show ∀ (p : Addr) (H2 : Hp), _ = none → _ = none → Led _ _ H2 → _; intro _ _ _ _ _)
  | ((with_reducible refine' i_ixL ?s ?a ?_); (case s => walk_at "g_at"); (case a => exact rfl))
  | ((with_reducible refine' i_ixT ?s ?a ?_); (case s => walk_at "g_at"); (case a => exact rfl))
  | ((with_reducible refine' i_setL0 ?s ?a ?_); (case s => assumption); (case a => exact rfl))
  | ((with_reducible refine' i_setL1 ?s ?a ?_); (case s => assumption); (case a => exact rfl))
  | ((with_reducible refine' i_setL2 ?s ?a ?_); (case s => assumption); (case a => exact rfl))))
local macro_rules | `(tactic| walk_at "g") => `(tactic| (repeat (first | walk_at "g2" | dsimp only)))
local macro_rules | `(tactic| walk_at "g3") => `(tactic| (first
  | walk_at "g2"
  | with_reducible refine i_for ?_
  | with_reducible refine i_rng1 ?_
  | with_reducible refine i_rng2 ?_
  | ((with_reducible refine i_rng1v ?b ?_); (case b => first | omega | (constructor <;> omega)))
  | ((with_reducible refine i_rng2v ?b ?_); (case b => refine ⟨?_, ?_, ?_, ?_⟩ <;> omega))
  | with_reducible refine i_listRg3 ?_
  | with_reducible refine i_rg3 ?_
  | ((with_reducible refine i_rg3v ?b ?_); rotate_left)
  | with_reducible refine i_list ?_
  | with_reducible refine i_listt ?_
  | ((with_reducible refine' i_listv0 ?s ?_); (case s => walk_at "g_at"))
  | ((with_reducible refine' i_listtv0 ?s ?_); (case s => walk_at "g_at"))))
local macro_rules | `(tactic| walk_at "g") => `(tactic| (repeat (first | walk_at "g3" | dsimp only)))
local macro_rules | `(tactic| walk_at "g_b") => `(tactic| (repeat' (first | exact all_nil | (refine all_cons ⟨_, rfl, ?_, ?_⟩ ?_))) <;> omega)
local macro_rules | `(tactic| walk_at "g_i") => `(tactic| (simp only [List.length_cons, List.length_nil]; omega))
local macro_rules | `(tactic| walk_at "g_s") => `(tactic| (refine Led.toS (by assumption) ?_; repeat (first | exact True.intro | refine ⟨by assumption, ?_⟩)))
local macro_rules | `(tactic| walk_at "g_dp") => `(tactic| (repeat (first | exact .int _ | exact .bl _ | exact .non | exact .str _ | exact .nil | refine .cons ?_ ?_ | refine .lst (.inl (.inl (by walk_at "g_at"))) ?_ | refine .tup (.inl (.inl (by walk_at "g_at"))) ?_)))
def topS (i : Nat) : Stmt := PySem.Challenge.pw_timegranary_k01_cells.main.body.getD i (.Pass ⟨0, 0, 0, 0⟩)
abbrev s_cell_of : Stmt := topS 1
abbrev s_cells : Stmt := topS 2
abbrev s_l_draws : Stmt := topS 4
abbrev s_l_next : Stmt := topS 5
abbrev s_l_time : Stmt := topS 6
abbrev s_l_cells : Stmt := topS 7
abbrev s_l_right : Stmt := topS 8
abbrev s_law : Stmt := topS 9
theorem sc_cell_of : FnScope ["time", "width"] ["time", "width"] (defScope s_cell_of) := ⟨rfl, rfl, rfl, by decide +kernel, rfl, by decide +kernel, by decide +kernel⟩
theorem sc_cells : FnScope ["start", "end", "width"] ["start", "end", "width"] (defScope s_cells) := ⟨rfl, rfl, rfl, by decide +kernel, rfl, by decide +kernel, by decide +kernel⟩
theorem sc_l_draws : FnScope ["_law_cell", "_law_cut", "_law_k"] ["_law_cell"] (defScope s_l_draws) := ⟨rfl, rfl, rfl, by decide +kernel, rfl, by decide +kernel, by decide +kernel⟩
theorem sc_l_next : FnScope ["_law_draws_here", "_law_k", "_law_number"] ["_law_draws_here"] (defScope s_l_next) := ⟨rfl, rfl, rfl, by decide +kernel, rfl, by decide +kernel, by decide +kernel⟩
theorem sc_l_time : FnScope ["_law_draws_here", "_law_pick"] ["_law_draws_here"] (defScope s_l_time) := ⟨rfl, rfl, rfl, by decide +kernel, rfl, by decide +kernel, by decide +kernel⟩
theorem sc_l_cells : FnScope ["_law_a_start", "_law_a_end", "_law_a_width", "_law_told", "_law_at"] ["_law_a_start", "_law_a_end", "_law_a_width"] (defScope s_l_cells) := ⟨rfl, rfl, rfl, by decide +kernel, rfl, by decide +kernel, by decide +kernel⟩
theorem sc_l_right : FnScope ["_law_draws_here", "_law_a_time", "_law_pick", "_law_a_width", "_law_told", "_law_due", "_law_ends", "_law_a_end", "_law_a_start", "_law_row", "_law_found"] ["_law_draws_here"] (defScope s_l_right) := ⟨rfl, rfl, rfl, by decide +kernel, rfl, by decide +kernel, by decide +kernel⟩
theorem sc_law : FnScope ["_law_script", "_law_drawn", "_law_draws_here"] ["_law_script"] (defScope s_law) := ⟨rfl, rfl, rfl, by decide +kernel, rfl, by decide +kernel, by decide +kernel⟩
structure Tx where
  f_cell_of : Addr
  d_cell_of : FuncData
  f_cells : Addr
  d_cells : FuncData
  f_l_draws : Addr
  d_l_draws : FuncData
  f_l_next : Addr
  d_l_next : FuncData
  f_l_time : Addr
  d_l_time : FuncData
  f_l_cells : Addr
  d_l_cells : FuncData
  f_l_right : Addr
  d_l_right : FuncData
  f_law : Addr
  d_law : FuncData
structure Top (K : PySem.W.Frag) (mg : Str → Option Value) (x : Tx) : Prop where
  d_cell_of : G.DefAt K mg "cell_of" s_cell_of x.f_cell_of x.d_cell_of ["time", "width"]
  d_cells : G.DefAt K mg "cells" s_cells x.f_cells x.d_cells ["start", "end", "width"]
  d_l_draws : G.DefAt K mg "_law_draws" s_l_draws x.f_l_draws x.d_l_draws ["_law_cell"]
  d_l_next : G.DefAt K mg "_law_next" s_l_next x.f_l_next x.d_l_next ["_law_draws_here"]
  d_l_time : G.DefAt K mg "_law_time" s_l_time x.f_l_time x.d_l_time ["_law_draws_here"]
  d_l_cells : G.DefAt K mg "_law_cells" s_l_cells x.f_l_cells x.d_l_cells ["_law_a_start", "_law_a_end", "_law_a_width"]
  d_l_right : G.DefAt K mg "_law_right" s_l_right x.f_l_right x.d_l_right ["_law_draws_here"]
  d_law : G.DefAt K mg "law" s_law x.f_law x.d_law ["_law_script"]
  k_cell_of_0_1_0 : KBn K x.d_cell_of ["time", "width"] 0 ["width", "time"] (G.pickU [1, 0]) (G.pickV [1, 0])
  k_cells_0_2_1_0 : KBn K x.d_cells ["start", "end", "width"] 0 ["width", "end", "start"] (G.pickU [2, 1, 0]) (G.pickV [2, 1, 0])
  n_bool : mg "bool" = none
  n_int : mg "int" = none
  n_isinstance : mg "isinstance" = none
  n_list : mg "list" = none
  n_range : mg "range" = none
section
variable {P : Program} {w : World} {K : PySem.W.Frag} {mg : Str → Option Value} {base : Heap} {x : Tx}
def spCellOf : Sp := fun vs H Q _ => ∃ t w : Int, vs = [.int t, .int w] ∧ 0 < w ∧ w.natAbs < 2 ^ 100 ∧ t.natAbs < 2 ^ 100 ∧ Q (.int (t - t % w)) H
theorem cell_eq {t w : Int} : t / w * w = t - t % w := by
  have := Int.emod_add_mul_ediv t w
  rw [Int.mul_comm]
  omega
theorem div_nat {t w : Int} (h : 0 < w) : (t / w).natAbs ≤ t.natAbs + 1 := by
  have h1 := Int.ediv_mul_le t (show w ≠ 0 by omega)
  have h2 := Int.lt_ediv_add_one_mul_self t h
  rcases Int.le_total 0 t with h0 | h0
  · have a := Int.ediv_nonneg h0 (by omega : 0 ≤ w)
    have b := Int.ediv_le_self w h0
    omega
  · have a : t ≤ t / w := by
      rw [Int.le_ediv_iff_mul_le h]
      have : t * w ≤ t * 1 := Int.mul_le_mul_of_nonpos_left h0 (by omega)
      omega
    have b : t / w ≤ 0 := by
      have : t / w < 1 := by
        rw [Int.ediv_lt_iff_lt_mul h]
        omega
      omega
    omega
theorem ok_cell_of (T : Top K mg x) : FnOk P w K mg base CX0 1 x.f_cell_of x.d_cell_of ["time", "width"] spCellOf := by
  refine T.d_cell_of.F.ok sc_cell_of (fun vs H Q E h => ?_) (fun cdv A outer s H vs Q E hr h => ?_)
  · obtain ⟨t, w, rfl, h0, hw, ht, k⟩ := h
    rfl
  obtain ⟨t, w, rfl, h0, hw, ht, k⟩ := h
  refine ⟨_, (pss_one (ps_ret (pe_op op_mulW (pe_op op_fdivW (pv 0) (pv 1)) (pv 1)))), ?_⟩
  walk_at "g"
  · rw [cell_eq]
    exact k
  · exact wide_div h0 hw (by decide) (by decide)
  · exact wide_mul (a := 101) (b := 100) (by have := div_nat (t := t) h0; omega) hw (by decide) (by decide) (by decide)
/-! ### draws -/
/-- a purse of draws stands at a -/
def DrawAt (H : Hp) (a : Addr) (m : Int) : Prop := ∃ (n k : Int) (f : Bool), H a = some (.lst [.int n, .int k, .bl f]) ∧ 0 ≤ n ∧ 0 ≤ k ∧ k ≤ m
def spDraws : Sp := fun vs H Q _ => ∃ c : Int, vs = [.int c] ∧ ∀ H' p, Same H H' → H p = none → DrawAt H' p 0 → Q (.ref p) H'
theorem ok_l_draws (T : Top K mg x) : FnOk P w K mg base CX0 1 x.f_l_draws x.d_l_draws ["_law_cell"] spDraws := by
  refine T.d_l_draws.F.ok sc_l_draws (fun vs H Q E h => ?_) (fun cdv A outer s H vs Q E hr h => ?_)
  · obtain ⟨c, rfl, k⟩ := h
    rfl
  obtain ⟨c, rfl, k⟩ := h
  refine ⟨_, (pss_cons (ps_set (i := 1) sc_l_draws.nd rfl (Or.inl rfl) (pe_op op_pow pe_int pe_int))
    (pss_cons (ps_for PassesOwn.never rfl (pi_range1 rfl T.n_range (pa_cons pe_int pa_nil)) (pg_name (i := 2) sc_l_draws.nd rfl (Or.inl rfl))
      (pss_one (ps_set (i := 1) sc_l_draws.nd rfl (Or.inl rfl) (pe_op op_mulW (pv 1) (pv 1)))))
    (pss_one (ps_ret (pe_lst (pa_cons (pe_op op_mod (pv 0) (pv 1)) (pa_cons pe_int (pa_cons (pe_cmpR op_ge (pv 0) (pe_op op_pow pe_int pe_int) (nomark _)) pa_nil)))))))), ?_⟩
  have L0 : Led H [] H := Led.nil
  walk_at "g"
  refine FOR.range (fun i σ H1 => ∃ (z : Int) (v : Option V), σ = [some (.int c), some (.int z), v] ∧ H1 = H ∧ 0 < z ∧ z.natAbs < 2 ^ (200 * 2 ^ i)) ⟨1000000000000000000000000000000000000000000000000000000000000, none, rfl, rfl, by decide, by decide⟩ ?_ ?_
  · rintro i σ H1 hi ⟨z, v, rfl, rfl, hz, hb⟩
    walk_at "g"
    · refine ⟨z * z, _, rfl, rfl, Int.mul_pos hz hz, ?_⟩
      have e : 200 * 2 ^ (i + 1) = 200 * 2 ^ i + 200 * 2 ^ i := by omega
      rw [e]
      exact wide_lt hb hb
    · have h6 : 2 ^ i ≤ 2 ^ 6 := Nat.pow_le_pow_right (by decide) (by omega)
      have h1 : 1 ≤ 2 ^ i := Nat.one_le_two_pow
      exact wide_mul hb hb (by omega) (by omega) (by omega)
  · rintro σ H1 ⟨z, v, rfl, rfl, hz, hb⟩
    walk_at "g"
    rename_i p H2 n1 n0 L
    refine k H2 p ?_ n0 ⟨c % z, 0, _, L.at0, Int.emod_nonneg _ (by omega), by omega, by omega⟩
    exact (L.tl (.inl n0)).toSame
def spNext : Sp := fun vs H Q _ => ∃ (a : Addr) (m : Int), vs = [.ref a] ∧ DrawAt H a m ∧ m < 2 ^ 30 ∧ ∀ (r : Int) (H' : Hp), 0 ≤ r → r < 306783369 → DrawAt H' a (m + 1) → (But a H H') → Q (.int r) H'
theorem ok_l_next (T : Top K mg x) : FnOk P w K mg base CX0 1 x.f_l_next x.d_l_next ["_law_draws_here"] spNext := by
  refine T.d_l_next.F.ok sc_l_next (fun vs H Q E h => ?_) (fun cdv A outer s H vs Q E hr h => ?_)
  · obtain ⟨a, m, rfl, ⟨n, c, f, ha, hn, hc, hm⟩, hm2, k⟩ := h
    rfl
  obtain ⟨a, m, rfl, ⟨n, c, f, ha, hn, hc, hm⟩, hm2, k⟩ := h
  refine ⟨_, (pss_cons (ps_asg (pe_op op_add (pe_ix ix_list (pv 0) pe_int (fun _ _ => rfl)) pe_int) (pg_sub (pv 0) pe_int set_list))
    (pss_cons (ps_set (i := 1) sc_l_next.nd rfl (Or.inl rfl) (pe_ix ix_list (pv 0) pe_int (fun _ _ => rfl)))
    (pss_cons (ps_if (pt_val (pe_ix ix_list (pv 0) pe_int (fun _ _ => rfl))) (pss_cons (ps_set (i := 2) sc_l_next.nd rfl (Or.inl rfl) (pe_op op_mod (pe_ix ix_list (pv 0) pe_int (fun _ _ => rfl)) (pe_op op_pow pe_int pe_int)))
    (pss_cons (ps_asg (pe_op op_fdiv (pe_ix ix_list (pv 0) pe_int (fun _ _ => rfl)) (pe_op op_pow pe_int pe_int)) (pg_sub (pv 0) pe_int set_list))
    (pss_one (ps_ret (pv 2))))) pss_nil)
    (pss_cons (ps_set (i := 2) sc_l_next.nd rfl (Or.inl rfl) (pe_op op_mod (pe_op op_mul (pe_op op_add (pe_op op_add (pe_op op_mod (pe_ix ix_list (pv 0) pe_int (fun _ _ => rfl)) pe_int) (pe_op op_mul (pe_op op_mul (pv 1) (pv 1)) pe_int)) (pv 1)) pe_int) pe_int))
    (pss_cons (ps_set (i := 2) sc_l_next.nd rfl (Or.inl rfl) (pe_op op_mod (pe_op op_mul (pv 2) (pv 2)) pe_int))
    (pss_one (ps_ret (pe_op op_fdiv (pe_op op_mod (pe_op op_mul (pv 2) (pe_op op_add (pv 2) pe_int)) pe_int) pe_int)))))))), ?_⟩
  have L0 : Led H [(a, .lst [.int n, .int c, .bl f])] H := Led.one ha
  walk_at "g"
  refine i_ifb (fun hf => ?_) (fun hf => ?_)
  · walk_at "g"
    rename_i H3 L3
    exact k _ H3 (by omega) (by omega) ⟨_, _, _, L3.at0, by omega, by omega, by omega⟩ L3.but
  · walk_at "g"
    rename_i H3 L3
    exact k _ H3 (by omega) (by omega) ⟨_, _, _, L3.at0, by omega, by omega, by omega⟩ L3.but
def spTime : Sp := fun vs H Q _ => ∃ (a : Addr) (m : Int), vs = [.ref a] ∧ DrawAt H a m ∧ m < 2 ^ 30 ∧ ∀ (t : Int) (H' : Hp), - 200000000000000 ≤ t → t ≤ 200000000000000 → DrawAt H' a (m + 1) → (But a H H') → Q (.int t) H'
theorem ok_l_time (T : Top K mg x) : FnOk P w K mg base CX0 2 x.f_l_time x.d_l_time ["_law_draws_here"] spTime := by
  have G_l_next := ok_l_next (P := P) (w := w) (K := K) (base := base) T
  refine T.d_l_time.F.ok sc_l_time (fun vs H Q E h => ?_) (fun cdv A outer s H vs Q E hr h => ?_)
  · obtain ⟨a, m, rfl, D, hm, k⟩ := h
    rfl
  obtain ⟨a, m, rfl, D, hm, k⟩ := h
  refine ⟨_, (pss_cons (ps_set (i := 1) sc_l_time.nd rfl (Or.inl rfl) (pe_call G_l_next (hr.mono (by decide)) rfl T.d_l_next.m T.d_l_next.F.kp T.d_l_next.b .nil pass0 (pa_cons (pv 0) pa_nil)))
    (pss_one (ps_ret (pe_ix ix_list (pe_lst (pa_cons (pe_op op_mod (pe_op op_fdiv (pv 1) pe_int) pe_int) (pa_cons (pe_op op_sub pe_int (pe_op op_mod (pe_op op_fdiv (pv 1) pe_int) pe_int)) (pa_cons (pe_op op_mul (pe_op op_fdiv (pv 1) pe_int) (pe_op op_pow pe_int pe_int)) (pa_cons (pe_op op_sub (pe_op op_sub pe_int (pe_op op_pow pe_int pe_int)) (pv 1)) pa_nil))))) (pe_op op_mod (pv 1) pe_int) (fun _ _ => rfl))))), ?_⟩
  walk_at "g"
  refine ⟨a, m, rfl, D, hm, fun r H1 r0 r1 D1 kp => ?_⟩
  have L1 : Led H1 [] H1 := Led.nil
  walk_at "g"
  rename_i p H2 n1 n0 L
  refine i_ixB (-200000000000000) 200000000000000 L.at0 (by walk_at "g_b") (by walk_at "g_i") fun z z0 z1 => ?_
  obtain ⟨n, c, f, e, hh⟩ := D1
  have S := (L.tl (.inl n0)).toSame
  exact k z H2 z0 z1 ⟨n, c, f, S _ _ e, hh⟩ fun b o e n => S _ _ (kp b o e n)
/-! ### the cells of a stretch -/
def st0 (a w : Int) : Int := 0 - (0 - a) / w * w
def cnt (a b w : Int) : Nat := (Builtin.Range.rangeSize (st0 a w) (b - w + 1) w).toNat
def cellsV (a b w : Int) : List Int := (List.range (cnt a b w)).map fun i => st0 a w + (i : Nat) * w
theorem cellsV_rg (a b w : Int) : (cellsV a b w).map V.int = rgV3 (st0 a w) w (cnt a b w) := by
  unfold cellsV rgV3
  rw [List.map_map]
  rfl
def spCells : Sp := fun vs H Q _ => ∃ a b w : Int, vs = [.int a, .int b, .int w] ∧ 0 < w ∧ w < 2 ^ 45 ∧ -(2 ^ 55) < a ∧ a < 2 ^ 55 ∧ -(2 ^ 55) < b ∧ b < 2 ^ 55 ∧ b - a ≤ 100 * w ∧
  ∀ H' p, Same H H' → H p = none → H' p = some (.lst ((cellsV a b w).map V.int)) → Q (.ref p) H'
theorem st0_bounds {a w : Int} (h : 0 < w) : a ≤ st0 a w ∧ st0 a w < a + w := by
  have h1 := Int.ediv_mul_le (0 - a) (show w ≠ 0 by omega)
  have h2 := Int.lt_ediv_add_one_mul_self (0 - a) h
  have h3 : ((0 - a) / w + 1) * w = (0 - a) / w * w + w := by rw [Int.add_mul, Int.one_mul]
  unfold st0
  omega
theorem size_le {a b w : Int} (h : 0 < w) (hb : b - a ≤ 100 * w) : 0 ≤ Builtin.Range.rangeSize (st0 a w) (b - w + 1) w ∧ Builtin.Range.rangeSize (st0 a w) (b - w + 1) w ≤ 101 := by
  have h1 := st0_bounds (a := a) h
  unfold Builtin.Range.rangeSize
  rw [if_pos h]
  split
  · have h3 : 0 ≤ (b - w + 1 - st0 a w - 1) / w := Int.ediv_nonneg (by omega) (by omega)
    have h4 : (b - w + 1 - st0 a w - 1) / w < 101 := by
      rw [Int.ediv_lt_iff_lt_mul h]
      omega
    omega
  · omega
theorem ok_cells (T : Top K mg x) : FnOk P w K mg base CX0 1 x.f_cells x.d_cells ["start", "end", "width"] spCells := by
  refine T.d_cells.F.ok sc_cells (fun vs H Q E h => ?_) (fun cdv A outer s H vs Q E hr h => ?_)
  · obtain ⟨a, b, w, rfl, w0, w1, a0, a1, b0, b1, hd, k⟩ := h
    rfl
  obtain ⟨a, b, w, rfl, w0, w1, a0, a1, b0, b1, hd, k⟩ := h
  refine ⟨_, (pss_one (ps_ret (G.pe_listRg3 rfl rfl T.n_list (G.prg_3 rfl T.n_range (pe_op op_sub pe_int (pe_op op_mulW (pe_op op_fdivW (pe_op op_sub pe_int (pv 0)) (pv 2)) (pv 2))) (pe_op op_add (pe_op op_sub (pv 1) (pv 2)) pe_int) (pv 2))))), ?_⟩
  have L0 : Led H [] H := Led.nil
  walk_at "g"
  · obtain ⟨z0, z1⟩ := size_le w0 hd
    have sb := st0_bounds (a := a) w0
    show LRG (st0 a w) (b - w + 1) w H Q
    refine i_LRG L0 (cnt a b w) (small_up w0 ?_ ?_ ?_ ?_ ?_ z0 (by omega)) ?_ ?_ ?_
    · omega
    · omega
    · omega
    · omega
    · omega
    · unfold cnt
      omega
    · unfold cnt
      omega
    · intro p H2 n1 n0 L
      refine k H2 p (L.tl (.inl n0)).toSame n0 ?_
      rw [cellsV_rg]
      exact L.at0
  · exact wide_div (b := 50) w0 (by omega) (by decide) (by decide)
  · exact wide_mul (a := 60) (b := 50) (by have := div_nat (t := 0 - a) w0; omega) (by omega) (by decide) (by decide) (by decide)
  · exact ⟨by omega, (wide_div (i := 0) (b := 50) w0 (by omega) (by decide) (by decide)).2⟩
/-! ### the law's own cells -/
theorem st0_eq {a w : Int} (h : 0 < w) : st0 a w = a - a % w + (if a % w = 0 then 0 else w) := by
  obtain ⟨h1, h2⟩ := st0_bounds (a := a) h
  have hm : st0 a w % w = 0 := by
    unfold st0
    rw [Int.zero_sub, ← Int.neg_mul, Int.mul_emod_left]
  have e1 := Int.emod_add_mul_ediv (st0 a w) w
  have e2 := Int.emod_add_mul_ediv a w
  have b1 := Int.emod_nonneg a (show w ≠ 0 by omega)
  have b2 := Int.emod_lt_of_pos a h
  rw [hm] at e1
  generalize hq : st0 a w / w = q at *
  generalize hr : a / w = r at *
  have e3 : w * q - w * r = w * (q - r) := (Int.mul_sub w q r).symm
  split
  · rename_i hz
    have : q - r = 0 := by
      rcases Int.lt_trichotomy (q - r) 0 with c | c | c
      · have : w * (q - r) ≤ w * (-1) := Int.mul_le_mul_of_nonneg_left (by omega) (by omega)
        omega
      · exact c
      · have : w * 1 ≤ w * (q - r) := Int.mul_le_mul_of_nonneg_left (by omega) (by omega)
        omega
    rw [this] at e3
    omega
  · rename_i hz
    have : q - r = 1 := by
      rcases Int.lt_trichotomy (q - r) 1 with c | c | c
      · have : w * (q - r) ≤ w * 0 := Int.mul_le_mul_of_nonneg_left (by omega) (by omega)
        omega
      · exact c
      · have : w * 2 ≤ w * (q - r) := Int.mul_le_mul_of_nonneg_left (by omega) (by omega)
        omega
    rw [this] at e3
    omega
theorem cnt_eq {a b w : Int} (h : 0 < w) (n : Nat) (h1 : n = 0 → b < st0 a w + w) (h2 : n ≠ 0 → st0 a w + n * w ≤ b ∧ b < st0 a w + n * w + w) : cnt a b w = n := by
  unfold cnt Builtin.Range.rangeSize
  rw [if_pos h]
  by_cases hn : n = 0
  · have := h1 hn
    rw [if_neg (by omega)]
    omega
  · obtain ⟨c1, c2⟩ := h2 hn
    have c3 : (n : Int) * w = (n - 1) * w + w := by rw [Int.sub_mul, Int.one_mul]; omega
    have c4 : 0 ≤ ((n : Int) - 1) * w := Int.mul_nonneg (by omega) (by omega)
    rw [if_pos (by omega)]
    have : (b - w + 1 - st0 a w - 1) / w = n - 1 := by
      apply Int.le_antisymm
      · have : (b - w + 1 - st0 a w - 1) / w < n := by
          rw [Int.ediv_lt_iff_lt_mul h]
          omega
        omega
      · rw [Int.le_ediv_iff_mul_le h]
        omega
    rw [this]
    omega
def spLCells : Sp := fun vs H Q _ => ∃ a b w : Int, vs = [.int a, .int b, .int w] ∧ 0 < w ∧ w < 2 ^ 45 ∧ -(2 ^ 55) < a ∧ a < 2 ^ 55 ∧ -(2 ^ 55) < b ∧ b < 2 ^ 55 ∧ b - a ≤ 100 * w ∧
  ∀ H' p, Same H H' → H p = none → H' p = some (.lst ((cellsV a b w).map V.int)) → Q (.ref p) H'
theorem ok_l_cells (T : Top K mg x) : FnOk P w K mg base CX0 1 x.f_l_cells x.d_l_cells ["_law_a_start", "_law_a_end", "_law_a_width"] spLCells := by
  refine T.d_l_cells.F.ok sc_l_cells (fun vs H Q E h => ?_) (fun cdv A outer s H vs Q E hr h => ?_)
  · obtain ⟨a, b, w, rfl, w0, w1, a0, a1, b0, b1, hd, k⟩ := h
    rfl
  obtain ⟨a, b, w, rfl, w0, w1, a0, a1, b0, b1, hd, k⟩ := h
  refine ⟨_, (pss_cons (ps_set (i := 3) sc_l_cells.nd rfl (Or.inl rfl) (pe_lst pa_nil))
    (pss_cons (ps_set (i := 4) sc_l_cells.nd rfl (Or.inl rfl) (pe_op op_sub (pv 0) (pe_op op_mod (pv 0) (pv 2))))
    (pss_cons (ps_while PassesOwn.never (pt_cmpR op_le (pe_op op_add (pv 4) (pv 2)) (pv 1) (nomark _)) (pss_cons (ps_if (pt_cmpR op_ge (pv 4) (pv 0) (nomark _)) (pss_one (ps_expr (pe_bm PySem.F.plainAttrs_list PySem.F.slot_list_append PySem.F.type_list_append mt_append (pv 3) (pa_cons (pv 4) pa_nil)))) pss_nil)
    (pss_one (ps_set (i := 4) sc_l_cells.nd rfl (Or.inl rfl) (pe_op op_add (pv 4) (pv 2))))))
    (pss_one (ps_ret (pv 3)))))), ?_⟩
  have L0 : Led H [] H := Led.nil
  walk_at "g"
  rename_i p H2 n1 n0 L
  have hs := st0_eq (a := a) w0
  have bm := Int.emod_nonneg a (show w ≠ 0 by omega)
  have bl := Int.emod_lt_of_pos a w0
  -- so many are told
  refine i_while (fun m σ H3 => ∃ (j n : Nat), m = 200 - j ∧ n = (if a % w = 0 then j else j - 1) ∧ (j = 0 ∨ a - a % w + j * w ≤ b) ∧ σ = [some (.int a), some (.int b), some (.int w), some (.ref p), some (.int (a - a % w + j * w))] ∧
    Led H [(p, .lst (((List.range n).map fun i => st0 a w + (i : Nat) * w).map V.int))] H3) 200 ⟨0, 0, rfl, by split <;> rfl, .inl rfl, ?_, L⟩ ?_
  · have e0 : a - a % w + ((0 : Nat) : Int) * w = a - a % w := by omega
    rw [e0]
    rfl
  rintro m σ H3 ⟨j, n, rfl, en, hj, rfl, L3⟩
  walk_at "g"
  refine i_ifd (fun hle => ?_) (fun hgt => ?_)
  · have e1 : ((j + 1 : Nat) : Int) * w = j * w + w := by rw [show ((j + 1 : Nat) : Int) = (j : Int) + 1 by omega, Int.add_mul, Int.one_mul]
    have hj2 : j < 150 := by
      refine Nat.lt_of_not_le fun hc => ?_
      have : (150 : Int) * w ≤ j * w := Int.mul_le_mul_of_nonneg_right (by omega) (by omega)
      omega
    have ev : a - a % w + ((j + 1 : Nat) : Int) * w = a - a % w + j * w + w := by omega
    walk_at "g"
    refine i_ifd (fun hge => ?_) (fun hlt => ?_)
    · walk_at "g"
      · rename_i H4 L4
        have en1 : n + 1 = if a % w = 0 then j + 1 else j + 1 - 1 := by
          split at en
          · rename_i hz
            rw [if_pos hz, en]
          · rename_i hz
            rw [if_neg hz]
            have : j ≠ 0 := by
              rintro rfl
              have : ((0 : Nat) : Int) * w = 0 := Int.zero_mul w
              omega
            omega
        have ei : st0 a w + (n : Int) * w = a - a % w + j * w := by
          split at en
          · rename_i hz
            rw [hs, if_pos hz, en]
            omega
          · rename_i hz
            have : j ≠ 0 := by
              rintro rfl
              have : ((0 : Nat) : Int) * w = 0 := Int.zero_mul w
              omega
            have e2 : (j : Int) = n + 1 := by omega
            rw [hs, if_neg hz, e2, Int.add_mul, Int.one_mul]
            omega
        refine ⟨200 - (j + 1), by omega, j + 1, n + 1, rfl, en1, .inr (by omega), by rw [ev]; rfl, ?_⟩
        rw [List.range_succ, List.map_append, List.map_append]
        show Led H [(p, .lst (_ ++ [V.int (st0 a w + (n : Int) * w)]))] _
        rw [ei]
        exact L4
      · rw [List.length_map, List.length_map, List.length_range]
        refine Nat.lt_of_lt_of_le (m := 200) ?_ (sz rfl)
        split at en <;> omega
    · walk_at "g"
      have hz : a % w ≠ 0 ∧ j = 0 := by
        rcases Nat.eq_zero_or_pos j with rfl | hp
        · have : ((0 : Nat) : Int) * w = 0 := Int.zero_mul w
          exact ⟨by omega, rfl⟩
        · have : (1 : Int) * w ≤ j * w := Int.mul_le_mul_of_nonneg_right (by omega) (by omega)
          omega
      obtain ⟨hz, rfl⟩ := hz
      rw [if_neg hz] at en
      refine ⟨200 - 1, by omega, 1, n, rfl, by rw [if_neg hz]; exact en, .inr (by omega), by rw [ev]; rfl, L3⟩
  · walk_at "g"
    refine k H3 p (L3.tl (.inl n0)).toSame n0 ?_
    have hc : cnt a b w = n := by
      refine cnt_eq w0 n (fun h0 => ?_) fun h0 => ?_
      · split at en
        · rename_i hz
          rw [hs, if_pos hz]
          have : (j : Int) * w = 0 := by rw [show (j : Int) = 0 by omega, Int.zero_mul]
          omega
        · rename_i hz
          rw [hs, if_neg hz]
          have : j = 0 ∨ j = 1 := by omega
          rcases this with rfl | rfl
          · have : ((0 : Nat) : Int) * w = 0 := Int.zero_mul w
            omega
          · have : ((1 : Nat) : Int) * w = w := Int.one_mul w
            omega
      · split at en
        · rename_i hz
          rw [hs, if_pos hz, en]
          omega
        · rename_i hz
          have e2 : (j : Int) = n + 1 := by omega
          rw [hs, if_neg hz]
          rw [e2, Int.add_mul, Int.one_mul] at hgt hj
          omega
    unfold cellsV
    rw [hc]
    exact L3.at0
theorem DrawAt.same {H H' : Hp} {a : Addr} {m : Int} (d : DrawAt H a m) (s : Same H H') : DrawAt H' a m := by
  obtain ⟨n, c, f, e, h⟩ := d
  exact ⟨n, c, f, s _ _ e, h⟩
theorem DrawAt.ne {H : Hp} {a p : Addr} {m : Int} (d : DrawAt H a m) (n : H p = none) : p ≠ a := by
  obtain ⟨_, _, _, e, _⟩ := d
  exact (ne_of_none e n).symm
theorem cells_len {a b w : Int} (h : 0 < w) (hb : b - a ≤ 100 * w) : (cellsV a b w).length ≤ 101 := by
  unfold cellsV
  rw [List.length_map, List.length_range]
  have := size_le h hb
  unfold cnt
  omega
def spRight : Sp := fun vs H Q _ => ∃ a : Addr, vs = [.ref a] ∧ DrawAt H a 0 ∧ ∀ H', But a H H' → Q (.bl true) H'
theorem ok_l_right (T : Top K mg x) : FnOk P w K mg base CX0 3 x.f_l_right x.d_l_right ["_law_draws_here"] spRight := by
  have G_l_cells := ok_l_cells (P := P) (w := w) (K := K) (base := base) T
  have G_l_next := ok_l_next (P := P) (w := w) (K := K) (base := base) T
  have G_l_time := ok_l_time (P := P) (w := w) (K := K) (base := base) T
  have G_cell_of := ok_cell_of (P := P) (w := w) (K := K) (base := base) T
  have G_cells := ok_cells (P := P) (w := w) (K := K) (base := base) T
  refine T.d_l_right.F.ok sc_l_right (fun vs H Q E h => ?_) (fun cdv A outer s H vs Q E hr h => ?_)
  · obtain ⟨a, rfl, D, k⟩ := h
    rfl
  obtain ⟨a, rfl, D, k⟩ := h
  refine ⟨_, (pss_cons (ps_set (i := 1) sc_l_right.nd rfl (Or.inl rfl) (pe_call G_l_time (hr.mono (by decide)) rfl T.d_l_time.m T.d_l_time.F.kp T.d_l_time.b .nil pass0 (pa_cons (pv 0) pa_nil)))
    (pss_cons (ps_set (i := 2) sc_l_right.nd rfl (Or.inl rfl) (pe_call G_l_next (hr.mono (by decide)) rfl T.d_l_next.m T.d_l_next.F.kp T.d_l_next.b .nil pass0 (pa_cons (pv 0) pa_nil)))
    (pss_cons (ps_set (i := 3) sc_l_right.nd rfl (Or.inl rfl) (pe_op op_mul (pe_ix ix_list (pe_lst (pa_cons pe_int (pa_cons (pe_op op_add pe_int (pe_op op_mod (pe_op op_fdiv (pv 2) pe_int) pe_int)) (pa_cons pe_int (pa_cons (pe_op op_add pe_int (pe_op op_mod (pe_op op_fdiv (pv 2) pe_int) pe_int)) pa_nil))))) (pe_op op_mod (pv 2) pe_int) (fun _ _ => rfl)) (pe_ix ix_list (pe_lst (pa_cons pe_int (pa_cons pe_int (pa_cons (pe_op op_pow pe_int pe_int) pa_nil)))) (pe_op op_mod (pe_call G_l_next (hr.mono (by decide)) rfl T.d_l_next.m T.d_l_next.F.kp T.d_l_next.b .nil pass0 (pa_cons (pv 0) pa_nil)) pe_int) (fun _ _ => rfl))))
    (pss_cons (ps_set (i := 4) sc_l_right.nd rfl (Or.inl rfl) (pe_lst (pa_cons (pe_call G_cell_of (hr.mono (by decide)) rfl T.d_cell_of.m T.d_cell_of.F.kp T.d_cell_of.b .nil pass0 (pa_cons (pv 1) (pa_cons (pv 3) pa_nil))) (pa_cons (G.pe_callN0 G_cell_of (hr.mono (by decide)) rfl T.d_cell_of.m T.d_cell_of.F.kp T.k_cell_of_0_1_0 pass0 (pk_cons (pv 3) (pk_cons (pv 1) pk_nil))) pa_nil))))
    (pss_cons (ps_set (i := 5) sc_l_right.nd rfl (Or.inl rfl) (pe_op op_sub (pv 1) (pe_op op_mod (pv 1) (pv 3))))
    (pss_cons (ps_if (PW.pt (pw_or (pt_cmpR (op_neD hr.units) (pv 4) (pe_lst (pa_cons (pv 5) (pa_cons (pv 5) pa_nil))) (nomark _)) (pw_or (pt_not (pt_val (pe_callB call_isi (by rfl) T.n_isinstance (by decide +kernel) (pa_cons (pe_ix ix_list (pv 4) pe_int (fun _ _ => rfl)) (pa_cons (pe_bltn (v := .ty "int") (by rfl) T.n_int (by decide +kernel) rfl) pa_nil))))) (pw_or1 (pt_val (pe_callB call_isi (by rfl) T.n_isinstance (by decide +kernel) (pa_cons (pe_ix ix_list (pv 4) pe_int (fun _ _ => rfl)) (pa_cons (pe_bltn (v := .ty "bool") (by rfl) T.n_bool (by decide +kernel) rfl) pa_nil)))))))) (pss_one (ps_ret pe_bl)) pss_nil)
    (pss_cons (ps_set (i := 6) sc_l_right.nd rfl (Or.inl rfl) (pe_lst (pa_cons pe_int (pa_cons pe_int (pa_cons (pv 3) (pa_cons (pe_op op_sub (pe_op op_mul (pv 3) pe_int) pe_int) (pa_cons (pe_op op_add (pe_op op_mul (pv 3) (pe_op op_mod (pe_call G_l_next (hr.mono (by decide)) rfl T.d_l_next.m T.d_l_next.F.kp T.d_l_next.b .nil pass0 (pa_cons (pv 0) pa_nil)) pe_int)) pe_int) (pa_cons (pe_op op_sub pe_int (pv 3)) pa_nil))))))))
    (pss_cons (ps_set (i := 7) sc_l_right.nd rfl (Or.inl rfl) (pe_op op_add (pv 1) (pe_ix ix_list (pv 6) (pe_op op_mod (pe_call G_l_next (hr.mono (by decide)) rfl T.d_l_next.m T.d_l_next.F.kp T.d_l_next.b .nil pass0 (pa_cons (pv 0) pa_nil)) pe_int) (fun _ _ => rfl))))
    (pss_cons (ps_for PassesOwn.never rfl (pi_list (pe_lst (pa_cons (pv 1) (pa_cons (pv 5) pa_nil)))) (pg_name (i := 8) sc_l_right.nd rfl (Or.inl rfl))
      (pss_cons (ps_set (i := 9) sc_l_right.nd rfl (Or.inl rfl) (pe_call G_l_cells (hr.mono (by decide)) rfl T.d_l_cells.m T.d_l_cells.F.kp T.d_l_cells.b .nil pass0 (pa_cons (pv 8) (pa_cons (pv 7) (pa_cons (pv 3) pa_nil)))))
    (pss_cons (ps_set (i := 10) sc_l_right.nd rfl (Or.inl rfl) (pe_call G_cells (hr.mono (by decide)) rfl T.d_cells.m T.d_cells.F.kp T.d_cells.b .nil pass0 (pa_cons (pv 8) (pa_cons (pv 7) (pa_cons (pv 3) pa_nil)))))
    (pss_cons (ps_if (PW.pt (pw_or (pt_not (pt_val (pe_callB call_isi (by rfl) T.n_isinstance (by decide +kernel) (pa_cons (pv 10) (pa_cons (pe_bltn (v := .ty "list") (by rfl) T.n_list (by decide +kernel) rfl) pa_nil))))) (pw_or1 (pt_cmpR (op_neD hr.units) (pv 10) (pv 9) (nomark _))))) (pss_one (ps_ret pe_bl)) pss_nil)
    (pss_cons (ps_expr (pe_bm PySem.F.plainAttrs_list PySem.F.slot_list_append PySem.F.type_list_append mt_append (pv 10) (pa_cons pe_int pa_nil)))
    (pss_one (ps_if (pt_cmpR (op_neD hr.units) (G.pe_callN0 G_cells (hr.mono (by decide)) rfl T.d_cells.m T.d_cells.F.kp T.k_cells_0_2_1_0 pass0 (pk_cons (pv 3) (pk_cons (pv 7) (pk_cons (pv 8) pk_nil)))) (pv 9) (nomark _)) (pss_one (ps_ret pe_bl)) pss_nil)))))))
    (pss_one (ps_ret pe_bl))))))))))), ?_⟩
  walk_at "g"
  refine ⟨a, 0, rfl, D, by omega, fun t H1 t0 t1 D1 k1 => ?_⟩
  walk_at "g"
  refine ⟨a, 0 + 1, rfl, D1, by omega, fun r H2 r0 r1 D2 k2 => ?_⟩
  have L2 : Led H2 [] H2 := Led.nil
  walk_at "g"
  rename_i p H3 n1 n0 L3
  refine i_ixB 1 5000 L3.at0 (by walk_at "g_b") (by walk_at "g_i") fun z z0 z1 => ?_
  have S3 : Same H2 H3 := by walk_at "g_s"
  have D3 := D2.same S3
  walk_at "g"
  rename_i p2 H3b n21 n20 L3b
  have S3b : Same H2 H3b := by walk_at "g_s"
  refine ⟨a, 0 + 1 + 1, rfl, D2.same S3b, by omega, fun r2 H4 r20 r21 D4 k4 => ?_⟩
  walk_at "g"
  refine i_ixB 1 1000000000 (k4 _ _ L3b.at0 (D2.ne n20)) (by walk_at "g_b") (by walk_at "g_i") fun y y0 y1 => ?_
  have kb : But a H H4 := ((k1.trans k2).trans (.of S3b)).trans k4
  clear L3 L3b S3b S3 D3 D2 D1 k1 k2 k4 L2
  have zy0 : 0 < z * y := Int.mul_pos (by omega) (by omega)
  have zy1 : z * y ≤ 5000 * 1000000000 := Int.mul_le_mul z1 y1 (by omega) (by omega)
  walk_at "g"
  generalize z * y = wd at zy0 zy1 ⊢
  walk_at "g"
  refine ⟨t, wd, rfl, zy0, by omega, by omega, ?_⟩
  walk_at "g"
  refine ⟨rfl, rfl, t, wd, rfl, zy0, by omega, by omega, ?_⟩
  have L4 : Led H4 [] H4 := Led.nil
  walk_at "g"
  rename_i p5 H5 n51 n50 L5
  refine i_neS (d := .list [.int (t - t % wd), .int (t - t % wd)]) (by walk_at "g_dp") (by walk_at "g_dp") rfl ?_
  walk_at "g"
  refine iteF ?_
  walk_at "g"
  refine iteF ?_
  walk_at "g"
  refine iteF ?_
  walk_at "g"
  rename_i p4 H4b n41 n40 L4b
  have S5 : Same H4 H5 := by walk_at "g_s"
  refine ⟨a, _, rfl, D4.same S5, by omega, fun r6 H6 r60 r61 D6 k6 => ?_⟩
  have L6 : Led H6 [] H6 := Led.nil
  walk_at "g"
  rename_i p7 H7 n71 n70 L7
  have S7 : Same H6 H7 := by walk_at "g_s"
  refine ⟨a, _, rfl, D6.same S7, by omega, fun r8 H8 r80 r81 D8 k8 => ?_⟩
  have e1 : 0 ≤ wd * (r6 % 50) := Int.mul_nonneg (by omega) (by omega)
  have e2 : wd * (r6 % 50) ≤ wd * 50 := Int.mul_le_mul_of_nonneg_left (by omega) (by omega)
  walk_at "g"
  refine i_ixB (-wd) (50 * wd + 3) (k8 _ _ L7.at0 (D6.ne n70)) (by walk_at "g_b") (by walk_at "g_i") fun z8 z80 z81 => ?_
  have kc : But a H H8 := (((kb.trans (.of S5)).trans k6).trans (.of S7)).trans k8
  have L8 : Led H8 [] H8 := Led.nil
  clear L7 S7 k8 k6 S5 L5 kb D6 L4b L4 L6
  walk_at "g"
  rename_i p9 H9 n91 n90 L9
  have m0 := Int.emod_nonneg t (show wd ≠ 0 by omega)
  have m1 := Int.emod_lt_of_pos t zy0
  refine FOR.list (xs := [.int t, .int (t - t % wd)]) (fun i σ H => ∃ v8 v9 v10 : Option V, σ = [some (.ref a), some (.int t), some (.int r), some (.int wd), some (.ref p4), some (.int (t - t % wd)), some (.ref p7), some (.int (t + z8)), v8, v9, v10] ∧
    Led H8 [(p9, .lst [.int t, .int (t - t % wd)])] H) ⟨none, none, none, rfl, L9⟩ (fun i σ H _ ⟨_, _, _, _, L⟩ => .inl (.inl L.at0)) ?_ ?_
  · rintro i x σ H10 hx ⟨v8, v9, v10, rfl, L10⟩
    obtain ⟨s0, rfl, s1, s2⟩ : ∃ s0, x = V.int s0 ∧ t - wd < s0 ∧ s0 ≤ t := by
      match i, hx with
      | 0, hx => exact ⟨t, (Option.some.inj hx).symm, by omega, by omega⟩
      | 1, hx => exact ⟨t - t % wd, (Option.some.inj hx).symm, by omega, by omega⟩
      | i + 2, hx => simp at hx
    walk_at "g"
    refine ⟨s0, t + z8, wd, rfl, zy0, by omega, by omega, by omega, by omega, by omega, by omega, fun H11 p11 S11 n11 e11 => ?_⟩
    have L11 := L10.made S11 n11 e11
    have f11 := L10.fresh n11
    walk_at "g"
    refine ⟨s0, t + z8, wd, rfl, zy0, by omega, by omega, by omega, by omega, by omega, by omega, fun H12 p12 S12 n12 e12 => ?_⟩
    have L12 := L11.made S12 n12 e12
    have f12 := L11.fresh n12
    walk_at "g"
    refine iteF ?_
    walk_at "g"
    refine i_neSame (Dp.ints L12.at0) (Dp.ints L12.at1) (Lay.ints _) (by decide) ?_
    walk_at "g"
    refine iteF ?_
    walk_at "g"
    · rename_i H13 L13
      refine ⟨rfl, rfl, s0, t + z8, wd, rfl, zy0, by omega, by omega, by omega, by omega, by omega, by omega, fun H14 p14 S14 n14 e14 => ?_⟩
      have L14 := L13.made S14 n14 e14
      have f14 := L13.fresh n14
      walk_at "g"
      refine i_neSame (Dp.ints L14.at0) (Dp.ints L14.at2) (Lay.ints _) (by decide) ?_
      walk_at "g"
      refine iteF ?_
      walk_at "g"
      exact ⟨_, _, _, rfl, ((L14.tl (.inl f14)).tl (.inl f12)).tl (.inl f11)⟩
    · rw [List.length_map]
      have := cells_len (a := s0) (b := t + z8) zy0 (by omega)
      exact Nat.lt_of_le_of_lt this (by rw [sizeLine_eq]; decide)
  · rintro σ H10 ⟨v8, v9, v10, rfl, L10⟩
    walk_at "g"
    exact k _ (kc.trans (.of (by walk_at "g_s")))
def spLaw (K : PySem.W.Frag) : Sp := fun vs H Q _ => ∃ (a : Addr) (ns : List Int), vs = [.ref a] ∧ SqL K H a (ns.map V.int) ∧ ns.length ≤ 63 ∧ ∀ H', Q (.bl true) H'
theorem ok_law (T : Top K mg x) : FnOk P w K mg base CX0 4 x.f_law x.d_law ["_law_script"] (spLaw K) := by
  have G_l_draws := ok_l_draws (P := P) (w := w) (K := K) (base := base) T
  have G_l_right := ok_l_right (P := P) (w := w) (K := K) (base := base) T
  refine T.d_law.F.ok sc_law (fun vs H Q E h => ?_) (fun cdv A outer s H vs Q E hr h => ?_)
  · obtain ⟨a, ns, rfl, hS, hlen, k⟩ := h
    rfl
  obtain ⟨a, ns, rfl, hS, hlen, k⟩ := h
  refine ⟨_, (pss_cons (ps_for PassesOwn.never rfl (pi_list (pe_op op_cat (pe_slice sl_list (pv 0) po_none (po_some pe_int)) (pe_lst (pa_cons pe_int pa_nil)))) (pg_name (i := 1) sc_law.nd rfl (Or.inl rfl))
      (pss_cons (ps_set (i := 2) sc_law.nd rfl (Or.inl rfl) (pe_call G_l_draws (hr.mono (by decide)) rfl T.d_l_draws.m T.d_l_draws.F.kp T.d_l_draws.b .nil pass0 (pa_cons (pv 1) pa_nil)))
    (pss_one (ps_if (pt_not (pt_val (pe_call G_l_right (hr.mono (by decide)) rfl T.d_l_right.m T.d_l_right.F.kp T.d_l_right.b .nil pass0 (pa_cons (pv 2) pa_nil)))) (pss_one (ps_ret pe_bl)) pss_nil))))
    (pss_one (ps_ret pe_bl))), ?_⟩
  have L0 : Led H [] H := Led.nil
  walk_at "g"
  · rename_i p1 H1 n11 n10 L1 p2 H2 n21 n20 L2 p3 H3 n31 n30 L3
    refine FOR.list (xs := cutV (ns.map V.int) none (some 12) ++ [V.int 0]) (fun i σ H4 => ∃ v1 v2 : Option V, σ = [some (.ref a), v1, v2] ∧ Led H [(p3, .lst (cutV (ns.map V.int) none (some 12) ++ [V.int 0]))] H4)
      ⟨none, none, rfl, (L3.tl1 (.inl n20)).tl1 (.inl n10)⟩ (fun i σ H _ ⟨_, _, _, L⟩ => .inl (.inl L.at0)) ?_ ?_
    · rintro i x σ H4 hx ⟨v1, v2, rfl, L4⟩
      obtain ⟨c, rfl⟩ := cut_int (zs := [0]) hx
      walk_at "g"
      refine ⟨c, rfl, fun H5 p5 S5 n5 D5 => ?_⟩
      obtain ⟨n, k5, f, e5, hh⟩ := D5
      have L5 := L4.made S5 n5 e5
      have f5 := L4.fresh n5
      walk_at "g"
      refine ⟨p5, rfl, ⟨n, k5, f, e5, hh⟩, fun H6 k6 => ?_⟩
      walk_at "g"
      refine iteF ?_
      walk_at "g"
      refine ⟨_, _, rfl, ⟨fun b o eb hb => ?_, fun j b o hj => ?_, ?_⟩⟩
      · exact k6 b o (L5.old b o eb fun q hq => by
          rcases List.mem_cons.mp hq with rfl | hq
          · exact ne_of_none eb f5
          · exact hb q hq) (ne_of_none eb f5)
      · refine k6 b o (L5.at_ (j + 1) b o (by simpa using hj)) fun e => ?_
        have := L5.ne01
        match j, hj with
        | 0, hj =>
          cases hj
          exact this e.symm
        | j + 1, hj => simp at hj
      · exact (L5.tl (.inl f5)).nd
    · rintro σ H4 ⟨v1, v2, rfl, L4⟩
      walk_at "g"
      exact k _
  · have := cutV_length (ns.map V.int) none (some 12)
    rw [List.length_map] at this
    exact Nat.le_trans (Nat.add_le_add_right this _) (Nat.le_trans (Nat.add_le_add_right hlen _) (sz rfl))
end
theorem all_mk {l : PySem.W.OpenLaw} {w : World} {K : PySem.W.Frag} {h : Heap} {mg : Str → Option Value} {fa f1 f2 f3 f4 f5 f6 f7 f8 : Addr} (X : K.In h) (hG : h.Ns mainGlobals mg) (hfa : mg "law" = some (.ref fa))
    {oc1 : Value} {od1 an1 : Option Addr} {sl1 : Array (Option Value)} {kV1 dc1 pm1 cd1 ct1 : Value} {oc2 : Value} {od2 an2 : Option Addr} {sl2 : Array (Option Value)} {kV2 dc2 pm2 cd2 ct2 : Value} {oc3 : Value} {od3 an3 : Option Addr} {sl3 : Array (Option Value)} {kV3 dc3 pm3 cd3 ct3 : Value} {oc4 : Value} {od4 an4 : Option Addr} {sl4 : Array (Option Value)} {kV4 dc4 pm4 cd4 ct4 : Value} {oc5 : Value} {od5 an5 : Option Addr} {sl5 : Array (Option Value)} {kV5 dc5 pm5 cd5 ct5 : Value} {oc6 : Value} {od6 an6 : Option Addr} {sl6 : Array (Option Value)} {kV6 dc6 pm6 cd6 ct6 : Value} {oc7 : Value} {od7 an7 : Option Addr} {sl7 : Array (Option Value)} {kV7 dc7 pm7 cd7 ct7 : Value} {oc8 : Value} {od8 an8 : Option Addr} {sl8 : Array (Option Value)} {kV8 dc8 pm8 cd8 ct8 : Value}
    (a1 : PySem.W.nsIn K mainGlobals "cell_of" = some (some (.ref f1))) (l1 : K.lookup f1 = some ⟨oc1, od1, .func (PySem.W.fnOf "cell_of" "cell_of" (defArgs s_cell_of) (defBody s_cell_of) (defScope s_cell_of) .none kV1 dc1 pm1 an1 cd1 ct1), sl1⟩) (c1 : PySem.W.codeIn K cd1 "cell_of" = true) (k1 : PySem.W.keepIn K (.ref f1) = true)
    (a2 : PySem.W.nsIn K mainGlobals "cells" = some (some (.ref f2))) (l2 : K.lookup f2 = some ⟨oc2, od2, .func (PySem.W.fnOf "cells" "cells" (defArgs s_cells) (defBody s_cells) (defScope s_cells) .none kV2 dc2 pm2 an2 cd2 ct2), sl2⟩) (c2 : PySem.W.codeIn K cd2 "cells" = true) (k2 : PySem.W.keepIn K (.ref f2) = true)
    (a3 : PySem.W.nsIn K mainGlobals "_law_draws" = some (some (.ref f3))) (l3 : K.lookup f3 = some ⟨oc3, od3, .func (PySem.W.fnOf "_law_draws" "_law_draws" (defArgs s_l_draws) (defBody s_l_draws) (defScope s_l_draws) .none kV3 dc3 pm3 an3 cd3 ct3), sl3⟩) (c3 : PySem.W.codeIn K cd3 "_law_draws" = true) (k3 : PySem.W.keepIn K (.ref f3) = true)
    (a4 : PySem.W.nsIn K mainGlobals "_law_next" = some (some (.ref f4))) (l4 : K.lookup f4 = some ⟨oc4, od4, .func (PySem.W.fnOf "_law_next" "_law_next" (defArgs s_l_next) (defBody s_l_next) (defScope s_l_next) .none kV4 dc4 pm4 an4 cd4 ct4), sl4⟩) (c4 : PySem.W.codeIn K cd4 "_law_next" = true) (k4 : PySem.W.keepIn K (.ref f4) = true)
    (a5 : PySem.W.nsIn K mainGlobals "_law_time" = some (some (.ref f5))) (l5 : K.lookup f5 = some ⟨oc5, od5, .func (PySem.W.fnOf "_law_time" "_law_time" (defArgs s_l_time) (defBody s_l_time) (defScope s_l_time) .none kV5 dc5 pm5 an5 cd5 ct5), sl5⟩) (c5 : PySem.W.codeIn K cd5 "_law_time" = true) (k5 : PySem.W.keepIn K (.ref f5) = true)
    (a6 : PySem.W.nsIn K mainGlobals "_law_cells" = some (some (.ref f6))) (l6 : K.lookup f6 = some ⟨oc6, od6, .func (PySem.W.fnOf "_law_cells" "_law_cells" (defArgs s_l_cells) (defBody s_l_cells) (defScope s_l_cells) .none kV6 dc6 pm6 an6 cd6 ct6), sl6⟩) (c6 : PySem.W.codeIn K cd6 "_law_cells" = true) (k6 : PySem.W.keepIn K (.ref f6) = true)
    (a7 : PySem.W.nsIn K mainGlobals "_law_right" = some (some (.ref f7))) (l7 : K.lookup f7 = some ⟨oc7, od7, .func (PySem.W.fnOf "_law_right" "_law_right" (defArgs s_l_right) (defBody s_l_right) (defScope s_l_right) .none kV7 dc7 pm7 an7 cd7 ct7), sl7⟩) (c7 : PySem.W.codeIn K cd7 "_law_right" = true) (k7 : PySem.W.keepIn K (.ref f7) = true)
    (a8 : PySem.W.nsIn K mainGlobals "law" = some (some (.ref f8))) (l8 : K.lookup f8 = some ⟨oc8, od8, .func (PySem.W.fnOf "law" "law" (defArgs s_law) (defBody s_law) (defScope s_law) .none kV8 dc8 pm8 an8 cd8 ct8), sl8⟩) (c8 : PySem.W.codeIn K cd8 "law" = true) (k8 : PySem.W.keepIn K (.ref f8) = true)
    (n_bool : PySem.W.nsIn K mainGlobals "bool" = some none)
    (n_int : PySem.W.nsIn K mainGlobals "int" = some none)
    (n_isinstance : PySem.W.nsIn K mainGlobals "isinstance" = some none)
    (n_list : PySem.W.nsIn K mainGlobals "list" = some none)
    (n_range : PySem.W.nsIn K mainGlobals "range" = some none) :
    ∃ fd : FuncData, (∀ (s : Shared) (v : Value), BindsTo s fd ⟨[v], []⟩ [("_law_script", v)]) ∧ ∀ base : Heap, K.In base → base.Ns mainGlobals mg → FnOk l.prog w K mg base CX0 4 fa fd ["_law_script"] (spLaw K) := by
  have e := hfa.symm.trans (PySem.W.mg_of X hG a8)
  cases e
  have F1 := fun_mk (st := s_cell_of) l1 c1 k1
  have D1 : G.DefAt K mg "cell_of" s_cell_of f1 _ ["time", "width"] := ⟨F1, PySem.W.mg_of X hG a1, F1.binds (ps := ["time", "width"]) fun _ _ _ _ _ _ us hl => match us, hl with | [_, _], _ => rfl⟩
  have F2 := fun_mk (st := s_cells) l2 c2 k2
  have D2 : G.DefAt K mg "cells" s_cells f2 _ ["start", "end", "width"] := ⟨F2, PySem.W.mg_of X hG a2, F2.binds (ps := ["start", "end", "width"]) fun _ _ _ _ _ _ us hl => match us, hl with | [_, _, _], _ => rfl⟩
  have F3 := fun_mk (st := s_l_draws) l3 c3 k3
  have D3 : G.DefAt K mg "_law_draws" s_l_draws f3 _ ["_law_cell"] := ⟨F3, PySem.W.mg_of X hG a3, F3.binds (ps := ["_law_cell"]) fun _ _ _ _ _ _ us hl => match us, hl with | [_], _ => rfl⟩
  have F4 := fun_mk (st := s_l_next) l4 c4 k4
  have D4 : G.DefAt K mg "_law_next" s_l_next f4 _ ["_law_draws_here"] := ⟨F4, PySem.W.mg_of X hG a4, F4.binds (ps := ["_law_draws_here"]) fun _ _ _ _ _ _ us hl => match us, hl with | [_], _ => rfl⟩
  have F5 := fun_mk (st := s_l_time) l5 c5 k5
  have D5 : G.DefAt K mg "_law_time" s_l_time f5 _ ["_law_draws_here"] := ⟨F5, PySem.W.mg_of X hG a5, F5.binds (ps := ["_law_draws_here"]) fun _ _ _ _ _ _ us hl => match us, hl with | [_], _ => rfl⟩
  have F6 := fun_mk (st := s_l_cells) l6 c6 k6
  have D6 : G.DefAt K mg "_law_cells" s_l_cells f6 _ ["_law_a_start", "_law_a_end", "_law_a_width"] := ⟨F6, PySem.W.mg_of X hG a6, F6.binds (ps := ["_law_a_start", "_law_a_end", "_law_a_width"]) fun _ _ _ _ _ _ us hl => match us, hl with | [_, _, _], _ => rfl⟩
  have F7 := fun_mk (st := s_l_right) l7 c7 k7
  have D7 : G.DefAt K mg "_law_right" s_l_right f7 _ ["_law_draws_here"] := ⟨F7, PySem.W.mg_of X hG a7, F7.binds (ps := ["_law_draws_here"]) fun _ _ _ _ _ _ us hl => match us, hl with | [_], _ => rfl⟩
  have F8 := fun_mk (st := s_law) l8 c8 k8
  have D8 : G.DefAt K mg "law" s_law fa _ ["_law_script"] := ⟨F8, PySem.W.mg_of X hG a8, F8.binds (ps := ["_law_script"]) fun _ _ _ _ _ _ us hl => match us, hl with | [_], _ => rfl⟩
  have k_cell_of_0_1_0 := F1.kbn (ps := ["time", "width"]) 0 ["width", "time"] [1, 0] (fun _ _ _ _ _ _ us ws hu hw => match us, ws, hu, hw with | [], [_, _], _, _ => rfl)
  have k_cells_0_2_1_0 := F2.kbn (ps := ["start", "end", "width"]) 0 ["width", "end", "start"] [2, 1, 0] (fun _ _ _ _ _ _ us ws hu hw => match us, ws, hu, hw with | [], [_, _, _], _, _ => rfl)
  have T : Top K mg ⟨f1, _, f2, _, f3, _, f4, _, f5, _, f6, _, f7, _, fa, _⟩ := ⟨D1, D2, D3, D4, D5, D6, D7, D8, k_cell_of_0_1_0, k_cells_0_2_1_0, PySem.W.mg_none_of X hG n_bool, PySem.W.mg_none_of X hG n_int, PySem.W.mg_none_of X hG n_isinstance, PySem.W.mg_none_of X hG n_list, PySem.W.mg_none_of X hG n_range⟩
  exact ⟨_, fun s v => .of_eq rfl, fun base _ _ => ok_law T⟩
theorem walk {l : PySem.W.OpenLaw} {q : Program} {loose : List Str} {XP : (Str → Option Value) → Heap → Prop} {YP : World → Heap → Prop} {d : DefRec} {K : Params → PySem.W.Frag} (hn : l.most = some 63) (hdf : d.params.defaults = [])
    (hY : ∀ (w : World) (h : Heap), YP w h → (K w.params).In h)
    (F : ∀ (w : World) (mg : Str → Option Value) (fa : Addr) (h : Heap), (K w.params).In h → h.Ns mainGlobals mg → mg d.name = some (.ref fa) →
      ∃ fd : FuncData, (∀ (s : Shared) (u : Value), BindsTo s fd ⟨[u], []⟩ [("_law_script", u)]) ∧ ∀ base : Heap, (K w.params).In base → base.Ns mainGlobals mg → FnOk l.prog w (K w.params) mg base CX0 4 fa fd ["_law_script"] (spLaw (K w.params))) :
    PySem.W.WalkO q loose XP YP l.row.toRowW d [] (fun f vs => PySem.call f vs) :=
  L2.walk_of (n := 63) (k := 4) (x := "_law_script") (CX := fun _ => CX0) (sp := fun w => spLaw (K w.params)) hn (by decide) hdf ⟨rfl, by decide, by decide⟩ hY F (fun _ _ a ns hl _ hS => ⟨a, ns, rfl, hS, hl, fun _ => rfl⟩) fun _ _ _ _ _ z => z
end K01
open PySem PySem.W PyProof.Rows
set_option maxRecDepth 100000 in
set_option maxHeartbeats 0 in
theorem PySem.Challenge.cw_timegranary_k01_cells_holds : PySem.Challenge.rw_timegranary_k01_cells.Holds := by
  w_on; o_law; k_head; (case hw => w_witness2)
  k_fill
  refine K01.walk (l := PySem.Challenge.rw_timegranary_k01_cells) rfl rfl (fun w h Y => PySem.W.kIn_of Y) ?F
  case F =>
    intro w mg fa h KX G hmg
    refine' K01.all_mk KX G hmg ?a1 ?l1 ?c1 ?k1 ?a2 ?l2 ?c2 ?k2 ?a3 ?l3 ?c3 ?k3 ?a4 ?l4 ?c4 ?k4 ?a5 ?l5 ?c5 ?k5 ?a6 ?l6 ?c6 ?k6 ?a7 ?l7 ?c7 ?k7 ?a8 ?l8 ?c8 ?k8 ?n_bool ?n_int ?n_isinstance ?n_list ?n_range
    (case a1 => k_is)
    (case l1 => k_is)
    (case c1 => k_is)
    (case k1 => k_is)
    (case a2 => k_is)
    (case l2 => k_is)
    (case c2 => k_is)
    (case k2 => k_is)
    (case a3 => k_is)
    (case l3 => k_is)
    (case c3 => k_is)
    (case k3 => k_is)
    (case a4 => k_is)
    (case l4 => k_is)
    (case c4 => k_is)
    (case k4 => k_is)
    (case a5 => k_is)
    (case l5 => k_is)
    (case c5 => k_is)
    (case k5 => k_is)
    (case a6 => k_is)
    (case l6 => k_is)
    (case c6 => k_is)
    (case k6 => k_is)
    (case a7 => k_is)
    (case l7 => k_is)
    (case c7 => k_is)
    (case k7 => k_is)
    (case a8 => k_is)
    (case l8 => k_is)
    (case c8 => k_is)
    (case k8 => k_is)
    (case n_bool => k_is)
    (case n_int => k_is)
    (case n_isinstance => k_is)
    (case n_list => k_is)
    (case n_range => k_is)

