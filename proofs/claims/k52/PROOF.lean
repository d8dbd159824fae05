import PyProof.Rows.All
import Wide.All
import OpenK.AllK
import Wide.FinOn
import KE.KStateDown
import HandS.ForMost
import HandS.Wide
import HandS.IsInst
import HandS.Codes
import HandS.Defaults
import HandS.Conv
import HandS.More
import HandS.WordsExc
import HandS.Head0
import HandS.Head1
import HandS.Head2
import HandS.HeadEnd
import HandS.HeadHook1
import HandS.HeadHook2
import PySem.Challenge.RW_combed_k52_coprime_lists
set_option Elab.async false
set_option linter.all false
set_option maxRecDepth 100000
set_option maxHeartbeats 4000000
namespace Cb
open PySem PySem.Spec PyProof.Rows L2

/-! ### steps of a reading, by the head of its term -/
section
variable {σ : L2.St} {H : Hp} {Q : VK} {D : Ends} {te ta tb tc : TE} {t u : TS} {tt : TT} {v : V} {i j : Int} {K : PySem.W.Frag}
theorem x_seq (h : t { D with nx := u D } σ H) : tSeq t u D σ H := h
theorem x_next (h : D.nx σ H) : tNext D σ H := h
theorem x_brk (h : D.bk σ H) : tBreak D σ H := h
theorem x_cont (h : D.ct σ H) : tCont D σ H := h
theorem x_asg {g : TG} (h : te σ H fun x H1 => g x σ H1 D.nx) : tAsg te g D σ H := h
theorem x_gname {k : Nat} {R : L2.St → Hp → Prop} (h : R (σ.set k (some v)) H) : gName k v σ H R := h
theorem x_drop (h : te σ H fun _ H1 => D.nx σ H1) : tDrop te D σ H := h
theorem x_ret (h : te σ H D.rt) : tRet te D σ H := h
theorem x_retN (h : D.rt .non H) : tRetN D σ H := h
theorem x_ifs {c : TT} (h : c σ H fun b H1 => if b = true then t D σ H1 else u D σ H1) : tIfS c t u D σ H := h
theorem x_par {k l : Nat} {ta : TA} (h : ta σ H fun vs H1 => ∃ v w, vs = [v, w] ∧ D.nx ((σ.set k (some v)).set l (some w)) H1) : tPar k l ta D σ H := h
theorem x_par2 {k l : Nat} {v w : V} (h : D.nx ((σ.set k (some v)).set l (some w)) H) : ∃ v' w', [v, w] = [v', w'] ∧ D.nx ((σ.set k (some v')).set l (some w')) H := ⟨v, w, rfl, h⟩
theorem x_aug {k : Nat} {ti : TIp} {x : V} (e : σ[k]? = some (some x)) (h : te σ H fun y H1 => ti x y H1 fun z H2 => D.nx (σ.set k (some z)) H2) : tAug k te ti D σ H := ⟨x, e, h⟩
theorem x_var {k : Nat} (e : σ[k]? = some (some v)) (h : Q v H) : tVar k σ H Q := ⟨v, e, h⟩
theorem x_c (h : Q v H) : tC v σ H Q := h
theorem x_op {r : R2} (h : ta σ H fun x H1 => tb σ H1 fun y H2 => r x y H2 Q) : tOp r ta tb σ H Q := h
theorem x_un {r : V → Hp → VK → Prop} (h : ta σ H fun x H1 => r x H1 Q) : tUn r ta σ H Q := h
theorem x_rI0 {g : Int → Int → V} (h : Q (g i j) H) : rI0 g (.int i) (.int j) H Q := ⟨i, j, rfl, rfl, h⟩
theorem x_rI {C : Int → Int → Prop} {g : Int → Int → V} (c : C i j) (h : Q (g i j) H) : rI C g (.int i) (.int j) H Q := ⟨i, j, rfl, rfl, c, h⟩
theorem x_rU {g : Int → V} (h : Q (g i) H) : rU g (.int i) H Q := ⟨i, rfl, h⟩
theorem x_ipI {f : Int → Int → Int} (h : Q (.int (f i j)) H) : ipI f (.int i) (.int j) H Q := ⟨i, j, rfl, rfl, h⟩
theorem dec_int {i j : Int} : decide (V.int i = V.int j) = decide (i = j) := by
  by_cases e : i = j
  · subst e; simp
  · rw [decide_eq_false e, decide_eq_false (fun q => e (V.int.inj q))]
theorem dec_str {i j : Str} : decide (V.str i = V.str j) = decide (i = j) := by
  by_cases e : i = j
  · subst e; simp
  · rw [decide_eq_false e, decide_eq_false (fun q => e (V.str.inj q))]
theorem dec_bl {i j : Bool} : decide (V.bl i = V.bl j) = decide (i = j) := by
  by_cases e : i = j
  · subst e; simp
  · rw [decide_eq_false e, decide_eq_false (fun q => e (V.bl.inj q))]
theorem x_eqI (h : Q (.bl (decide (i = j))) H) : rEq (.int i) (.int j) H Q := ⟨rfl, by rw [dec_int]; exact h⟩
theorem x_neI (h : Q (.bl (!decide (i = j))) H) : rNe (.int i) (.int j) H Q := ⟨rfl, by rw [dec_int]; exact h⟩
theorem x_eqS {i j : Str} (h : Q (.bl (decide (i = j))) H) : rEq (.str i) (.str j) H Q := ⟨rfl, by rw [dec_str]; exact h⟩
theorem x_neS {i j : Str} (h : Q (.bl (!decide (i = j))) H) : rNe (.str i) (.str j) H Q := ⟨rfl, by rw [dec_str]; exact h⟩
theorem x_eqB {i j : Bool} (h : Q (.bl (decide (i = j))) H) : rEq (.bl i) (.bl j) H Q := ⟨rfl, by rw [dec_bl]; exact h⟩
theorem x_neB {i j : Bool} (h : Q (.bl (!decide (i = j))) H) : rNe (.bl i) (.bl j) H Q := ⟨rfl, by rw [dec_bl]; exact h⟩
theorem x_test {R : Bool → Hp → Prop} (h : te σ H fun x H' => ∃ k, x = .bl k ∧ R k H') : tTest te σ H R := h
theorem x_tB {R : Bool → Hp → Prop} (h : te σ H fun x H' => ∃ k, x = .bl k ∧ R k H') : tB te σ H R := h
theorem x_bl {b : Bool} {R : Bool → Prop} (h : R b) : ∃ k, V.bl b = .bl k ∧ R k := ⟨b, rfl, h⟩
theorem x_and {s t : TT} {R : Bool → Hp → Prop} (h : s σ H fun c H1 => if c = true then t σ H1 R else R false H1) : tAnd s t σ H R := h
theorem x_or {s t : TT} {R : Bool → Hp → Prop} (h : s σ H fun c H1 => if c = true then R true H1 else t σ H1 R) : tOr s t σ H R := h
theorem x_not {s : TT} {R : Bool → Hp → Prop} (h : s σ H fun c H1 => R (!c) H1) : tNot s σ H R := h
theorem x_andV (h : ta σ H fun x H1 => ∃ c, x = .bl c ∧ if c = true then tb σ H1 Q else Q (.bl false) H1) : tAndV ta tb σ H Q := h
theorem x_orV (h : ta σ H fun x H1 => ∃ c, x = .bl c ∧ if c = true then Q (.bl true) H1 else tb σ H1 Q) : tOrV ta tb σ H Q := h
theorem x_notV (h : ta σ H fun x H1 => ∃ c, x = .bl c ∧ Q (.bl (!c)) H1) : tNotV ta σ H Q := h
theorem x_if {s : TT} (h : s σ H fun c H1 => if c = true then ta σ H1 Q else tb σ H1 Q) : tIf s ta tb σ H Q := h
theorem x_chain {r r' : R2} (h : ta σ H fun x H1 => tb σ H1 fun y H2 => r x y H2 fun z H3 => ∃ k, z = .bl k ∧ (if k = true then tc σ H3 fun w' H4 => r' y w' H4 Q else Q (.bl false) H3)) : tChain r r' ta tb tc σ H Q := h
theorem x_nil {R : List V → Hp → Prop} (h : R [] H) : tNil σ H R := h
theorem x_cons {tr : TA} {R : List V → Hp → Prop} (h : te σ H fun x H1 => tr σ H1 fun xs H2 => R (x :: xs) H2) : tCons te tr σ H R := h
theorem x_call {sp : Sp} {dvs : List V} {E : XK} {tr : TA} (h : tr σ H fun vs H1 => sp (vs ++ dvs) H1 Q E) : tCall sp dvs E tr σ H Q := h
theorem x_callK {sp : Sp} {g : List V → List V → List V} {E : XK} {tr tk : TA} (h : tr σ H fun vs H1 => tk σ H1 fun zs H2 => sp (g vs zs) H2 Q E) : tCallK sp g E tr tk σ H Q := h
theorem x_cb {r : List V → Hp → VK → Prop} {tr : TA} (h : tr σ H fun vs H1 => r vs H1 Q) : tCB r tr σ H Q := h
theorem x_lst {tr : TA} (h : tr σ H fun xs H1 => xs.length ≤ sizeLine ∧ ∀ p, H1 p = none → Q (.ref p) (upd H1 p (.lst xs))) : tLst tr σ H Q := h
theorem x_tup {tr : TA} (h : tr σ H fun xs H1 => xs.length ≤ sizeLine ∧ ∀ p, H1 p = none → Q (.ref p) (upd H1 p (.tup xs))) : tTup tr σ H Q := h
theorem x_ixL {p : Addr} {xs : List V} (s : SqL K H p xs) (a : atI xs i = some v) (h : Q v H) : rIxL K (.ref p) (.int i) H Q := ⟨p, xs, i, v, rfl, rfl, s, a, h⟩
theorem x_ixT {p : Addr} {xs : List V} (s : SqT K H p xs) (a : atI xs i = some v) (h : Q v H) : rIxT K (.ref p) (.int i) H Q := ⟨p, xs, i, v, rfl, rfl, s, a, h⟩
theorem x_sub {to ti : TE} {tS : TSet} {R : L2.St → Hp → Prop} (h : to σ H fun o H1 => ti σ H1 fun i H2 => tS o i v H2 fun H3 => R σ H3) : gSub to ti tS v σ H R := h
theorem x_setL {p : Addr} {xs : List V} {k : Nat} {R : Hp → Prop} (s : H p = some (.lst xs)) (a : ixN xs.length i = some k) (h : R (upd H p (.lst (xs.set k v)))) : rSetL (.ref p) (.int i) v H R := ⟨p, xs, i, k, rfl, rfl, s, a, h⟩
theorem x_sl {r : V → Option Int → Option Int → Hp → VK → Prop} {tl th : TO} (h : te σ H fun x H1 => tl σ H1 fun l H2 => th σ H2 fun u H3 => r x l u H3 Q) : tSl r te tl th σ H Q := h
theorem x_nopart {R : Option Int → Hp → Prop} (h : R none H) : tNoPart σ H R := h
theorem x_part {R : Option Int → Hp → Prop} (h : te σ H fun x H1 => ∃ i, x = .int i ∧ R (some i) H1) : tPart te σ H R := h
theorem x_int {R : Int → Prop} (h : R i) : ∃ k, V.int i = .int k ∧ R k := ⟨i, rfl, h⟩
theorem x_slL {p : Addr} {xs : List V} {lo hi : Option Int} (s : SqL K H p xs) (h : ∀ q, H q = none → Q (.ref q) (upd H q (.lst (cutV xs lo hi)))) : rSlL K (.ref p) lo hi H Q := ⟨p, xs, rfl, s, h⟩
theorem x_bm {T : String} {r : V → List V → Hp → VK → Prop} {to : TE} {tr : TA} (h : to σ H fun x H1 => tyV K T x H1 ∧ tr σ H1 fun xs H2 => r x xs H2 Q) : tBM K T r to tr σ H Q := h
theorem x_bm0 {T : String} {r : V → List V → Hp → VK → Prop} {to : TE} (h : to σ H fun x H1 => tyV K T x H1 ∧ r x [] H1 Q) : tBM0 K T r to σ H Q := h
theorem x_tyL {p : Addr} {xs : List V} {R : Prop} (s : SqL K H p xs) (h : R) : tyV K "list" (.ref p) H ∧ R := ⟨Or.inl ⟨rfl, xs, s⟩, h⟩
theorem x_append {p : Addr} {xs : List V} {y : V} (s : H p = some (.lst xs)) (l : xs.length < sizeLine) (h : Q .non (upd H p (.lst (xs ++ [y])))) : rAppend (.ref p) [y] H Q := ⟨p, xs, y, rfl, rfl, s, l, h⟩
theorem x_extend {p q : Addr} {xs ys : List V} (s : H p = some (.lst xs)) (s2 : H q = some (.lst ys)) (l : xs.length + ys.length ≤ sizeLine) (h : Q .non (upd H p (.lst (xs ++ ys)))) : rExtend (.ref p) [.ref q] H Q := ⟨p, q, xs, ys, rfl, rfl, s, s2, l, h⟩
theorem x_fld {f : Str} (h : ta σ H fun x H1 => ∃ a C dx fs v, x = .ref a ∧ H1 a = some (.ins C dx fs) ∧ Cls K C ∧ NoAttr K C f ∧ fs.lookup f = some v ∧ Q v H1) : tFld K ta f σ H Q := h
theorem x_while {c : TT} {tb : TS} (W : Nat → L2.St → Hp → Prop) (m0 : Nat) (h0 : W m0 σ H) (hs : ∀ m σ H, W m σ H → c σ H fun b H1 => if b = true then ∃ N : L2.St → Hp → Prop, (∀ σ' H', N σ' H' → ∃ m', m' < m ∧ W m' σ' H') ∧ tb { D with nx := N, ct := N, bk := D.nx } σ H1 else D.nx σ H1) : tWhile c tb D σ H := ⟨W, ⟨m0, h0⟩, hs⟩
theorem x_turn {m : Nat} {W : Nat → L2.St → Hp → Prop} {tb : TS} (h : tb { D with nx := fun σ' H' => ∃ m', m' < m ∧ W m' σ' H', ct := fun σ' H' => ∃ m', m' < m ∧ W m' σ' H', bk := D.nx } σ H) : ∃ N : L2.St → Hp → Prop, (∀ σ' H', N σ' H' → ∃ m', m' < m ∧ W m' σ' H') ∧ tb { D with nx := N, ct := N, bk := D.nx } σ H := ⟨_, fun _ _ h => h, h⟩
theorem x_tYes {R : Bool → Hp → Prop} (h : R true H) : tYes σ H R := h
end

theorem x_cut {σ : L2.St} {H : Hp} {D : Ends} {t u : TS} (Mid : L2.St → Hp → Prop) (h1 : t { D with nx := Mid } σ H) (h2 : ∀ σ' H', Mid σ' H' → u D σ' H') : C8.tCut t u D σ H := ⟨Mid, h1, h2⟩
/-! ### heaps -/
theorem upd_old {H : Hp} {a p : Addr} {o u : HO} (hp : H p = none) (h : H a = some u) : upd H p o a = some u := by
  rw [upd_ne (ne_of_none h hp)]
  exact h
theorem upd_oth {H : Hp} {a p : Addr} {o u : HO} (n : a ≠ p) (h : H a = some u) : upd H p o a = some u := by
  rw [upd_ne n]
  exact h
theorem Same.get {H H' : Hp} {a : Addr} {u : HO} (s : Same H H') (h : H a = some u) : H' a = some u := s a u h
theorem Same.new {H : Hp} {p : Addr} {o : HO} (h : H p = none) : Same H (upd H p o) := fun a u e => upd_old h e
theorem Same.sql {K : PySem.W.Frag} {H H' : Hp} {a : Addr} {xs : List V} (e : Same H H') (h : SqL K H a xs) : SqL K H' a xs := e.seq h
/-- an object that was not there may change -/
theorem Same.mut {H H' : Hp} {p : Addr} {o : HO} (e : Same H H') (h : H p = none) : Same H (upd H' p o) := fun a u ha => by
  rw [upd_ne (ne_of_none ha h)]
  exact e a u ha
/-- all but b is as it was -/
def Kp (b : Addr) (H H' : Hp) : Prop := ∀ a o, a ≠ b → H a = some o → H' a = some o
theorem Kp.refl {b : Addr} {H : Hp} : Kp b H H := fun _ _ _ h => h
theorem Kp.of {b : Addr} {H H' : Hp} (s : Same H H') : Kp b H H' := fun a o _ h => s a o h
theorem Kp.trans {b : Addr} {H H1 H2 : Hp} (x : Kp b H H1) (y : Kp b H1 H2) : Kp b H H2 := fun a o n h => y a o n (x a o n h)
theorem Kp.get {b : Addr} {H H' : Hp} {a : Addr} {u : HO} (s : Kp b H H') (n : a ≠ b) (h : H a = some u) : H' a = some u := s a u n h
theorem Kp.free {b : Addr} {H H' : Hp} (s : Kp b H H') {a : Addr} (n : a ≠ b) (h : H' a = none) : H a = none := by
  cases e : H a with
  | none => rfl
  | some o => rw [s a o n e] at h; cases h
theorem Kp.sql {K : PySem.W.Frag} {b : Addr} {H H' : Hp} {a : Addr} {xs : List V} (e : Kp b H H') (n : a ≠ b) (h : SqL K H a xs) : SqL K H' a xs := by
  rcases h with (h | ⟨o, h⟩) | h
  · exact .inl (.inl (e _ _ n h))
  · exact .inl (.inr ⟨o, e _ _ n h⟩)
  · exact .inr h
/-! ### loops over what stands still -/
section
variable {σ : L2.St} {H : Hp} {Q : VK} {D : Ends} {te : TE} {tt : TT} {K : PySem.W.Frag} {g : TG} {tb : TS}
/-- [e for x in xs if t] that leaves all that was tracked as it was: Iv of the turn and what is made so far -/
theorem lcS_list {a : Addr} {xs : List V} {vs : List Nat} (s : SqL K H a xs) (hz : xs.length < sizeLine) (Iv : Nat → List V → Prop) (I0 : Iv 0 [])
    (turn : ∀ i x H' acc, xs[i]? = some x → Same H H' → Iv i acc → acc.length ≤ i → ∀ (R : VK) (S : Hp → Prop), (∀ y H4, Same H' H4 → Iv (i + 1) (acc ++ [y]) → R y H4) → (∀ H3, Same H' H3 → Iv (i + 1) acc → S H3) →
      g x (wipe σ vs) H' fun σ2 H2 => wipe σ2 vs = wipe σ vs ∧ tt σ2 H2 fun b H3 => if b = true then te σ2 H3 R else S H3)
    (done : ∀ p H' acc, H p = none → Same H H' → H' p = some (.lst acc) → Iv xs.length acc → Q (.ref p) H') :
    ∀ p, H p = none → ∃ W : Nat → Nat → Hp → Prop, (∃ m, W 0 m (upd H p (.lst []))) ∧ ∀ i m H, W i m H →
      ((Itl K a).stop i H ∧ Q (.ref p) H) ∨ ((Itl K a).go i H ∧ ∃ Nx : Hp → Prop, (∀ H', Nx H' → ∃ m', m' < m ∧ W (i + 1) m' H') ∧ ∀ x H', (Itl K a).yld i H x H' → g x (wipe σ vs) H' fun σ2 H2 => wipe σ2 vs = wipe σ vs ∧ tt σ2 H2 fun b H3 =>
        if b = true then te σ2 H3 fun y H4 => ∃ acc, H4 p = some (.lst acc) ∧ acc.length < sizeLine ∧ Nx (upd H4 p (.lst (acc ++ [y]))) else Nx H3) := by
  intro p hp
  refine lc_list (K := K) (a := a) (xs := xs) (fun i H' => ∃ acc, Same H H' ∧ H' p = some (.lst acc) ∧ Iv i acc ∧ acc.length ≤ i) ⟨[], Same.new hp, upd_same, I0, Nat.le_refl _⟩ (fun i H' _ ⟨acc, s', _⟩ => s'.seq s) ?_ ?_
  · rintro i x H' hi ⟨acc, s', hd, iv, hl⟩
    have hil : i < xs.length := (List.getElem?_eq_some_iff.mp hi).1
    refine turn i x H' acc hi s' iv hl _ _ (fun y H4 q iv' => ?_) fun H3 q iv' => ?_
    · exact ⟨acc, q _ _ hd, by omega, acc ++ [y], Same.mut (Same.trans s' q) hp, upd_same, iv', by rw [List.length_append, List.length_singleton]; omega⟩
    · exact ⟨acc, Same.trans s' q, q _ _ hd, iv', by omega⟩
  · rintro H' ⟨acc, s', hd, iv, _⟩
    exact done p H' acc hp s' hd iv
/-- the same over range(lo, lo + n) -/
theorem lcS_rng {lo : Int} {n : Nat} {vs : List Nat} (hz : n < sizeLine) (Iv : Nat → List V → Prop) (I0 : Iv 0 [])
    (turn : ∀ i H' acc, i < n → Same H H' → Iv i acc → acc.length ≤ i → ∀ (R : VK) (S : Hp → Prop), (∀ y H4, Same H' H4 → Iv (i + 1) (acc ++ [y]) → R y H4) → (∀ H3, Same H' H3 → Iv (i + 1) acc → S H3) →
      g (.int (lo + i)) (wipe σ vs) H' fun σ2 H2 => wipe σ2 vs = wipe σ vs ∧ tt σ2 H2 fun b H3 => if b = true then te σ2 H3 R else S H3)
    (done : ∀ p H' acc, H p = none → Same H H' → H' p = some (.lst acc) → Iv n acc → Q (.ref p) H') :
    ∀ p, H p = none → ∃ W : Nat → Nat → Hp → Prop, (∃ m, W 0 m (upd H p (.lst []))) ∧ ∀ i m H, W i m H →
      ((Itr lo n).stop i H ∧ Q (.ref p) H) ∨ ((Itr lo n).go i H ∧ ∃ Nx : Hp → Prop, (∀ H', Nx H' → ∃ m', m' < m ∧ W (i + 1) m' H') ∧ ∀ x H', (Itr lo n).yld i H x H' → g x (wipe σ vs) H' fun σ2 H2 => wipe σ2 vs = wipe σ vs ∧ tt σ2 H2 fun b H3 =>
        if b = true then te σ2 H3 fun y H4 => ∃ acc, H4 p = some (.lst acc) ∧ acc.length < sizeLine ∧ Nx (upd H4 p (.lst (acc ++ [y]))) else Nx H3) := by
  intro p hp
  refine lc_range (lo := lo) (n := n) (fun i H' => ∃ acc, Same H H' ∧ H' p = some (.lst acc) ∧ Iv i acc ∧ acc.length ≤ i) ⟨[], Same.new hp, upd_same, I0, Nat.le_refl _⟩ ?_ ?_
  · rintro i H' hi ⟨acc, s', hd, iv, hl⟩
    refine turn i H' acc hi s' iv hl _ _ (fun y H4 q iv' => ?_) fun H3 q iv' => ?_
    · exact ⟨acc, q _ _ hd, by omega, acc ++ [y], Same.mut (Same.trans s' q) hp, upd_same, iv', by rw [List.length_append, List.length_singleton]; omega⟩
    · exact ⟨acc, Same.trans s' q, q _ _ hd, iv', by omega⟩
  · rintro H' ⟨acc, s', hd, iv, _⟩
    exact done p H' acc hp s' hd iv
end
/-! ### a for's walk and a comprehension's, as relations of the source's value -/
def rForL (K : PySem.W.Frag) (g : TG) (tb : TS) (D : Ends) (σ : L2.St) (x : V) (H : Hp) : Prop := ∃ a, x = .ref a ∧ (∃ xs, SqL K H a xs) ∧ ∃ W : Nat → Nat → L2.St → Hp → Prop, (∃ k, W 0 k σ H) ∧ ∀ k l σ H, W k l σ H → ((Itl K a).stop k H ∧ D.nx σ H) ∨ ((Itl K a).go k H ∧ ∃ N : L2.St → Hp → Prop, (∀ σ' H', N σ' H' → ∃ m', m' < l ∧ W (k + 1) m' σ' H') ∧ ∀ x H', (Itl K a).yld k H x H' → g x σ H' fun σ2 H2 => tb { D with nx := N, ct := N, bk := D.nx } σ2 H2)
def rForT (K : PySem.W.Frag) (g : TG) (tb : TS) (D : Ends) (σ : L2.St) (x : V) (H : Hp) : Prop := ∃ a, x = .ref a ∧ (∃ xs, SqT K H a xs) ∧ ∃ W : Nat → Nat → L2.St → Hp → Prop, (∃ k, W 0 k σ H) ∧ ∀ k l σ H, W k l σ H → ((Itt K a).stop k H ∧ D.nx σ H) ∨ ((Itt K a).go k H ∧ ∃ N : L2.St → Hp → Prop, (∀ σ' H', N σ' H' → ∃ m', m' < l ∧ W (k + 1) m' σ' H') ∧ ∀ x H', (Itt K a).yld k H x H' → g x σ H' fun σ2 H2 => tb { D with nx := N, ct := N, bk := D.nx } σ2 H2)
def rForR1 (g : TG) (tb : TS) (D : Ends) (σ : L2.St) (us : List V) (H : Hp) : Prop := ∃ j : Int, us = [.int j] ∧ -(2 ^ 62) ≤ j ∧ j < 2 ^ 62 ∧ ∃ W : Nat → Nat → L2.St → Hp → Prop, (∃ k, W 0 k σ H) ∧ ∀ k l σ H, W k l σ H → ((Itr 0 j.toNat).stop k H ∧ D.nx σ H) ∨ ((Itr 0 j.toNat).go k H ∧ ∃ N : L2.St → Hp → Prop, (∀ σ' H', N σ' H' → ∃ m', m' < l ∧ W (k + 1) m' σ' H') ∧ ∀ x H', (Itr 0 j.toNat).yld k H x H' → g x σ H' fun σ2 H2 => tb { D with nx := N, ct := N, bk := D.nx } σ2 H2)
def rForR2 (g : TG) (tb : TS) (D : Ends) (σ : L2.St) (us : List V) (H : Hp) : Prop := ∃ i j : Int, us = [.int i, .int j] ∧ (-(2 ^ 62) ≤ i ∧ i < 2 ^ 62 ∧ -(2 ^ 62) ≤ j ∧ j < 2 ^ 62) ∧ ∃ W : Nat → Nat → L2.St → Hp → Prop, (∃ k, W 0 k σ H) ∧ ∀ k l σ H, W k l σ H → ((Itr i (j - i).toNat).stop k H ∧ D.nx σ H) ∨ ((Itr i (j - i).toNat).go k H ∧ ∃ N : L2.St → Hp → Prop, (∀ σ' H', N σ' H' → ∃ m', m' < l ∧ W (k + 1) m' σ' H') ∧ ∀ x H', (Itr i (j - i).toNat).yld k H x H' → g x σ H' fun σ2 H2 => tb { D with nx := N, ct := N, bk := D.nx } σ2 H2)
def rLcL (K : PySem.W.Frag) (g : TG) (tt : TT) (te : TE) (vs : List Nat) (σ : L2.St) (x : V) (H : Hp) (Q : VK) : Prop := ∃ a, x = .ref a ∧ (∃ xs, SqL K H a xs) ∧ ∀ p, H p = none → ∃ W : Nat → Nat → Hp → Prop, (∃ m, W 0 m (upd H p (.lst []))) ∧ ∀ k l H, W k l H → ((Itl K a).stop k H ∧ Q (.ref p) H) ∨ ((Itl K a).go k H ∧ ∃ Nx : Hp → Prop, (∀ H', Nx H' → ∃ m', m' < l ∧ W (k + 1) m' H') ∧ ∀ x H', (Itl K a).yld k H x H' → g x (wipe σ vs) H' fun σ2 H2 => wipe σ2 vs = wipe σ vs ∧ tt σ2 H2 fun b H3 => if b = true then te σ2 H3 fun y H4 => ∃ acc, H4 p = some (.lst acc) ∧ acc.length < sizeLine ∧ Nx (upd H4 p (.lst (acc ++ [y]))) else Nx H3)
def rLcT (K : PySem.W.Frag) (g : TG) (tt : TT) (te : TE) (vs : List Nat) (σ : L2.St) (x : V) (H : Hp) (Q : VK) : Prop := ∃ a, x = .ref a ∧ (∃ xs, SqT K H a xs) ∧ ∀ p, H p = none → ∃ W : Nat → Nat → Hp → Prop, (∃ m, W 0 m (upd H p (.lst []))) ∧ ∀ k l H, W k l H → ((Itt K a).stop k H ∧ Q (.ref p) H) ∨ ((Itt K a).go k H ∧ ∃ Nx : Hp → Prop, (∀ H', Nx H' → ∃ m', m' < l ∧ W (k + 1) m' H') ∧ ∀ x H', (Itt K a).yld k H x H' → g x (wipe σ vs) H' fun σ2 H2 => wipe σ2 vs = wipe σ vs ∧ tt σ2 H2 fun b H3 => if b = true then te σ2 H3 fun y H4 => ∃ acc, H4 p = some (.lst acc) ∧ acc.length < sizeLine ∧ Nx (upd H4 p (.lst (acc ++ [y]))) else Nx H3)
def rLcR1 (g : TG) (tt : TT) (te : TE) (vs : List Nat) (σ : L2.St) (us : List V) (H : Hp) (Q : VK) : Prop := ∃ j : Int, us = [.int j] ∧ -(2 ^ 62) ≤ j ∧ j < 2 ^ 62 ∧ ∀ p, H p = none → ∃ W : Nat → Nat → Hp → Prop, (∃ m, W 0 m (upd H p (.lst []))) ∧ ∀ k l H, W k l H → ((Itr 0 j.toNat).stop k H ∧ Q (.ref p) H) ∨ ((Itr 0 j.toNat).go k H ∧ ∃ Nx : Hp → Prop, (∀ H', Nx H' → ∃ m', m' < l ∧ W (k + 1) m' H') ∧ ∀ x H', (Itr 0 j.toNat).yld k H x H' → g x (wipe σ vs) H' fun σ2 H2 => wipe σ2 vs = wipe σ vs ∧ tt σ2 H2 fun b H3 => if b = true then te σ2 H3 fun y H4 => ∃ acc, H4 p = some (.lst acc) ∧ acc.length < sizeLine ∧ Nx (upd H4 p (.lst (acc ++ [y]))) else Nx H3)
def rLcR2 (g : TG) (tt : TT) (te : TE) (vs : List Nat) (σ : L2.St) (us : List V) (H : Hp) (Q : VK) : Prop := ∃ i j : Int, us = [.int i, .int j] ∧ (-(2 ^ 62) ≤ i ∧ i < 2 ^ 62 ∧ -(2 ^ 62) ≤ j ∧ j < 2 ^ 62) ∧ ∀ p, H p = none → ∃ W : Nat → Nat → Hp → Prop, (∃ m, W 0 m (upd H p (.lst []))) ∧ ∀ k l H, W k l H → ((Itr i (j - i).toNat).stop k H ∧ Q (.ref p) H) ∨ ((Itr i (j - i).toNat).go k H ∧ ∃ Nx : Hp → Prop, (∀ H', Nx H' → ∃ m', m' < l ∧ W (k + 1) m' H') ∧ ∀ x H', (Itr i (j - i).toNat).yld k H x H' → g x (wipe σ vs) H' fun σ2 H2 => wipe σ2 vs = wipe σ vs ∧ tt σ2 H2 fun b H3 => if b = true then te σ2 H3 fun y H4 => ∃ acc, H4 p = some (.lst acc) ∧ acc.length < sizeLine ∧ Nx (upd H4 p (.lst (acc ++ [y]))) else Nx H3)
section
variable {σ : L2.St} {H : Hp} {Q : VK} {D : Ends} {tx te : TE} {ta : TA} {tt : TT} {K : PySem.W.Frag} {g : TG} {tb : TS} {vs : List Nat}
theorem x_forL (h : tx σ H fun x H1 => rForL K g tb D σ x H1) : tFor (iList K tx) g tb D σ H := h
theorem x_forT (h : tx σ H fun x H1 => rForT K g tb D σ x H1) : tFor (iTup K tx) g tb D σ H := h
theorem x_forR1 (h : ta σ H fun us H1 => rForR1 g tb D σ us H1) : tFor (iRng1 ta) g tb D σ H := h
theorem x_forR2 (h : ta σ H fun us H1 => rForR2 g tb D σ us H1) : tFor (iRng2 ta) g tb D σ H := h
theorem x_lcL (h : tx σ H fun x H1 => rLcL K g tt te vs σ x H1 Q) : tLc (iList K tx) g tt te vs σ H Q := h
theorem x_lcT (h : tx σ H fun x H1 => rLcT K g tt te vs σ x H1 Q) : tLc (iTup K tx) g tt te vs σ H Q := h
theorem x_lcR1 (h : ta σ H fun us H1 => rLcR1 g tt te vs σ us H1 Q) : tLc (iRng1 ta) g tt te vs σ H Q := h
theorem x_lcR2 (h : ta σ H fun us H1 => rLcR2 g tt te vs σ us H1 Q) : tLc (iRng2 ta) g tt te vs σ H Q := h
end
section
variable {σ : L2.St} {H : Hp} {Q : VK} {D : Ends} {te : TE} {tt : TT} {K : PySem.W.Frag} {g : TG} {tb : TS} {vs : List Nat}
theorem w_forL {a : Addr} {xs : List V} (s : SqL K H a xs) (Pv : Nat → L2.St → Hp → Prop) (h0 : Pv 0 σ H) (hl : ∀ i σ H, i ≤ xs.length → Pv i σ H → SqL K H a xs)
    (hs : ∀ i x σ H, xs[i]? = some x → Pv i σ H → g x σ H fun σ2 H2 => tb { D with nx := Pv (i + 1), ct := Pv (i + 1), bk := D.nx } σ2 H2) (hd : ∀ σ H, Pv xs.length σ H → D.nx σ H) : rForL K g tb D σ (.ref a) H := ⟨a, rfl, ⟨xs, s⟩, for_list Pv h0 hl hs hd⟩
theorem w_forT {a : Addr} {xs : List V} (s : SqT K H a xs) (Pv : Nat → L2.St → Hp → Prop) (h0 : Pv 0 σ H) (hl : ∀ i σ H, i ≤ xs.length → Pv i σ H → SqT K H a xs)
    (hs : ∀ i x σ H, xs[i]? = some x → Pv i σ H → g x σ H fun σ2 H2 => tb { D with nx := Pv (i + 1), ct := Pv (i + 1), bk := D.nx } σ2 H2) (hd : ∀ σ H, Pv xs.length σ H → D.nx σ H) : rForT K g tb D σ (.ref a) H := ⟨a, rfl, ⟨xs, s⟩, for_tup Pv h0 hl hs hd⟩
theorem w_forR1 {n : Int} (h1 : -(2 ^ 62) ≤ n) (h2 : n < 2 ^ 62) (Pv : Nat → L2.St → Hp → Prop) (h0 : Pv 0 σ H)
    (hs : ∀ i σ H, i < n.toNat → Pv i σ H → g (.int (0 + i)) σ H fun σ2 H2 => tb { D with nx := Pv (i + 1), ct := Pv (i + 1), bk := D.nx } σ2 H2) (hd : ∀ σ H, Pv n.toNat σ H → D.nx σ H) : rForR1 g tb D σ [.int n] H := ⟨n, rfl, h1, h2, for_range Pv h0 hs hd⟩
theorem w_forR2 {m n : Int} (hb : -(2 ^ 62) ≤ m ∧ m < 2 ^ 62 ∧ -(2 ^ 62) ≤ n ∧ n < 2 ^ 62) (Pv : Nat → L2.St → Hp → Prop) (h0 : Pv 0 σ H)
    (hs : ∀ i σ H, i < (n - m).toNat → Pv i σ H → g (.int (m + i)) σ H fun σ2 H2 => tb { D with nx := Pv (i + 1), ct := Pv (i + 1), bk := D.nx } σ2 H2) (hd : ∀ σ H, Pv (n - m).toNat σ H → D.nx σ H) : rForR2 g tb D σ [.int m, .int n] H := ⟨m, n, rfl, hb, for_range Pv h0 hs hd⟩
/-- [e for x in xs if t] -/
theorem w_lcL {a : Addr} {xs : List V} (s : SqL K H a xs) (hz : xs.length < sizeLine) (Iv : Nat → List V → Prop) (I0 : Iv 0 [])
    (turn : ∀ i x H' acc, xs[i]? = some x → Same H H' → Iv i acc → acc.length ≤ i → ∀ (R : VK) (S : Hp → Prop), (∀ y H4, Same H' H4 → Iv (i + 1) (acc ++ [y]) → R y H4) → (∀ H3, Same H' H3 → Iv (i + 1) acc → S H3) →
      g x (wipe σ vs) H' fun σ2 H2 => wipe σ2 vs = wipe σ vs ∧ tt σ2 H2 fun b H3 => if b = true then te σ2 H3 R else S H3)
    (done : ∀ p H' acc, H p = none → Same H H' → H' p = some (.lst acc) → Iv xs.length acc → Q (.ref p) H') : rLcL K g tt te vs σ (.ref a) H Q := ⟨a, rfl, ⟨xs, s⟩, lcS_list s hz Iv I0 turn done⟩
theorem w_lcR1 {n : Int} (h1 : -(2 ^ 62) ≤ n) (h2 : n < 2 ^ 62) (hz : n.toNat < sizeLine) (Iv : Nat → List V → Prop) (I0 : Iv 0 [])
    (turn : ∀ i H' acc, i < n.toNat → Same H H' → Iv i acc → acc.length ≤ i → ∀ (R : VK) (S : Hp → Prop), (∀ y H4, Same H' H4 → Iv (i + 1) (acc ++ [y]) → R y H4) → (∀ H3, Same H' H3 → Iv (i + 1) acc → S H3) →
      g (.int (0 + i)) (wipe σ vs) H' fun σ2 H2 => wipe σ2 vs = wipe σ vs ∧ tt σ2 H2 fun b H3 => if b = true then te σ2 H3 R else S H3)
    (done : ∀ p H' acc, H p = none → Same H H' → H' p = some (.lst acc) → Iv n.toNat acc → Q (.ref p) H') : rLcR1 g tt te vs σ [.int n] H Q := ⟨n, rfl, h1, h2, lcS_rng hz Iv I0 turn done⟩
theorem w_lcR2 {m n : Int} (hb : -(2 ^ 62) ≤ m ∧ m < 2 ^ 62 ∧ -(2 ^ 62) ≤ n ∧ n < 2 ^ 62) (hz : (n - m).toNat < sizeLine) (Iv : Nat → List V → Prop) (I0 : Iv 0 [])
    (turn : ∀ i H' acc, i < (n - m).toNat → Same H H' → Iv i acc → acc.length ≤ i → ∀ (R : VK) (S : Hp → Prop), (∀ y H4, Same H' H4 → Iv (i + 1) (acc ++ [y]) → R y H4) → (∀ H3, Same H' H3 → Iv (i + 1) acc → S H3) →
      g (.int (m + i)) (wipe σ vs) H' fun σ2 H2 => wipe σ2 vs = wipe σ vs ∧ tt σ2 H2 fun b H3 => if b = true then te σ2 H3 R else S H3)
    (done : ∀ p H' acc, H p = none → Same H H' → H' p = some (.lst acc) → Iv (n - m).toNat acc → Q (.ref p) H') : rLcR2 g tt te vs σ [.int m, .int n] H Q := ⟨m, n, rfl, hb, lcS_rng hz Iv I0 turn done⟩
end
/-- an item of a list of ints is an int -/
theorem int_at {ns : List Int} {i : Nat} {y : V} (h : (ns.map V.int)[i]? = some y) : ∃ z, y = V.int z ∧ ns[i]? = some z := by
  rw [List.getElem?_map] at h
  cases e : ns[i]? with
  | none => rw [e] at h; cases h
  | some z => rw [e] at h; exact ⟨z, (Option.some.inj h).symm, rfl⟩
theorem nat_at {ns : List Nat} {i : Nat} {y : V} (h : (ns.map fun z => V.int (z : Nat))[i]? = some y) : ∃ z : Nat, y = V.int (z : Nat) ∧ ns[i]? = some z := by
  rw [List.getElem?_map] at h
  cases e : ns[i]? with
  | none => rw [e] at h; cases h
  | some z => rw [e] at h; exact ⟨z, (Option.some.inj h).symm, rfl⟩
/-! ### built-ins in one form -/
section
variable {X : Cx}
def rInt1 : List V → Hp → VK → Prop := fun xs H Q => ∃ i, xs = [.int i] ∧ Q (.int i) H
theorem call_intI : CallR X (.type "int") rInt1 := fun pins s σ H xs us Q I r h => call_int1 pins s σ H xs us Q I r (.inl h)
def rIntB : List V → Hp → VK → Prop := fun xs H Q => ∃ k : Bool, xs = [.bl k] ∧ Q (.int (if k then 1 else 0)) H
theorem call_intB : CallR X (.type "int") rIntB := fun pins s σ H xs us Q I r h => call_int1 pins s σ H xs us Q I r (.inr h)
def rAbs : List V → Hp → VK → Prop := fun xs H Q => ∃ i, xs = [.int i] ∧ Q (.int (if i < 0 then -i else i)) H
theorem callAbs : CallR X (.builtin "abs") rAbs := call_abs
def rLenS (K : PySem.W.Frag) : List V → Hp → VK → Prop := fun xs H Q => ∃ p ys, xs = [.ref p] ∧ (SqL K H p ys ∨ SqT K H p ys) ∧ Q (.int (ys.length : Nat)) H
theorem callLenS : CallR X (.builtin "len") (rLenS X.K) := call_len_seq
def rListS (K : PySem.W.Frag) : List V → Hp → VK → Prop := fun xs H Q => ∃ p ys, xs = [.ref p] ∧ (SqL K H p ys ∨ SqT K H p ys) ∧ ∀ l, H l = none → Q (.ref l) (upd H l (.lst ys))
theorem callListS : CallR X (.type "list") (rListS X.K) := call_list_of
theorem pip_mul : PIp X .Mult (rI CMul fun i j => .int (i * j)) := iop_mul
theorem pip_fdiv : PIp X .FloorDiv (rI CDiv fun i j => .int (i / j)) := iop_fdiv
end
section
variable {H : Hp} {Q : VK} {i j : Int} {K : PySem.W.Frag}
theorem x_int1 (h : Q (.int i) H) : rInt1 [.int i] H Q := ⟨i, rfl, h⟩
theorem x_intB {k : Bool} (h : Q (.int (if k then 1 else 0)) H) : rIntB [.bl k] H Q := ⟨k, rfl, h⟩
theorem x_abs (h : Q (.int (if i < 0 then -i else i)) H) : rAbs [.int i] H Q := ⟨i, rfl, h⟩
theorem x_lenL {p : Addr} {xs : List V} (s : SqL K H p xs) (h : Q (.int (xs.length : Nat)) H) : rLenS K [.ref p] H Q := ⟨p, xs, rfl, .inl s, h⟩
theorem x_lenT {p : Addr} {xs : List V} (s : SqT K H p xs) (h : Q (.int (xs.length : Nat)) H) : rLenS K [.ref p] H Q := ⟨p, xs, rfl, .inr s, h⟩
theorem x_listL {p : Addr} {xs : List V} (s : SqL K H p xs) (h : ∀ l, H l = none → Q (.ref l) (upd H l (.lst xs))) : rListS K [.ref p] H Q := ⟨p, xs, rfl, .inl s, h⟩
theorem x_new {o : HO} {n : Nat} {P : Addr → HO → Prop} (l : n ≤ sizeLine) (h : ∀ p, H p = none → Q (.ref p) (upd H p o)) : n ≤ sizeLine ∧ ∀ p, H p = none → Q (.ref p) (upd H p o) := ⟨l, h⟩
end
section
theorem x_iteD {p A B : Prop} [Decidable p] (h1 : p → A) (h2 : ¬ p → B) : if decide p = true then A else B := by
  by_cases h : p
  · rw [if_pos (decide_eq_true h)]; exact h1 h
  · rw [if_neg (by simp [h])]; exact h2 h
theorem x_iteN {p A B : Prop} [Decidable p] (h1 : ¬ p → A) (h2 : p → B) : if (!decide p) = true then A else B := by
  by_cases h : p
  · rw [decide_eq_true h]; exact (if_neg (by decide)).mpr (h2 h)
  · rw [decide_eq_false h]; exact (if_pos (by decide)).mpr (h1 h)
theorem x_iteT {A B : Prop} (h : A) : if true = true then A else B := iteT h
theorem x_iteF {A B : Prop} (h : B) : if false = true then A else B := iteF h
theorem x_iteNT {A B : Prop} (h : B) : if (!true) = true then A else B := iteF h
theorem x_iteNF {A B : Prop} (h : A) : if (!false) = true then A else B := iteT h
theorem x_iteB {b : Bool} {A B : Prop} (h1 : b = true → A) (h2 : b = false → B) : if b = true then A else B := by
  cases b
  · exact iteF (h2 rfl)
  · exact iteT (h1 rfl)
theorem x_iteNB {b : Bool} {A B : Prop} (h1 : b = false → A) (h2 : b = true → B) : if (!b) = true then A else B := by
  cases b
  · exact iteT (h1 rfl)
  · exact iteF (h2 rfl)
theorem x_iteDT {p A B : Prop} [Decidable p] (hp : p) (h : A) : if decide p = true then A else B := by
  rw [if_pos (decide_eq_true hp)]; exact h
theorem x_iteDF {p A B : Prop} [Decidable p] (hp : ¬ p) (h : B) : if decide p = true then A else B := by
  rw [if_neg (by simp [hp])]; exact h
theorem x_iteNDT {p A B : Prop} [Decidable p] (hp : ¬ p) (h : A) : if (!decide p) = true then A else B := by
  rw [decide_eq_false hp]; exact iteT h
theorem x_iteNDF {p A B : Prop} [Decidable p] (hp : p) (h : B) : if (!decide p) = true then A else B := by
  rw [decide_eq_true hp]; exact iteF h
theorem atI_of {α : Type} {xs : List α} {i : Int} {v : α} {k : Nat} (h0 : i = (k : Int)) (h : xs[k]? = some v) : atI xs i = some v := by
  subst h0
  exact atI_nat h
theorem ixN_of {n k : Nat} {i : Int} (h0 : i = (k : Int)) (h : k < n) : ixN n i = some k := by
  subst h0
  unfold ixN
  rw [if_pos (by omega), if_pos (by omega)]
  rfl
end
/-! ### calls with keywords -/
/-- a def that is called with n values and keywords ks; gV puts them in the parameters' order -/
structure CalN (P : Program) (w : World) (K : PySem.W.Frag) (mg : Str → Option Value) (base : Heap) (k : Nat) (x : Str) (sp : Sp) (n : Nat) (ks : List Str) (gV : List V → List V → List V) : Prop where
  ex : ∃ (f : Addr) (fd : FuncData) (ps : List Str) (g : List Value → List Value → List Value), FnOk P w K mg base CX0 k f fd ps sp ∧ mg x = some (.ref f) ∧ PySem.W.keepIn K (.ref f) = true ∧ KBn K fd ps n ks g gV
section
variable {X : Cx} {k j n : Nat} {x : Str} {p pos : Pos} {e : Expr} {es : List Expr} {kws : List Keyword} {t tk : TA} {sp : Sp} {ks : List Str} {gV : List V → List V → List V}
theorem pe_cN0 (c : CalN X.prog X.w X.K X.mg X.base k x sp 0 ks gV) (hr : Room j X.A) (hk : k ≤ j) (hg : Gl X x) (hkw : PK X kws tk)
    (hall : (backToKw pos (keywordEach kws X.env)).all (·.1.isSome) = true := by rfl) (hks : (backToKw pos (keywordEach kws X.env)).filterMap (·.1) = ks := by rfl) (hdb : (x == ("__debug__" : Str)) = false := by decide)
    (hpl : ((backTo pos (starEach [] X.env)).any (·.1) || (backToKw pos (keywordEach kws X.env)).any (·.1.isNone)) = false := by rfl) :
    PE X (.Call (.Name x p) [] kws pos) (tCallN 0 ks.length sp gV L2.E0 tNil tk) := by
  obtain ⟨f, fd, ps, g, F, hm, kp, b⟩ := c.ex
  refine ⟨fun pins s σ H Q I h => ?_⟩
  refine wpAny_Call_Name_kw (ld_glob I hg hm ?_ hdb)
  refine PySem.W.callWith_KW0 (h₀ := X.base) I.ok.mod.kin kp hall ?_ hpl
  refine thn (hkw.run pos pins s σ H _ I h) fun ws s2 ⟨zs, H2, I2, rz, l1, l2, q2⟩ => ⟨I2.kIn, ?_⟩
  rw [hks]
  exact run_fnN (us := []) (vs := []) F (hr.mono hk) b pass0 I2 .nil rz rfl l2 q2
theorem pe_cN (c : CalN X.prog X.w X.K X.mg X.base k x sp n ks gV) (hr : Room j X.A) (hk : k ≤ j) (hg : Gl X x) (ha : PA X (e :: es) t) (hkw : PK X kws tk)
    (hall : (backToKw pos (keywordEach kws X.env)).all (·.1.isSome) = true := by rfl) (hks : (backToKw pos (keywordEach kws X.env)).filterMap (·.1) = ks := by rfl) (hdb : (x == ("__debug__" : Str)) = false := by decide)
    (he : starEach (e :: es) X.env = (false, eval e X.env) :: starEach es X.env := by rfl) (hpl : ((backTo pos (starEach (e :: es) X.env)).any (·.1) || (backToKw pos (keywordEach kws X.env)).any (·.1.isNone)) = false := by rfl) :
    PE X (.Call (.Name x p) (e :: es) kws pos) (tCallN n ks.length sp gV L2.E0 t tk) := by
  obtain ⟨f, fd, ps, g, F, hm, kp, b⟩ := c.ex
  exact pe_callN F (hr.mono hk) hg hm kp b pass0 ha hkw hall hks hdb he hpl
end
theorem x_callN {σ : L2.St} {H : Hp} {Q : VK} {n m : Nat} {sp : Sp} {g : List V → List V → List V} {E : XK} {tr tk : TA} (h : tr σ H fun vs H1 => tk σ H1 fun zs H2 => vs.length = n ∧ zs.length = m ∧ sp (g vs zs) H2 Q E) : tCallN n m sp g E tr tk σ H Q := h
/-- isinstance(x, a built-in class): by the type's name -/
theorem x_isTy {K : PySem.W.Frag} {H : Hp} {Q : VK} {x : V} {m n : String} {b : Bool} (t : TyOf K H x (.type m)) (e : PySem.W.kitOne K (.type m) (.type n) = some b) (h : Q (.bl b) H) : rIsi K [x, .ty n] H Q := ⟨_, _, _, _, b, rfl, .ty n, .base t, e, h⟩
end Cb
/-! ### the executor: one step by the head of the goal; hl: an object at an address; sd: a side goal -/
local macro_rules | `(tactic| walk_at "hl") => `(tactic| ((repeat' (first
  | assumption
  | exact L2.upd_same
  | (refine' Cb.upd_old (by assumption) ?_)
  | (refine' Cb.Same.get (by assumption) ?_)
  | (refine' Cb.upd_oth (by first | assumption | exact Ne.symm (by assumption)) ?_)
  | (refine' Cb.Kp.get (by assumption) (by first | assumption | exact Ne.symm (by assumption)) ?_)
  | (refine' L2.SqL.of ?_)
  | (refine' Cb.Same.sql (by assumption) ?_)
  | (refine' Cb.Kp.sql (by assumption) (by first | assumption | exact Ne.symm (by assumption)) ?_)))))
local macro_rules | `(tactic| walk_at "sd") => `(tactic| first
  | assumption
  | rfl
  | omega
  | decide
  | exact ⟨by omega, by omega⟩
  | exact Or.inl ⟨by omega, by omega⟩
  | exact Or.inr ⟨by omega, by omega⟩
  | exact ⟨by omega, by omega, by omega⟩)
local macro_rules | `(tactic| walk_at "go") => `(tactic| repeat (first
  | with_reducible refine Cb.x_seq ?_
  | ((with_reducible apply Cb.x_var); (· exact rfl))
  | with_reducible refine Cb.x_c ?_
  | with_reducible refine Cb.x_op ?_
  | with_reducible refine Cb.x_rI0 ?_
  | ((with_reducible apply Cb.x_rI); (· walk_at "sd"))
  | with_reducible refine Cb.x_asg ?_
  | with_reducible refine Cb.x_gname ?_
  | with_reducible refine Cb.x_eqI ?_
  | with_reducible refine Cb.x_neI ?_
  | with_reducible refine Cb.x_test ?_
  | with_reducible refine Cb.x_tB ?_
  | with_reducible refine Cb.x_bl ?_
  | with_reducible refine Cb.x_ifs ?_
  | with_reducible refine Cb.x_cons ?_
  | with_reducible refine Cb.x_nil ?_
  | with_reducible refine Cb.x_call ?_
  | with_reducible refine Cb.x_callN ?_
  | with_reducible refine Cb.x_cb ?_
  | with_reducible refine Cb.x_int1 ?_
  | with_reducible refine Cb.x_int ?_
  | with_reducible refine Cb.x_ret ?_
  | with_reducible refine Cb.x_retN ?_
  | with_reducible refine Cb.x_drop ?_
  | with_reducible refine Cb.x_next ?_
  | with_reducible refine Cb.x_brk ?_
  | with_reducible refine Cb.x_cont ?_
  | ((with_reducible apply Cb.x_aug); (· exact rfl))
  | with_reducible refine Cb.x_ipI ?_
  | with_reducible refine Cb.x_rU ?_
  | with_reducible refine Cb.x_un ?_
  | with_reducible refine Cb.x_if ?_
  | with_reducible refine Cb.x_and ?_
  | with_reducible refine Cb.x_or ?_
  | with_reducible refine Cb.x_not ?_
  | with_reducible refine Cb.x_andV ?_
  | with_reducible refine Cb.x_orV ?_
  | with_reducible refine Cb.x_notV ?_
  | with_reducible refine Cb.x_chain ?_
  | with_reducible refine Cb.x_par ?_
  | with_reducible refine Cb.x_par2 ?_
  | with_reducible refine Cb.x_lst ?_
  | with_reducible refine Cb.x_tup ?_
  | with_reducible refine Cb.x_sub ?_
  | with_reducible refine Cb.x_sl ?_
  | with_reducible refine Cb.x_nopart ?_
  | with_reducible refine Cb.x_part ?_
  | with_reducible refine Cb.x_bm ?_
  | with_reducible refine Cb.x_bm0 ?_
  | with_reducible refine Cb.x_iteT ?_
  | with_reducible refine Cb.x_iteF ?_
  | with_reducible refine Cb.x_iteNT ?_
  | with_reducible refine Cb.x_iteNF ?_
  | with_reducible refine Cb.x_tYes ?_
  | with_reducible refine Cb.x_forL ?_
  | with_reducible refine Cb.x_forT ?_
  | with_reducible refine Cb.x_forR1 ?_
  | with_reducible refine Cb.x_forR2 ?_
  | with_reducible refine Cb.x_lcL ?_
  | with_reducible refine Cb.x_lcT ?_
  | with_reducible refine Cb.x_lcR1 ?_
  | with_reducible refine Cb.x_lcR2 ?_
  | with_reducible refine Cb.x_abs ?_
  | ((with_reducible apply Cb.x_ixL); (· walk_at "hl"); (· first | exact rfl | assumption))
  | ((with_reducible apply Cb.x_ixT); (· walk_at "hl"); (· first | exact rfl | assumption))
  | ((with_reducible apply Cb.x_setL); (· walk_at "hl"); (· first | exact rfl | assumption))
  | ((with_reducible apply Cb.x_lenL); (· walk_at "hl"))
  | ((with_reducible apply Cb.x_tyL); (· walk_at "hl"))))
namespace Cb
open PySem PySem.Spec PyProof.Rows L2
/-! ### the law's source of draws (five places) -/
/-- a bag stands at b, its cells at l -/
structure BagAt (H : Hp) (b l : Addr) : Prop where
  ex : ∃ (ns : List Int) (i : Nat) (g x c : Int), H b = some (.lst [.ref l, .int i, .int g, .int x, .int c]) ∧ H l = some (.lst (ns.map V.int)) ∧ ns.length ≤ 63 ∧ 0 ≤ g ∧ 0 ≤ x ∧ x < 2147483549
theorem BagAt.ne {H : Hp} {b l : Addr} (B : BagAt H b l) : l ≠ b := by
  obtain ⟨ns, i, g, x, c, h1, h2, _⟩ := B.ex
  intro e
  rw [e, h1] at h2
  cases ns <;> simp at h2
theorem BagAt.same {H H' : Hp} {b l : Addr} (B : BagAt H b l) (s : Same H H') : BagAt H' b l := by
  obtain ⟨ns, i, g, x, c, h1, h2, h3⟩ := B.ex
  exact ⟨ns, i, g, x, c, s _ _ h1, s _ _ h2, h3⟩
theorem BagAt.upd {H : Hp} {b l p : Addr} {o : HO} (B : BagAt H b l) (n1 : p ≠ b) (n2 : p ≠ l) : BagAt (upd H p o) b l := by
  obtain ⟨ns, i, g, x, c, h1, h2, h3⟩ := B.ex
  exact ⟨ns, i, g, x, c, by rw [upd_ne n1.symm]; exact h1, by rw [upd_ne n2.symm]; exact h2, h3⟩
theorem BagAt.b_some {H : Hp} {b l : Addr} (B : BagAt H b l) : H b ≠ none := by
  obtain ⟨ns, i, g, x, c, h1, _⟩ := B.ex
  rw [h1]
  intro z
  cases z
theorem BagAt.l_some {H : Hp} {b l : Addr} (B : BagAt H b l) : H l ≠ none := by
  obtain ⟨ns, i, g, x, c, _, h1, _⟩ := B.ex
  rw [h1]
  intro z
  cases z
theorem BagAt.new {H : Hp} {b l p : Addr} {o : HO} (B : BagAt H b l) (hp : H p = none) : BagAt (L2.upd H p o) b l := B.same (Same.new hp)
theorem Kp.upd {b : Addr} {H H' : Hp} {o : HO} (k : Kp b H H') : Kp b H (upd H' b o) := fun a u n e => by
  rw [upd_ne n]
  exact k a u n e
end Cb
namespace Cb
open PySem PySem.Spec PyProof.Rows L2
def top (i : Nat) : Stmt := PySem.Challenge.pw_combed_k52_coprime_lists.main.body.getD i (.Pass ⟨0, 0, 0, 0⟩)
abbrev FnP (K : PySem.W.Frag) (x : Str) (st : Stmt) (f : Addr) (fd : FuncData) : Prop := FunD K x x (defArgs st) (defBody st) (defScope st) [] [] f fd
/-- built-ins that the text does not shadow -/
structure Bi (mg : Str → Option Value) : Prop where
  len : mg "len" = none
  int : mg "int" = none
  list : mg "list" = none
  range : mg "range" = none
  abs : mg "abs" = none
  isinstance : mg "isinstance" = none
  bool : mg "bool" = none
theorem pw_le {n e : Nat} (h1 : n ≤ 1000) (h2 : e ≤ 6) : n ^ e ≤ 1000000000000000000 :=
  Nat.le_trans (Nat.pow_le_pow_left h1 e) (Nat.le_trans (Nat.pow_le_pow_right (by decide) h2) (by decide))
theorem pw_half {t sq r : Nat} (h : r % 2 = 1) : t * sq * (sq * sq) ^ (r / 2) = t * sq ^ r := by
  have e : r = 2 * (r / 2) + 1 := by omega
  have e2 : sq ^ r = (sq * sq) ^ (r / 2) * sq := by
    conv => lhs; rw [e, Nat.pow_succ, Nat.pow_mul, Nat.pow_two]
  rw [e2, Nat.mul_assoc, Nat.mul_comm sq]
theorem pw_even {sq r : Nat} (h : ¬ r % 2 = 1) : (sq * sq) ^ (r / 2) = sq ^ r := by
  have e : r = 2 * (r / 2) := by omega
  conv => rhs; rw [e, Nat.pow_mul, Nat.pow_two]
theorem pw_b1 {t sq r k : Nat} (h : t * sq ^ r = k) (hs : 1 ≤ sq) : t ≤ k := by
  rw [← h]
  exact Nat.le_mul_of_pos_right t (Nat.pow_pos hs)
theorem pw_b2 {t sq r k : Nat} (h : t * sq ^ r = k) (ht : 1 ≤ t) (hr : 1 ≤ r) (hs : 1 ≤ sq) : sq ≤ k := by
  rw [← h]
  have h1 : sq ^ 1 ≤ sq ^ r := Nat.pow_le_pow_right hs hr
  rw [Nat.pow_one] at h1
  exact Nat.le_trans h1 (Nat.le_mul_of_pos_left _ ht)
/-! ### what the defs compute -/
/-- divide l by p as often as it goes; s times p as often -/
def strip : Nat → Nat → Nat → Nat → Nat × Nat
  | 0, l, _, s => (l, s)
  | f + 1, l, p, s => if l % p = 0 then strip f (l / p) p (s * p) else (l, s)
def pf : Nat → List Nat → Nat → Nat → List Nat × Nat
  | 0, f, r, _ => (f, r)
  | n + 1, f, r, t => if t * t ≤ r then (if r % t = 0 then pf n (f ++ [t]) (strip r r t 1).1 (t + 1) else pf n f r (t + 1)) else (f, r)
def pfacs (n : Nat) : List Nat := if 1 < (pf n [] n 2).2 then (pf n [] n 2).1 ++ [(pf n [] n 2).2] else (pf n [] n 2).1
/-- P(k, m) as the program reckons it -/
def cop (k m : Nat) : Nat := (pfacs m).foldl (fun f p => f / p ^ k * (p ^ k - 1)) (m ^ k)
theorem strip_pos : ∀ {f l p s : Nat}, 2 ≤ p → 1 ≤ l → l ≤ f → 1 ≤ (strip f l p s).1 ∧ (strip f l p s).1 ≤ l
  | 0, l, p, s, _, h1, h2 => by omega
  | f + 1, l, p, s, hp, h1, h2 => by
    unfold strip
    by_cases h : l % p = 0
    · rw [if_pos h]
      have h3 : l / p < l := Nat.div_lt_self h1 hp
      have h4 : 1 ≤ l / p := by
        have := Nat.div_add_mod l p
        rcases Nat.eq_zero_or_pos (l / p) with q | q
        · rw [q, h] at this; omega
        · exact q
      have := strip_pos (f := f) (l := l / p) (p := p) (s := s * p) hp h4 (by omega)
      omega
    · rw [if_neg h]
      exact ⟨h1, Nat.le_refl _⟩
/-- the greatest number that divides all -/
def gcdL (ns : List Int) : Nat := ns.foldl (fun g z => Nat.gcd z.natAbs g) 0
/-- P(k, m) as the law reckons it, prime by prime -/
def copStep (reps : Nat) (st : Nat × Nat) (p : Nat) : Nat × Nat :=
  if st.2 % p = 0 then (st.1 * ((strip st.2 st.2 p 1).2 / p) ^ reps * (p ^ reps - 1), (strip st.2 st.2 p 1).1) else st
def copSt (reps mm : Nat) (n : Nat) : Nat × Nat := (List.range n).foldl (fun st i => copStep reps st (2 + i)) (1, mm)
def copL (reps mm : Nat) : Nat := (copSt reps mm (mm - 1)).1
/-- .. one by one -/
def lst (mm : Nat) : Nat → List Nat
  | 0 => [mm]
  | n + 1 => (lst mm n).flatMap fun one => (List.range mm).map fun z => Nat.gcd z one
def lstN (many mm : Nat) : Nat := ((lst mm many).filter fun one => decide (one = 1)).length
def due (many mm : Nat) : Nat := if mm ^ many ≤ 1000 then lstN many mm else copL many mm
theorem lst_len (mm : Nat) : ∀ n, (lst mm n).length = mm ^ n
  | 0 => rfl
  | n + 1 => by
    unfold lst
    rw [List.length_flatMap]
    have e : (lst mm n).map (fun one => ((List.range mm).map fun z => Nat.gcd z one).length) = List.replicate (lst mm n).length mm := by
      rw [← List.map_const']
      refine List.map_congr_left fun a _ => ?_
      rw [List.length_map, List.length_range]
    rw [e, List.sum_replicate_nat, lst_len mm n, Nat.pow_succ]
theorem copSt_succ (reps mm n : Nat) : copSt reps mm (n + 1) = copStep reps (copSt reps mm n) (2 + n) := by
  unfold copSt
  rw [List.range_succ, List.foldl_append]
  rfl
theorem strip_mul : ∀ {f l p s : Nat}, 2 ≤ p → 1 ≤ l → l ≤ f → (strip f l p s).1 * (strip f l p s).2 = l * s
  | 0, l, p, s, _, h1, h2 => by omega
  | f + 1, l, p, s, hp, h1, h2 => by
    unfold strip
    by_cases h : l % p = 0
    · rw [if_pos h]
      have h3 : l / p < l := Nat.div_lt_self h1 hp
      have h5 : p * (l / p) = l := by
        have := Nat.div_add_mod l p
        omega
      have h4 : 1 ≤ l / p := by
        rcases Nat.eq_zero_or_pos (l / p) with q | q
        · rw [q] at h5; omega
        · exact q
      rw [strip_mul (f := f) (l := l / p) (p := p) (s := s * p) hp h4 (by omega)]
      rw [Nat.mul_comm s p, ← Nat.mul_assoc, Nat.mul_comm (l / p) p, h5]
    · rw [if_neg h]
theorem strip_le {f l p : Nat} (hp : 2 ≤ p) (h1 : 1 ≤ l) (h2 : l ≤ f) : (strip f l p 1).2 ≤ l := by
  have h := strip_mul (s := 1) hp h1 h2
  have h3 := (strip_pos (s := 1) hp h1 h2).1
  rw [Nat.mul_one] at h
  calc (strip f l p 1).2 ≤ (strip f l p 1).1 * (strip f l p 1).2 := Nat.le_mul_of_pos_left _ h3
    _ = l := h
theorem pfacs_all : ((List.range 361).all fun m => m == 0 || (pfacs m).all fun q => decide (2 ≤ q) && decide (q ≤ 360)) = true := by decide +kernel
theorem pfacs_ok (m : Nat) (h1 : 1 ≤ m) (h2 : m ≤ 360) (q : Nat) (hq : q ∈ pfacs m) : 2 ≤ q ∧ q ≤ 360 := by
  have h := List.all_eq_true.mp pfacs_all m (List.mem_range.mpr (by omega))
  rcases Bool.or_eq_true_iff.mp h with h | h
  · have := of_decide_eq_true h
    omega
  · have h3 := List.all_eq_true.mp h q hq
    simp only [Bool.and_eq_true, decide_eq_true_eq] at h3
    exact h3
/-! ### the law's facts: lengths to 6, numbers to 30, and products -/
theorem due_all : ((List.range 7).all fun k => (List.range 31).all fun m => m == 0 || cop k m == due k m) = true := by decide +kernel
theorem cop_due {k m : Nat} (hk : k ≤ 6) (h1 : 1 ≤ m) (h2 : m ≤ 30) : cop k m = due k m := by
  have h := List.all_eq_true.mp (List.all_eq_true.mp due_all k (List.mem_range.mpr (by omega))) m (List.mem_range.mpr (by omega))
  rcases Bool.or_eq_true_iff.mp h with h | h
  · have := eq_of_beq h
    omega
  · exact eq_of_beq h
theorem mul_all : ((List.range 7).all fun k => (List.range 31).all fun m => (List.range 13).all fun n => m == 0 || n == 0 || Nat.gcd n m != 1 || cop k (m * n) == cop k m * cop k n) = true := by decide +kernel
theorem cop_mul {k m n : Nat} (hk : k ≤ 6) (h1 : 1 ≤ m) (h2 : m ≤ 30) (h3 : 1 ≤ n) (h4 : n ≤ 12) (hg : Nat.gcd n m = 1) : cop k (m * n) = due k m * due k n := by
  have h := List.all_eq_true.mp (List.all_eq_true.mp (List.all_eq_true.mp mul_all k (List.mem_range.mpr (by omega))) m (List.mem_range.mpr (by omega))) n (List.mem_range.mpr (by omega))
  rw [← cop_due hk h1 h2, ← cop_due hk h3 (by omega)]
  simp only [Bool.or_eq_true, beq_iff_eq, bne_iff_ne, ne_eq, hg, not_true_eq_false, or_false] at h
  rcases h with (h | h) | h
  · omega
  · omega
  · exact h
theorem due_lt_all : ((List.range 7).all fun k => (List.range 31).all fun m => m == 0 || decide (due k m < 4611686018427387904)) = true := by decide +kernel
theorem due_lt {k m : Nat} (hk : k ≤ 6) (h1 : 1 ≤ m) (h2 : m ≤ 30) : due k m < 4611686018427387904 := by
  have h := List.all_eq_true.mp (List.all_eq_true.mp due_lt_all k (List.mem_range.mpr (by omega))) m (List.mem_range.mpr (by omega))
  rcases Bool.or_eq_true_iff.mp h with h | h
  · have := eq_of_beq h
    omega
  · exact of_decide_eq_true h
section
variable {P : Program} {w : World} {K : PySem.W.Frag} {mg : Str → Option Value} {base : Heap} {f : Addr} {fd : FuncData}
abbrev st_power : Stmt := top 2
theorem sc_power : FnScope ["base", "exponent", "told", "square", "rest"] ["base", "exponent"] (defScope st_power) := ⟨rfl, rfl, rfl, by decide +kernel, rfl, by decide +kernel, by decide +kernel⟩
def spPower : Sp := fun vs H Q _ => ∃ (n e : Nat), vs = [.int n, .int e] ∧ 1 ≤ n ∧ n ≤ 1000 ∧ e ≤ 6 ∧ Q (.int ((n ^ e : Nat) : Int)) H
theorem ok_power (F : FnP K "power" st_power f fd) : FnOk P w K mg base CX0 1 f fd ["base", "exponent"] spPower := by
  refine F.ok sc_power (fun vs H Q E h => ?_) (fun cdv A outer s H vs Q E hr h => ?_)
  · obtain ⟨b, e, rfl, _⟩ := h
    rfl
  · obtain ⟨n, e, rfl, h1, h2, h3, k⟩ := h
    refine ⟨_, PSs.nox ((pss_cons (ps_set (i := 2) sc_power.nd rfl (Or.inl rfl) pe_int)
      (pss_cons (ps_set (i := 3) sc_power.nd rfl (Or.inl rfl) (pv 0))
      (pss_cons (ps_set (i := 4) sc_power.nd rfl (Or.inl rfl) (pv 1))
      (pss_cons (ps_while PassesOwn.never (pt_cmpR op_gt (pv 4) pe_int (nomark _))
        (pss_cons (ps_if (pt_cmpR op_eq (pe_op op_mod (pv 4) pe_int) pe_int (nomark _))
          (pss_one (ps_aug (i := 2) sc_power.nd rfl (Or.inl rfl) (pv 3) pip_mul))
          pss_nil)
        (pss_cons (ps_aug (i := 4) sc_power.nd rfl (Or.inl rfl) pe_int pip_fdiv)
        (pss_one (ps_if (pt_cmpR op_gt (pv 4) pe_int (nomark _))
          (pss_one (ps_aug (i := 3) sc_power.nd rfl (Or.inl rfl) (pv 3) pip_mul))
          pss_nil)))))
      (pss_one (ps_ret (pv 2)))))))), ?_⟩
    have hk : n ^ e ≤ 1000000000000000000 := pw_le h2 h3
    generalize hN : n ^ e = N at *
    walk_at "go"
    refine x_while (fun m σ H' => H' = H ∧ ∃ t sq r : Nat, σ = [some (.int n), some (.int e), some (.int (t : Nat)), some (.int (sq : Nat)), some (.int (r : Nat))] ∧ m = r ∧ 1 ≤ t ∧ t ≤ N ∧ (1 ≤ r → t * sq ^ r = N ∧ 1 ≤ sq) ∧ (r = 0 → t = N)) e ⟨rfl, 1, n, e, rfl, rfl, by omega, by rw [← hN]; exact Nat.pow_pos h1, fun _ => ⟨by rw [Nat.one_mul, hN], h1⟩, fun e0 => by rw [← hN, e0]; rfl⟩ ?_
    rintro m σ H' ⟨rfl, t, sq, r, rfl, rfl, ht, htN, he, he0⟩
    walk_at "go"
    refine x_iteD (fun hr => ?_) (fun hr => ?_)
    · obtain ⟨hq, hs⟩ := he (by omega)
      have b2 := pw_b2 hq ht (by omega) hs
      have e2 : ((m : Int) / 2) = ((m / 2 : Nat) : Int) := by omega
      have e3 : (m : Int) % 2 = ((m % 2 : Nat) : Int) := by omega
      refine x_turn ?_
      walk_at "go"
      refine x_iteD (fun hm => ?_) (fun hm => ?_)
      · have hm' : m % 2 = 1 := by omega
        walk_at "go"
        rw [e2]
        refine x_iteD (fun hz => ?_) (fun hz => ?_)
        · walk_at "go"
          have hh : t * sq * (sq * sq) ^ (m / 2) = N := by rw [pw_half hm']; exact hq
          have hs2 : 1 ≤ sq * sq := Nat.mul_pos hs hs
          refine ⟨m / 2, by omega, rfl, t * sq, sq * sq, m / 2, by rw [Int.natCast_mul, Int.natCast_mul]; rfl, rfl, Nat.mul_pos ht hs, pw_b1 hh hs2, fun _ => ⟨hh, hs2⟩, fun h0 => by omega⟩
        · walk_at "go"
          have hm1 : m = 1 := by omega
          have hh : t * sq = N := by rw [← hq, hm1, Nat.pow_one]
          refine ⟨m / 2, by omega, rfl, t * sq, sq, m / 2, by rw [Int.natCast_mul]; rfl, rfl, Nat.mul_pos ht hs, by omega, fun h0 => by omega, fun _ => hh⟩
      · walk_at "go"
        have hm' : ¬ m % 2 = 1 := by omega
        rw [e2]
        refine x_iteD (fun hz => ?_) (fun hz => ?_)
        · walk_at "go"
          have hh : t * (sq * sq) ^ (m / 2) = N := by rw [pw_even hm']; exact hq
          refine ⟨m / 2, by omega, rfl, t, sq * sq, m / 2, by rw [Int.natCast_mul]; rfl, rfl, ht, htN, fun _ => ⟨hh, Nat.mul_pos hs hs⟩, fun h0 => by omega⟩
        · exfalso; omega
    · walk_at "go"
      rw [he0 (by omega)]
      exact k
/-! ### prime_factors -/
abbrev st_prime_factors : Stmt := top 1
theorem sc_prime_factors : FnScope ["number", "found", "rest", "trial"] ["number"] (defScope st_prime_factors) := ⟨rfl, rfl, rfl, by decide +kernel, rfl, by decide +kernel, by decide +kernel⟩
def spPf : Sp := fun vs H Q _ => ∃ (n : Nat), vs = [.int n] ∧ 1 ≤ n ∧ n ≤ 100000 ∧ ∀ p, H p = none → Q (.ref p) (upd H p (.lst ((pfacs n).map fun z => V.int (z : Nat))))
theorem ok_pf (F : FnP K "prime_factors" st_prime_factors f fd) : FnOk P w K mg base CX0 1 f fd ["number"] spPf := by
  refine F.ok sc_prime_factors (fun vs H Q E h => ?_) (fun cdv A outer s H vs Q E hr h => ?_)
  · obtain ⟨n, rfl, _⟩ := h
    rfl
  · obtain ⟨n, rfl, h1, h2, k⟩ := h
    refine ⟨_, PSs.nox ((pss_cons (ps_set (i := 1) sc_prime_factors.nd rfl (Or.inl rfl) (pe_lst pa_nil))
      (pss_cons (ps_set (i := 2) sc_prime_factors.nd rfl (Or.inl rfl) (pv 0))
      (pss_cons (ps_set (i := 3) sc_prime_factors.nd rfl (Or.inl rfl) pe_int)
      (pss_cons (ps_while PassesOwn.never (pt_cmpR op_le (pe_op op_mul (pv 3) (pv 3)) (pv 2) (nomark _))
        (pss_cons (ps_if (pt_cmpR op_eq (pe_op op_mod (pv 2) (pv 3)) pe_int (nomark _))
          (pss_cons (ps_expr (pe_bm PySem.F.plainAttrs_list PySem.F.slot_list_append PySem.F.type_list_append mt_append (pv 1) (pa_cons (pv 3) pa_nil)))
          (pss_one (ps_while PassesOwn.never (pt_cmpR op_eq (pe_op op_mod (pv 2) (pv 3)) pe_int (nomark _))
            (pss_one (ps_aug (i := 2) sc_prime_factors.nd rfl (Or.inl rfl) (pv 3) pip_fdiv)))))
          pss_nil)
        (pss_one (ps_aug (i := 3) sc_prime_factors.nd rfl (Or.inl rfl) pe_int ip_add))))
      (pss_cons (ps_if (pt_cmpR op_gt (pv 2) pe_int (nomark _))
        (pss_one (ps_expr (pe_bm PySem.F.plainAttrs_list PySem.F.slot_list_append PySem.F.type_list_append mt_append (pv 1) (pa_cons (pv 2) pa_nil))))
        pss_nil)
      (pss_one (ps_ret (pv 1))))))))), ?_⟩
    walk_at "go"
    refine ⟨Nat.zero_le _, fun p hp => ?_⟩
    walk_at "go"
    have hsz : n < sizeLine := Nat.lt_of_le_of_lt h2 (by decide)
    refine x_while (fun m σ H' => ∃ (fo : List Nat) (r t : Nat), H' = upd H p (.lst (fo.map fun z => V.int (z : Nat))) ∧ σ = [some (.int n), some (.ref p), some (.int r), some (.int t)] ∧ pf m fo r t = pf n [] n 2 ∧ r < m + t ∧ 1 ≤ r ∧ r ≤ n ∧ 2 ≤ t ∧ t ≤ n + 1 ∧ fo.length + m ≤ n) n ⟨[], n, 2, rfl, rfl, rfl, by omega, h1, Nat.le_refl _, by omega, by omega, by simp⟩ ?_
    rintro m σ H' ⟨fo, r, t, rfl, rfl, hpf, hm, hr1, hrn, ht, htn, hl⟩
    have et : (t : Int) * (t : Int) = ((t * t : Nat) : Int) := (Int.natCast_mul _ _).symm
    have er : (r : Int) % (t : Int) = ((r % t : Nat) : Int) := rfl
    walk_at "go"
    rw [et]
    refine x_iteD (fun hc => ?_) (fun hc => ?_)
    · have hc : t * t ≤ r := by omega
      have htr : t ≤ r := Nat.le_trans (Nat.le_mul_of_pos_left t (by omega)) hc
      obtain ⟨m, rfl⟩ : ∃ m', m = m' + 1 := ⟨m - 1, by omega⟩
      have hpf : (if t * t ≤ r then (if r % t = 0 then pf m (fo ++ [t]) (strip r r t 1).1 (t + 1) else pf m fo r (t + 1)) else (fo, r)) = pf n [] n 2 := hpf
      rw [if_pos hc] at hpf
      refine x_turn ?_
      walk_at "go"
      rw [er]
      refine x_iteD (fun hd => ?_) (fun hd => ?_)
      · have hd : r % t = 0 := by omega
        rw [if_pos hd] at hpf
        walk_at "go"
        refine x_append (xs := fo.map fun z => V.int (z : Nat)) upd_same (by rw [List.length_map]; omega) ?_
        rw [upd_upd]
        have ea : fo.map (fun z => V.int (z : Nat)) ++ [V.int (t : Nat)] = (fo ++ [t]).map fun z => V.int (z : Nat) := by rw [List.map_append]; rfl
        rw [ea]
        refine x_while (fun j σ H' => ∃ (l s : Nat), H' = upd H p (.lst ((fo ++ [t]).map fun z => V.int (z : Nat))) ∧ σ = [some (.int n), some (.ref p), some (.int l), some (.int t)] ∧ strip j l t s = strip r r t 1 ∧ l ≤ j ∧ 1 ≤ l) r ⟨r, 1, rfl, rfl, rfl, Nat.le_refl _, hr1⟩ ?_
        rintro j σ H' ⟨l, s, rfl, rfl, hst, hlj, hl1⟩
        have el : (l : Int) % (t : Int) = ((l % t : Nat) : Int) := rfl
        have ed : (l : Int) / (t : Int) = ((l / t : Nat) : Int) := rfl
        obtain ⟨j, rfl⟩ : ∃ j', j = j' + 1 := ⟨j - 1, by omega⟩
        have hst : (if l % t = 0 then strip j (l / t) t (s * t) else (l, s)) = strip r r t 1 := hst
        walk_at "go"
        rw [el]
        refine x_iteD (fun hz => ?_) (fun hz => ?_)
        · have hz : l % t = 0 := by omega
          rw [if_pos hz] at hst
          refine x_turn ?_
          walk_at "go"
          rw [ed]
          have q1 : l / t < l := Nat.div_lt_self hl1 (by omega)
          have q2 : 1 ≤ l / t := by
            have := Nat.div_add_mod l t
            rcases Nat.eq_zero_or_pos (l / t) with q | q
            · rw [q, hz] at this; omega
            · exact q
          exact ⟨j, Nat.lt_succ_self _, l / t, s * t, rfl, rfl, hst, by omega, q2⟩
        · have hz : ¬ l % t = 0 := by omega
          rw [if_neg hz] at hst
          have e1 : (strip r r t 1).1 = l := by rw [← hst]
          have e2 := strip_pos (f := r) (l := r) (p := t) (s := 1) ht hr1 (Nat.le_refl _)
          rw [e1] at hpf e2
          walk_at "go"
          exact ⟨m, Nat.lt_succ_self _, fo ++ [t], l, t + 1, rfl, rfl, hpf, by omega, hl1, by omega, by omega, by omega, by rw [List.length_append, List.length_singleton]; omega⟩
      · have hd : ¬ r % t = 0 := by omega
        rw [if_neg hd] at hpf
        walk_at "go"
        exact ⟨m, Nat.lt_succ_self _, fo, r, t + 1, rfl, rfl, hpf, by omega, hr1, hrn, by omega, by omega, by omega⟩
    · have hc : ¬ t * t ≤ r := by omega
      have hpf : (fo, r) = pf n [] n 2 := by
        rw [← hpf]
        cases m with
        | zero => rfl
        | succ m => exact (if_neg hc).symm
      walk_at "go"
      have e0 : pfacs n = if 1 < r then fo ++ [r] else fo := by unfold pfacs; rw [← hpf]
      refine x_iteD (fun h => ?_) (fun h => ?_)
      · walk_at "go"
        refine x_append (xs := fo.map fun z => V.int (z : Nat)) upd_same (by rw [List.length_map]; omega) ?_
        walk_at "go"
        rw [upd_upd]
        have ea : fo.map (fun z => V.int (z : Nat)) ++ [V.int (r : Nat)] = (fo ++ [r]).map fun z => V.int (z : Nat) := by rw [List.map_append]; rfl
        rw [ea]
        rw [if_pos (by omega)] at e0
        rw [← e0]
        exact k p hp
      · walk_at "go"
        rw [if_neg (by omega)] at e0
        rw [← e0]
        exact k p hp
/-! ### the bag: made, drawn from -/
abbrev st_l_bag : Stmt := top 6
theorem sc_l_bag : FnScope ["script", "blend", "cell"] ["script"] (defScope st_l_bag) := ⟨rfl, rfl, rfl, by decide +kernel, rfl, by decide +kernel, by decide +kernel⟩
abbrev st_l_draw : Stmt := top 7
theorem sc_l_draw : FnScope ["bag", "below", "cell", "digit", "blend"] ["bag", "below"] (defScope st_l_draw) := ⟨rfl, rfl, rfl, by decide +kernel, rfl, by decide +kernel, by decide +kernel⟩
abbrev st_l_of : Stmt := top 8
theorem sc_l_of : FnScope ["bag", "some"] ["bag", "some"] (defScope st_l_of) := ⟨rfl, rfl, rfl, by decide +kernel, rfl, by decide +kernel, by decide +kernel⟩
def spBag (K : PySem.W.Frag) : Sp := fun vs H Q _ => ∃ (a : Addr) (ns : List Int), vs = [.ref a] ∧ SqL K H a (ns.map V.int) ∧ ns.length ≤ 63 ∧ ∀ b l H', H b = none → H l = none → BagAt H' b l → Same H H' → Q (.ref b) H'
def spDraw : Sp := fun vs H Q _ => ∃ (b l : Addr) (n : Int), vs = [.ref b, .int n] ∧ BagAt H b l ∧ 0 < n ∧ n < 1073741824 ∧ ∀ (r : Int) H', 0 ≤ r → r < n → BagAt H' b l → Kp b H H' → Q (.int r) H'
def spOf : Sp := fun vs H Q _ => ∃ (b l p : Addr) (xs : List V), vs = [.ref b, .ref p] ∧ BagAt H b l ∧ p ≠ b ∧ H p = some (.lst xs) ∧ 0 < xs.length ∧ xs.length < 1073741824 ∧ ∀ (i : Nat) (v : V) H', xs[i]? = some v → BagAt H' b l → Kp b H H' → Q v H'
theorem cut63 {ns : List Int} (h : ns.length ≤ 63) : cutV (ns.map V.int) none (some 63) = ns.map V.int := by
  unfold cutV
  have e1 : HT.sIx (ns.map V.int).length 0 none = 0 := rfl
  have e2 : HT.sIx (ns.map V.int).length (ns.map V.int).length (some 63) = ns.length := by
    rw [List.length_map]
    unfold HT.sIx
    simp
    omega
  rw [e1, e2, List.drop_zero]
  exact List.take_of_length_le (by rw [List.length_map]; omega)
theorem ok_bag (B : Bi mg) (F : FnP K "_law_bag" st_l_bag f fd) : FnOk P w K mg base CX0 1 f fd ["script"] (spBag K) := by
  refine F.ok sc_l_bag (fun vs H Q E h => ?_) (fun cdv A outer s H vs Q E hr h => ?_)
  · obtain ⟨a, ns, rfl, _⟩ := h
    rfl
  · obtain ⟨a, ns, rfl, hS, hl, k⟩ := h
    have G := B
    refine ⟨_, PSs.nox ((pss_cons (ps_set (i := 1) sc_l_bag.nd rfl (Or.inl rfl) pe_int)
      (pss_cons (ps_for PassesOwn.never rfl (pi_list (pe_slice sl_list (pv 0) po_none (po_some pe_int))) (pg_name (i := 2) sc_l_bag.nd rfl (Or.inl rfl))
        (pss_one (ps_set (i := 1) sc_l_bag.nd rfl (Or.inl rfl) (pe_op op_mod (pe_callTy call_intI (by rfl) G.int (by decide +kernel) (pa_cons (pe_op op_add (pe_op op_add (pe_op op_mul (pv 1) pe_int) (pe_op op_mod (pe_callTy call_intI (by rfl) G.int (by decide +kernel) (pa_cons (pv 2) pa_nil)) pe_int)) pe_int) pa_nil)) pe_int))))
      (pss_one (ps_ret (pe_lst (pa_cons (pe_callTy callListS (by rfl) G.list (by decide +kernel) (pa_cons (pe_slice sl_list (pv 0) po_none (po_some pe_int)) pa_nil)) (pa_cons pe_int (pa_cons pe_int (pa_cons (pv 1) (pa_cons pe_int pa_nil))))))))))), ?_⟩
    walk_at "go"
    refine x_slL hS fun p hp => ?_
    rw [cut63 hl]
    refine w_forL (xs := ns.map V.int) (SqL.of upd_same) (fun i σ H' => H' = upd H p (.lst (ns.map V.int)) ∧ ∃ (x : Int) (c : Option V), σ = [some (.ref a), some (.int x), c] ∧ 0 ≤ x ∧ x < 2147483549) ⟨rfl, _, none, rfl, by decide, by decide⟩ (fun i σ H' _ ⟨e, _⟩ => by rw [e]; exact SqL.of upd_same) ?_ ?_
    · rintro i y σ H' hi ⟨rfl, x, c, rfl, hx0, hx1⟩
      obtain ⟨z, rfl, _⟩ := int_at hi
      walk_at "go"
      exact ⟨rfl, _, some (.int z), rfl, Int.emod_nonneg _ (by decide), Int.emod_lt_of_pos _ (by decide)⟩
    · rintro σ H' ⟨rfl, x, c, rfl, hx0, hx1⟩
      walk_at "go"
      refine x_slL (Same.sql (Same.new hp) hS) fun q hq => ?_
      rw [cut63 hl]
      walk_at "go"
      refine x_listL (SqL.of upd_same) fun l hl' => ?_
      walk_at "go"
      refine ⟨by show 5 ≤ sizeLine; decide, fun b hb => ?_⟩
      have s2 : Same H (upd (upd (upd H p (.lst (ns.map V.int))) q (.lst (ns.map V.int))) l (.lst (ns.map V.int))) := Same.trans (Same.trans (Same.new hp) (Same.new hq)) (Same.new hl')
      have s3 := Same.trans s2 (Same.new (o := HO.lst [.ref l, .int 0, .int 0, .int x, .int 0]) hb)
      refine k b l _ (Same.free s2 hb) (Same.free (Same.trans (Same.new hp) (Same.new hq)) hl') ⟨ns, 0, 0, x, 0, upd_same, ?_, hl, by decide, hx0, hx1⟩ s3
      exact upd_old hb upd_same
theorem ok_draw (B : Bi mg) (F : FnP K "_law_draw" st_l_draw f fd) : FnOk P w K mg base CX0 1 f fd ["bag", "below"] spDraw := by
  refine F.ok sc_l_draw (fun vs H Q E h => ?_) (fun cdv A outer s H vs Q E hr h => ?_)
  · obtain ⟨b, l, n, rfl, _⟩ := h
    rfl
  · obtain ⟨b, l, n, rfl, hB, hn0, hn1, k⟩ := h
    have G := B
    have nlb := hB.ne
    obtain ⟨ns, i, g, x, c, hb, hL, hlen, hg, hx0, hx1⟩ := hB.ex
    refine ⟨_, PSs.nox ((pss_cons (ps_asg (pe_op op_add (pe_ix ix_list (pv 0) pe_int (fun _ _ => rfl)) pe_int) (pg_sub (pv 0) pe_int set_list))
      (C8.pss_cut (ps_if (PW.pt (pw_and (pt_cmpR op_eq (pe_ix ix_list (pv 0) pe_int (fun _ _ => rfl)) pe_int (nomark _)) (pw_and1 (pt_cmpR op_lt (pe_ix ix_list (pv 0) pe_int (fun _ _ => rfl)) (pe_callB callLenS (by rfl) G.len PySem.boot_len (pa_cons (pe_ix ix_list (pv 0) pe_int (fun _ _ => rfl)) pa_nil)) (nomark _)))))
        (pss_cons (ps_set (i := 2) sc_l_draw.nd rfl (Or.inl rfl) (pe_callTy call_intI (by rfl) G.int (by decide +kernel) (pa_cons (pe_ix ix_list (pe_ix ix_list (pv 0) pe_int (fun _ _ => rfl)) (pe_ix ix_list (pv 0) pe_int (fun _ _ => rfl)) (fun _ _ => rfl)) pa_nil)))
        (pss_cons (ps_asg (pe_op op_add (pe_ix ix_list (pv 0) pe_int (fun _ _ => rfl)) pe_int) (pg_sub (pv 0) pe_int set_list))
        (pss_one (ps_if (pt_cmpR op_ge (pv 2) (pe_op op_pow pe_int pe_int) (nomark _))
          (pss_one (ps_asg (pv 2) (pg_sub (pv 0) pe_int set_list)))
          (pss_one (ps_asg (pe_op op_mod (pe_callTy call_intI (by rfl) G.int (by decide +kernel) (pa_cons (pe_op op_add (pe_op op_add (pe_op op_mul (pe_ix ix_list (pv 0) pe_int (fun _ _ => rfl)) pe_int) (pe_op op_mul (pe_op op_mod (pe_callTy call_intI (by rfl) G.int (by decide +kernel) (pa_cons (pv 2) pa_nil)) pe_int) pe_int)) pe_int) pa_nil)) pe_int) (pg_sub (pv 0) pe_int set_list)))))))
        pss_nil)
      (pss_cons (ps_if (pt_cmpR op_gt (pe_ix ix_list (pv 0) pe_int (fun _ _ => rfl)) pe_int (nomark _))
        (pss_cons (ps_set (i := 3) sc_l_draw.nd rfl (Or.inl rfl) (pe_op op_mod (pe_callTy call_intI (by rfl) G.int (by decide +kernel) (pa_cons (pe_ix ix_list (pv 0) pe_int (fun _ _ => rfl)) pa_nil)) (pv 1)))
        (pss_cons (ps_asg (pe_op op_fdiv (pe_ix ix_list (pv 0) pe_int (fun _ _ => rfl)) (pv 1)) (pg_sub (pv 0) pe_int set_list))
        (pss_one (ps_ret (pv 3)))))
        pss_nil)
      (pss_cons (ps_set (i := 4) sc_l_draw.nd rfl (Or.inl rfl) (pe_callTy call_intI (by rfl) G.int (by decide +kernel) (pa_cons (pe_ix ix_list (pv 0) pe_int (fun _ _ => rfl)) pa_nil)))
      (pss_cons (ps_asg (pe_op op_mod (pe_callTy call_intI (by rfl) G.int (by decide +kernel) (pa_cons (pe_op op_add (pe_op op_add (pe_op op_add (pe_op op_pow (pv 4) pe_int) (pe_op op_mul (pv 4) pe_int)) (pe_op op_mul (pe_ix ix_list (pv 0) pe_int (fun _ _ => rfl)) pe_int)) pe_int) pa_nil)) pe_int) (pg_sub (pv 0) pe_int set_list))
      (pss_one (ps_ret (pe_op op_mod (pe_callTy call_intI (by rfl) G.int (by decide +kernel) (pa_cons (pe_op op_add (pe_op op_fdiv (pe_ix ix_list (pv 0) pe_int (fun _ _ => rfl)) pe_int) (pe_op op_mul (pe_op op_mod (pe_callTy call_intI (by rfl) G.int (by decide +kernel) (pa_cons (pe_ix ix_list (pv 0) pe_int (fun _ _ => rfl)) pa_nil)) pe_int) pe_int)) pa_nil)) (pv 1)))))))))), ?_⟩
    have bump : ∀ y, (upd H b (.lst ([.ref l, .int i, .int g, .int x, .int c].set (Int.toNat 4) y))) = upd H b (.lst [.ref l, .int i, .int g, .int x, y]) := fun y => rfl
    try dsimp only [cxOf]
    walk_at "go"
    rw [bump]
    refine x_cut (fun σ H1 => ∃ (i1 : Nat) (g1 x1 : Int) (u v z : Option V), σ = [some (.ref b), some (.int n), u, v, z] ∧ Kp b H H1 ∧ H1 b = some (.lst [.ref l, .int i1, .int g1, .int x1, .int (c + 1)]) ∧ H1 l = some (.lst (ns.map V.int)) ∧ 0 ≤ g1 ∧ 0 ≤ x1 ∧ x1 < 2147483549) ?_ ?_
    · walk_at "go"
      have bump1 : ∀ y z, ([V.ref l, .int i, .int g, .int x, y].set (Int.toNat 1) z) = [V.ref l, z, .int g, .int x, y] := fun y z => rfl
      have bump2 : ∀ y z u, ([V.ref l, u, .int g, .int x, y].set (Int.toNat 2) z) = [V.ref l, u, z, .int x, y] := fun y z u => rfl
      have bump3 : ∀ y z u, ([V.ref l, u, .int g, .int x, y].set (Int.toNat 3) z) = [V.ref l, u, .int g, z, y] := fun y z u => rfl
      have kp0 : ∀ o, Kp b H (upd H b o) := fun o => Kp.upd Kp.refl
      have hL' : ∀ o, upd H b o l = some (.lst (ns.map V.int)) := fun o => upd_oth nlb hL
      have other : ∃ (i1 : Nat) (g1 x1 : Int) (u v z : Option V), L2.start ["bag", "below", "cell", "digit", "blend"] [V.ref b, V.int n] = [some (.ref b), some (.int n), u, v, z] ∧ Kp b H (upd H b (.lst [.ref l, .int i, .int g, .int x, .int (c + 1)])) ∧ (upd H b (.lst [.ref l, .int i, .int g, .int x, .int (c + 1)])) b = some (.lst [.ref l, .int i1, .int g1, .int x1, .int (c + 1)]) ∧ (upd H b (.lst [.ref l, .int i, .int g, .int x, .int (c + 1)])) l = some (.lst (ns.map V.int)) ∧ 0 ≤ g1 ∧ 0 ≤ x1 ∧ x1 < 2147483549 :=
        ⟨i, g, x, none, none, none, rfl, kp0 _, upd_same, hL' _, hg, hx0, hx1⟩
      refine x_iteD (fun hg0 => ?_) (fun hg0 => ?_)
      · walk_at "go"
        refine x_iteD (fun hi => ?_) (fun hi => ?_)
        · rw [List.length_map] at hi
          obtain ⟨z, hz⟩ : ∃ z, (ns.map V.int)[i]? = some (.int z) := ⟨ns[i]'(by omega), by rw [List.getElem?_map, List.getElem?_eq_getElem (by omega)]; rfl⟩
          walk_at "go"
          refine x_ixL (hL' _ |> SqL.of) (atI_of rfl hz) ?_
          walk_at "go"
          rw [bump1, upd_upd]
          refine x_iteD (fun hc => ?_) (fun hc => ?_)
          · walk_at "go"
            rw [bump2, upd_upd]
            have hc' : (1000000000000000000 : Int) ≤ z := hc
            exact ⟨i + 1, z, x, some (.int z), none, none, rfl, kp0 _, upd_same, hL' _, by omega, hx0, hx1⟩
          · walk_at "go"
            rw [bump3, upd_upd]
            exact ⟨i + 1, g, _, some (.int z), none, none, rfl, kp0 _, upd_same, hL' _, hg, Int.emod_nonneg _ (by decide), Int.emod_lt_of_pos _ (by decide)⟩
        · walk_at "go"
          exact other
      · walk_at "go"
        exact other
    · rintro σ H1 ⟨i1, g1, x1, u, v, z, rfl, kp, hb1, hL1, hg1, hx1', hx2⟩
      have bump2 : ∀ z, ([V.ref l, .int i1, .int g1, .int x1, .int (c + 1)].set (Int.toNat 2) z) = [V.ref l, .int i1, z, .int x1, .int (c + 1)] := fun z => rfl
      have bump3 : ∀ z, ([V.ref l, .int i1, .int g1, .int x1, .int (c + 1)].set (Int.toNat 3) z) = [V.ref l, .int i1, .int g1, z, .int (c + 1)] := fun z => rfl
      have hL2 : ∀ o, upd H1 b o l = some (.lst (ns.map V.int)) := fun o => upd_oth nlb hL1
      walk_at "go"
      refine x_iteD (fun hg0 => ?_) (fun hg0 => ?_)
      · walk_at "go"
        rw [bump2]
        exact k _ _ (Int.emod_nonneg _ (by omega)) (Int.emod_lt_of_pos _ hn0) ⟨ns, i1, _, x1, c + 1, upd_same, hL2 _, hlen, Int.ediv_nonneg hg1 (by omega), hx1', hx2⟩ (Kp.upd kp)
      · walk_at "go"
        rw [bump3]
        exact k _ _ (Int.emod_nonneg _ (by omega)) (Int.emod_lt_of_pos _ hn0) ⟨ns, i1, g1, _, c + 1, upd_same, hL2 _, hlen, hg1, Int.emod_nonneg _ (by decide), Int.emod_lt_of_pos _ (by decide)⟩ (Kp.upd kp)
theorem ok_of (B : Bi mg) (c_l_draw : C8.Cal P w K mg base 1 "_law_draw" spDraw []) (F : FnP K "_law_of" st_l_of f fd) : FnOk P w K mg base CX0 2 f fd ["bag", "some"] spOf := by
  refine F.ok sc_l_of (fun vs H Q E h => ?_) (fun cdv A outer s H vs Q E hr h => ?_)
  · obtain ⟨b, l, p, xs, rfl, _⟩ := h
    rfl
  · obtain ⟨b, l, p, xs, rfl, hB, npb, hp, h0, h1, k⟩ := h
    have G := B
    refine ⟨_, PSs.nox ((pss_one (ps_ret (pe_ix ix_list (pv 1) (C8.pe_c c_l_draw hr (by decide) rfl (pa_cons (pv 0) (pa_cons (pe_callB callLenS (by rfl) G.len PySem.boot_len (pa_cons (pv 1) pa_nil)) pa_nil))) (fun _ _ => rfl))))), ?_⟩
    try dsimp only [cxOf]
    walk_at "go"
    refine ⟨b, l, (xs.length : Nat), rfl, hB, by omega, by omega, fun r H' hr0 hr1 hB' kp => ?_⟩
    have hp' := Kp.get kp npb hp
    obtain ⟨v, hv⟩ : ∃ v, xs[r.toNat]? = some v := ⟨xs[r.toNat]'(by omega), List.getElem?_eq_getElem (by omega)⟩
    refine x_ixL (SqL.of hp') (atI_of (by omega) hv) ?_
    exact k _ v H' hv hB' kp
abbrev st_l_gcd : Stmt := top 9
theorem sc_l_gcd : FnScope ["some", "worth", "one", "left", "right", "rest"] ["some"] (defScope st_l_gcd) := ⟨rfl, rfl, rfl, by decide +kernel, rfl, by decide +kernel, by decide +kernel⟩
abbrev st_l_power : Stmt := top 10
theorem sc_l_power : FnScope ["base", "reps", "worth", "lap"] ["base", "reps"] (defScope st_l_power) := ⟨rfl, rfl, rfl, by decide +kernel, rfl, by decide +kernel, by decide +kernel⟩
abbrev st_l_coprime : Stmt := top 11
theorem sc_l_coprime : FnScope ["reps", "mm", "worth", "left", "prime", "size"] ["reps", "mm"] (defScope st_l_coprime) := ⟨rfl, rfl, rfl, by decide +kernel, rfl, by decide +kernel, by decide +kernel⟩
abbrev st_l_listed : Stmt := top 12
theorem sc_l_listed : FnScope ["many", "mm", "found", "lap", "longer", "one", "worth"] ["many", "mm"] (defScope st_l_listed) := ⟨rfl, rfl, rfl, by decide +kernel, rfl, by decide +kernel, by decide +kernel⟩
abbrev st_l_due : Stmt := top 13
theorem sc_l_due : FnScope ["many", "mm"] ["many", "mm"] (defScope st_l_due) := ⟨rfl, rfl, rfl, by decide +kernel, rfl, by decide +kernel, by decide +kernel⟩
abbrev st_coprime_lists : Stmt := top 4
theorem sc_coprime_lists : FnScope ["k", "m", "found", "prime", "block"] ["k", "m"] (defScope st_coprime_lists) := ⟨rfl, rfl, rfl, by decide +kernel, rfl, by decide +kernel, by decide +kernel⟩
def spGcd (K : PySem.W.Frag) : Sp := fun vs H Q _ => ∃ (p : Addr) (ns : List Int), vs = [.ref p] ∧ SqL K H p (ns.map V.int) ∧ Q (.int (gcdL ns : Nat)) H
theorem gcdL_take {ns : List Int} {i : Nat} {z : Int} (h : ns[i]? = some z) : gcdL (ns.take (i + 1)) = Nat.gcd z.natAbs (gcdL (ns.take i)) := by
  unfold gcdL
  have hi : i < ns.length := (List.getElem?_eq_some_iff.mp h).1
  have e : ns.take (i + 1) = ns.take i ++ [z] := by
    rw [List.take_succ, h]
    rfl
  rw [e, List.foldl_append]
  rfl
theorem ok_gcd (B : Bi mg) (F : FnP K "_law_gcd" st_l_gcd f fd) : FnOk P w K mg base CX0 1 f fd ["some"] (spGcd K) := by
  refine F.ok sc_l_gcd (fun vs H Q E h => ?_) (fun cdv A outer s H vs Q E hr h => ?_)
  · obtain ⟨p, ns, rfl, _⟩ := h
    rfl
  · obtain ⟨p, ns, rfl, hS, k⟩ := h
    have G := B
    refine ⟨_, PSs.nox ((pss_cons (ps_set (i := 1) sc_l_gcd.nd rfl (Or.inl rfl) pe_int)
      (pss_cons (ps_for PassesOwn.never rfl (pi_list (pv 0)) (pg_name (i := 2) sc_l_gcd.nd rfl (Or.inl rfl))
        (pss_cons (ps_par rfl sc_l_gcd.nd rfl rfl (by decide) rfl rfl (pa_cons (pe_callB callAbs (by rfl) G.abs (by decide +kernel) (pa_cons (pv 2) pa_nil)) (pa_cons (pv 1) pa_nil)) (by rfl) (i := 3) (j := 4))
        (pss_cons (ps_while PassesOwn.never (pt_cmpR op_gt (pv 4) pe_int (nomark _))
          (pss_cons (ps_set (i := 5) sc_l_gcd.nd rfl (Or.inl rfl) (pe_op op_mod (pe_callTy call_intI (by rfl) G.int (by decide +kernel) (pa_cons (pv 3) pa_nil)) (pv 4)))
          (pss_one (ps_par rfl sc_l_gcd.nd rfl rfl (by decide) rfl rfl (pa_cons (pv 4) (pa_cons (pv 5) pa_nil)) (by rfl) (i := 3) (j := 4)))))
        (pss_one (ps_set (i := 1) sc_l_gcd.nd rfl (Or.inl rfl) (pv 3))))))
      (pss_one (ps_ret (pv 1)))))), ?_⟩
    try dsimp only [cxOf]
    walk_at "go"
    refine w_forL hS (fun i σ H' => H' = H ∧ ∃ u v z t : Option V, σ = [some (.ref p), some (.int (gcdL (ns.take i) : Nat)), u, v, z, t]) ⟨rfl, none, none, none, none, rfl⟩ (fun i σ H' _ ⟨e, _⟩ => by rw [e]; exact hS) ?_ ?_
    · rintro i y σ H' hi ⟨rfl, u, v, z, t, rfl⟩
      obtain ⟨a, rfl, ha⟩ := int_at hi
      have eab : (if a < 0 then -a else a) = (a.natAbs : Int) := by
        by_cases h : a < 0
        · rw [if_pos h]; omega
        · rw [if_neg h]; omega
      walk_at "go"
      rw [eab]
      walk_at "go"
      refine x_while (fun m σ H'' => H'' = H' ∧ ∃ (l r : Nat) (t : Option V), m = r ∧ σ = [some (.ref p), some (.int (gcdL (ns.take i) : Nat)), some (.int a), some (.int (l : Nat)), some (.int (r : Nat)), t] ∧ Nat.gcd l r = gcdL (ns.take (i + 1))) (gcdL (ns.take i)) ⟨rfl, a.natAbs, gcdL (ns.take i), t, rfl, rfl, by rw [gcdL_take ha]⟩ ?_
      rintro m σ H'' ⟨rfl, l, r, t, rfl, rfl, hg⟩
      walk_at "go"
      refine x_iteD (fun hm => ?_) (fun hm => ?_)
      · refine x_turn ?_
        walk_at "go"
        have e1 : (l : Int) % (m : Int) = ((l % m : Nat) : Int) := rfl
        rw [e1]
        refine ⟨l % m, Nat.mod_lt _ (by omega), rfl, m, l % m, _, rfl, rfl, ?_⟩
        rw [← hg, Nat.gcd_comm l m, Nat.gcd_rec m l, Nat.gcd_comm]
      · walk_at "go"
        have e0 : m = 0 := by omega
        subst e0
        rw [Nat.gcd_zero_right] at hg
        rw [hg]
        exact ⟨rfl, _, _, _, _, rfl⟩
    · rintro σ H' ⟨rfl, u, v, z, t, rfl⟩
      rw [List.length_map, List.take_length]
      walk_at "go"
      exact k
def spLPow : Sp := fun vs H Q _ => ∃ (n e : Nat), vs = [.int n, .int e] ∧ n < 4611686018427387904 ∧ e < 4611686018427387904 ∧ Q (.int ((n ^ e : Nat) : Int)) H
theorem ok_lpow (B : Bi mg) (F : FnP K "_law_power" st_l_power f fd) : FnOk P w K mg base CX0 1 f fd ["base", "reps"] spLPow := by
  refine F.ok sc_l_power (fun vs H Q E h => ?_) (fun cdv A outer s H vs Q E hr h => ?_)
  · obtain ⟨n, e, rfl, _⟩ := h
    rfl
  · obtain ⟨n, e, rfl, hn, he, k⟩ := h
    have G := B
    refine ⟨_, PSs.nox ((pss_cons (ps_set (i := 2) sc_l_power.nd rfl (Or.inl rfl) pe_int)
      (pss_cons (ps_for PassesOwn.never rfl (pi_range1 (by rfl) G.range (pa_cons (pv 1) pa_nil)) (pg_name (i := 3) sc_l_power.nd rfl (Or.inl rfl))
        (pss_one (ps_set (i := 2) sc_l_power.nd rfl (Or.inl rfl) (pe_op op_mul (pv 2) (pv 0)))))
      (pss_one (ps_ret (pv 2)))))), ?_⟩
    try dsimp only [cxOf]
    walk_at "go"
    refine w_forR1 (by omega) (by omega) (fun i σ H' => H' = H ∧ ∃ u : Option V, σ = [some (.int n), some (.int e), some (.int ((n ^ i : Nat) : Int)), u]) ⟨rfl, none, rfl⟩ ?_ ?_
    · rintro i σ H' hi ⟨rfl, u, rfl⟩
      walk_at "go"
      exact ⟨rfl, _, by rw [Nat.pow_succ, Int.natCast_mul]; rfl⟩
    · rintro σ H' ⟨rfl, u, rfl⟩
      walk_at "go"
      exact k
def spLCop : Sp := fun vs H Q _ => ∃ (reps mm : Nat), vs = [.int reps, .int mm] ∧ reps ≤ 6 ∧ 1 ≤ mm ∧ mm ≤ 1000 ∧ Q (.int (copL reps mm : Nat)) H
theorem ok_lcop (B : Bi mg) (c_l_power : C8.Cal P w K mg base 1 "_law_power" spLPow []) (F : FnP K "_law_coprime" st_l_coprime f fd) : FnOk P w K mg base CX0 2 f fd ["reps", "mm"] spLCop := by
  refine F.ok sc_l_coprime (fun vs H Q E h => ?_) (fun cdv A outer s H vs Q E hr h => ?_)
  · obtain ⟨n, e, rfl, _⟩ := h
    rfl
  · obtain ⟨reps, mm, rfl, hn, he, he2, k⟩ := h
    have G := B
    refine ⟨_, PSs.nox ((pss_cons (ps_par rfl sc_l_coprime.nd rfl rfl (by decide) rfl rfl (pa_cons pe_int (pa_cons (pv 1) pa_nil)) (by rfl) (i := 2) (j := 3))
      (pss_cons (ps_for PassesOwn.never rfl (pi_range2 (by rfl) G.range (pa_cons pe_int (pa_cons (pe_op op_add (pv 1) pe_int) pa_nil))) (pg_name (i := 4) sc_l_coprime.nd rfl (Or.inl rfl))
        (pss_one (ps_if (pt_cmpR op_eq (pe_op op_mod (pe_callTy call_intI (by rfl) G.int (by decide +kernel) (pa_cons (pv 3) pa_nil)) (pv 4)) pe_int (nomark _))
          (pss_cons (ps_set (i := 5) sc_l_coprime.nd rfl (Or.inl rfl) pe_int)
          (pss_cons (ps_while PassesOwn.never (pt_cmpR op_eq (pe_op op_mod (pe_callTy call_intI (by rfl) G.int (by decide +kernel) (pa_cons (pv 3) pa_nil)) (pv 4)) pe_int (nomark _))
            (pss_cons (ps_set (i := 3) sc_l_coprime.nd rfl (Or.inl rfl) (pe_op op_fdiv (pv 3) (pv 4)))
            (pss_one (ps_set (i := 5) sc_l_coprime.nd rfl (Or.inl rfl) (pe_op op_mul (pv 5) (pv 4))))))
          (pss_one (ps_set (i := 2) sc_l_coprime.nd rfl (Or.inl rfl) (pe_op op_mul (pe_op op_mul (pv 2) (C8.pe_c c_l_power hr (by decide) rfl (pa_cons (pe_op op_fdiv (pv 5) (pv 4)) (pa_cons (pv 0) pa_nil)))) (pe_op op_sub (C8.pe_c c_l_power hr (by decide) rfl (pa_cons (pv 4) (pa_cons (pv 0) pa_nil))) pe_int))))))
          pss_nil)))
      (pss_one (ps_ret (pv 2)))))), ?_⟩
    try dsimp only [cxOf]
    walk_at "go"
    refine w_forR2 (by omega) (fun i σ H' => H' = H ∧ ∃ u v : Option V, σ = [some (.int reps), some (.int mm), some (.int ((copSt reps mm i).1 : Nat)), some (.int ((copSt reps mm i).2 : Nat)), u, v] ∧ 1 ≤ (copSt reps mm i).2 ∧ (copSt reps mm i).2 ≤ mm) ⟨rfl, none, none, rfl, he, Nat.le_refl _⟩ ?_ ?_
    · rintro i σ H' hi ⟨rfl, u, v, rfl, hl1, hl2⟩
      rw [copSt_succ]
      generalize copSt reps mm i = st at hl1 hl2 ⊢
      obtain ⟨wo, le⟩ := st
      have ep : (2 : Int) + (i : Int) = ((2 + i : Nat) : Int) := by omega
      walk_at "go"
      rw [ep]
      generalize hp : 2 + i = pr at ep ⊢
      have hp2 : 2 ≤ pr := by omega
      have hp3 : pr ≤ mm := by omega
      have e1 : (le : Int) % (pr : Int) = ((le % pr : Nat) : Int) := rfl
      walk_at "go"
      have es : copStep reps (wo, le) pr = if le % pr = 0 then (wo * ((strip le le pr 1).2 / pr) ^ reps * (pr ^ reps - 1), (strip le le pr 1).1) else (wo, le) := rfl
      refine x_iteD (fun hd => ?_) (fun hd => ?_)
      · have hd' : le % pr = 0 := by
          have hd2 : ((le % pr : Nat) : Int) = 0 := hd
          omega
        rw [if_pos hd'] at es
        rw [es]
        walk_at "go"
        refine x_while (fun j σ H'' => H'' = H' ∧ ∃ (l s : Nat), σ = [some (.int reps), some (.int mm), some (.int (wo : Nat)), some (.int (l : Nat)), some (.int (pr : Nat)), some (.int (s : Nat))] ∧ strip j l pr s = strip le le pr 1 ∧ l ≤ j ∧ 1 ≤ l) le ⟨rfl, le, 1, rfl, rfl, Nat.le_refl _, hl1⟩ ?_
        rintro j σ H'' ⟨rfl, l, s, rfl, hst, hlj, hm1⟩
        obtain ⟨j, rfl⟩ : ∃ j', j = j' + 1 := ⟨j - 1, by omega⟩
        have hst : (if l % pr = 0 then strip j (l / pr) pr (s * pr) else (l, s)) = strip le le pr 1 := hst
        have el : (l : Int) % (pr : Int) = ((l % pr : Nat) : Int) := rfl
        have ed : (l : Int) / (pr : Int) = ((l / pr : Nat) : Int) := rfl
        walk_at "go"
        rw [el]
        refine x_iteD (fun hz => ?_) (fun hz => ?_)
        · have hz : l % pr = 0 := by omega
          rw [if_pos hz] at hst
          refine x_turn ?_
          walk_at "go"
          rw [ed]
          have q1 : l / pr < l := Nat.div_lt_self hm1 (by omega)
          have q2 : 1 ≤ l / pr := by
            have := Nat.div_add_mod l pr
            rcases Nat.eq_zero_or_pos (l / pr) with q | q
            · rw [q, hz] at this; omega
            · exact q
          exact ⟨j, Nat.lt_succ_self _, rfl, l / pr, s * pr, by rw [Int.natCast_mul]; rfl, hst, by omega, q2⟩
        · have hz : ¬ l % pr = 0 := by omega
          rw [if_neg hz] at hst
          have q1 := strip_pos (f := le) (l := le) (p := pr) (s := 1) hp2 hl1 (Nat.le_refl _)
          have q2 := strip_le (f := le) (l := le) (p := pr) hp2 hl1 (Nat.le_refl _)
          rw [← hst] at q1 q2 ⊢
          have ed : (s : Int) / (pr : Int) = ((s / pr : Nat) : Int) := rfl
          have q3 : s / pr ≤ 1000 := Nat.le_trans (Nat.div_le_self _ _) (by omega)
          have b1 : (s / pr) ^ reps ≤ 1000000000000000000 := pw_le q3 hn
          have b2 : pr ^ reps ≤ 1000000000000000000 := pw_le (by omega) hn
          have b3 : 1 ≤ pr ^ reps := Nat.pow_pos (by omega)
          walk_at "go"
          refine ⟨s / pr, reps, rfl, by omega, by omega, ?_⟩
          walk_at "go"
          refine ⟨pr, reps, rfl, by omega, by omega, ?_⟩
          walk_at "go"
          have e5 : (wo : Int) * (((s / pr) ^ reps : Nat) : Int) * ((((pr ^ reps : Nat) : Int)) - 1) = ((wo * (s / pr) ^ reps * (pr ^ reps - 1) : Nat) : Int) := by
            rw [Int.natCast_mul, Int.natCast_mul, Int.natCast_sub b3]
            rfl
          rw [e5]
          exact ⟨rfl, _, _, rfl, q1.1, by omega⟩
      · have hd' : ¬ le % pr = 0 := by
          intro z
          exact hd (show ((le % pr : Nat) : Int) = 0 by omega)
        rw [if_neg hd'] at es
        rw [es]
        walk_at "go"
        exact ⟨rfl, _, _, rfl, hl1, hl2⟩
    · rintro σ H' ⟨rfl, u, v, rfl, _⟩
      have e : ((mm : Int) + 1 - 2).toNat = mm - 1 := by omega
      rw [e]
      walk_at "go"
      exact k
def spListed : Sp := fun vs H Q _ => ∃ (many mm : Nat), vs = [.int many, .int mm] ∧ many ≤ 6 ∧ 1 ≤ mm ∧ mm ^ many ≤ 1000 ∧ ∀ H', Same H H' → Q (.int (lstN many mm : Nat)) H'
theorem ok_listed (B : Bi mg) (c_l_gcd : C8.Cal P w K mg base 1 "_law_gcd" (spGcd K) []) (F : FnP K "_law_listed" st_l_listed f fd) : FnOk P w K mg base CX0 2 f fd ["many", "mm"] spListed := by
  refine F.ok sc_l_listed (fun vs H Q E h => ?_) (fun cdv A outer s H vs Q E hr h => ?_)
  · obtain ⟨n, e, rfl, _⟩ := h
    rfl
  · obtain ⟨many, mm, rfl, hn, he, he2, k⟩ := h
    have G := B
    refine ⟨_, PSs.nox ((pss_cons (ps_set (i := 2) sc_l_listed.nd rfl (Or.inl rfl) (pe_lst (pa_cons (pv 1) pa_nil)))
      (pss_cons (ps_for PassesOwn.never rfl (pi_range1 (by rfl) G.range (pa_cons (pv 0) pa_nil)) (pg_name (i := 3) sc_l_listed.nd rfl (Or.inl rfl))
        (pss_cons (ps_set (i := 4) sc_l_listed.nd rfl (Or.inl rfl) (pe_lst pa_nil))
        (pss_cons (ps_for PassesOwn.never rfl (pi_list (pe_callTy callListS (by rfl) G.list (by decide +kernel) (pa_cons (pv 2) pa_nil))) (pg_name (i := 5) sc_l_listed.nd rfl (Or.inr rfl))
          (pss_one (ps_expr (pe_bm PySem.F.plainAttrs_list PySem.F.slot_list_extend PySem.F.type_list_extend mt_extend (pv 4) (pa_cons (pe_lc (own := [("worth", 6)]) rfl sc_l_listed.nd (pi_range1 (by rfl) G.range (pa_cons (pv 1) pa_nil)) (blkOk_by (own := [("worth", 6)]) (N := ["many", "mm", "found", "lap", "longer", "one", "worth"]) (sc := defScope st_l_listed) (by decide +kernel)) (fun _ _ _ _ _ => (pg_name (i := 6) sc_l_listed.nd rfl (Or.inl rfl))) (fun _ _ _ _ _ => pts_nil) (fun _ _ _ _ _ => (C8.pe_c c_l_gcd hr (by decide) rfl (pa_cons (pe_lst (pa_cons (pv 5) (pa_cons (pv 6) pa_nil))) pa_nil)))) pa_nil)))))
        (pss_one (ps_set (i := 2) sc_l_listed.nd rfl (Or.inl rfl) (pv 4))))))
      (pss_one (ps_ret (pe_callB callLenS (by rfl) G.len PySem.boot_len (pa_cons (pe_lc (own := [("one", 5)]) rfl sc_l_listed.nd (pi_list (pv 2)) (blkOk_by (own := [("one", 5)]) (N := ["many", "mm", "found", "lap", "longer", "one", "worth"]) (sc := defScope st_l_listed) (by decide +kernel)) (fun _ _ _ _ _ => (pg_name (i := 5) sc_l_listed.nd rfl (Or.inl rfl))) (fun _ _ _ _ _ => (pts_one (pt_cmpR op_eq (pv 5) pe_int (nomark _)))) (fun _ _ _ _ _ => (pv 5))) pa_nil))))))), ?_⟩
    try dsimp only [cxOf]
    walk_at "go"
    refine ⟨by show 1 ≤ sizeLine; decide, fun p0 hp0 => ?_⟩
    walk_at "go"
    refine w_forR1 (by omega) (by omega) (fun i σ H' => Same H H' ∧ ∃ (p : Addr) (a b c d : Option V), σ = [some (.int many), some (.int mm), some (.ref p), a, b, c, d] ∧ H' p = some (.lst ((lst mm i).map fun z => V.int (z : Nat)))) ⟨Same.new hp0, p0, none, none, none, none, rfl, upd_same⟩ ?_ ?_
    · rintro i σ H1 hi ⟨s1, p, a, b, c, d, rfl, hp⟩
      have hlen : (lst mm i).length ≤ 1000 := by
        rw [lst_len]
        exact Nat.le_trans (Nat.pow_le_pow_right he (by omega)) he2
      have hlen2 : (lst mm i).length * mm ≤ 1000 := by
        rw [lst_len, ← Nat.pow_succ]
        exact Nat.le_trans (Nat.pow_le_pow_right he (by omega)) he2
      have hmm : mm ≤ 1000 := by
        have : 1 ≤ (lst mm i).length := by rw [lst_len]; exact Nat.pow_pos he
        calc mm = 1 * mm := (Nat.one_mul _).symm
          _ ≤ (lst mm i).length * mm := Nat.mul_le_mul_right _ this
          _ ≤ 1000 := hlen2
      walk_at "go"
      refine ⟨Nat.zero_le _, fun q hq => ?_⟩
      walk_at "go"
      refine x_listL (SqL.of (upd_old hq hp)) fun cp hcp => ?_
      refine w_forL (xs := (lst mm i).map fun z => V.int (z : Nat)) (SqL.of upd_same) (fun j σ H' => Same H1 H' ∧ ∃ (c d : Option V), σ = [some (.int many), some (.int mm), some (.ref p), some (.int (0 + (i : Nat))), some (.ref q), c, d] ∧
        H' cp = some (.lst ((lst mm i).map fun z => V.int (z : Nat))) ∧ H' q = some (.lst ((((lst mm i).take j).flatMap fun one => (List.range mm).map fun z => Nat.gcd z one).map fun z => V.int (z : Nat))) ∧ (((lst mm i).take j).flatMap fun one => (List.range mm).map fun z => Nat.gcd z one).length = j * mm)
        ⟨Same.trans (Same.new hq) (Same.new hcp), _, _, rfl, upd_same, upd_old hcp upd_same, by simp⟩ (fun j σ H' _ ⟨_, _, _, _, h, _⟩ => SqL.of h) ?_ ?_
      · rintro j y σ H2 hj ⟨s2, c', d', rfl, hcp2, hq2, hlq⟩
        obtain ⟨one, rfl, hone⟩ := nat_at hj
        have hjl : j < (lst mm i).length := (List.getElem?_eq_some_iff.mp hone).1
        have hjm : (j + 1) * mm ≤ 1000 := Nat.le_trans (Nat.mul_le_mul_right _ (by omega)) hlen2
        walk_at "go"
        refine w_lcR1 (by omega) (by omega) (Nat.lt_of_le_of_lt (show _ ≤ 1000 by omega) (by decide)) (fun k acc => acc = (List.range k).map fun z => V.int ((Nat.gcd z one : Nat) : Int)) rfl ?_ ?_
        · rintro k H3 acc hk s3 rfl hak R S hR hS
          walk_at "go"
          refine ⟨rfl, ?_⟩
          walk_at "go"
          refine ⟨by show 2 ≤ sizeLine; decide, fun r hr => ?_⟩
          walk_at "go"
          refine ⟨r, [(one : Int), (0 : Int) + (k : Nat)], rfl, SqL.of upd_same, ?_⟩
          refine hR _ _ (Same.new hr) ?_
          rw [List.range_succ, List.map_append]
          have eg : gcdL [(one : Int), (0 : Int) + (k : Nat)] = Nat.gcd k one := by
            unfold gcdL
            show Nat.gcd ((0 : Int) + (k : Nat)).natAbs (Nat.gcd (one : Int).natAbs 0) = Nat.gcd k one
            rw [Nat.gcd_zero_right, Int.natAbs_natCast, Int.zero_add, Int.natAbs_natCast]
          rw [eg]
          rfl
        · rintro r H3 acc hr s3 hr3 rfl
          walk_at "go"
          have hq3 : H3 q = _ := s3 _ _ hq2
          have ea : ((List.range ((mm : Int).toNat)).map fun z => V.int ((Nat.gcd z one : Nat) : Int)) = ((List.range mm).map fun z => Nat.gcd z one).map fun z => V.int (z : Nat) := by
            rw [List.map_map]
            rfl
          rw [ea] at hr3
          have htk : (lst mm i).take (j + 1) = (lst mm i).take j ++ [one] := by
            rw [List.take_succ, hone]
            rfl
          have ncq : cp ≠ q := fun e => by rw [e, upd_same] at hcp; cases hcp
          refine x_extend hq3 hr3 ?_ ?_
          · rw [List.length_map, hlq, List.length_map, List.length_map, List.length_range]
            exact Nat.le_trans (show _ ≤ 1000 by rw [Nat.add_mul, Nat.one_mul] at hjm; omega) (by decide)
          · walk_at "go"
            refine ⟨Same.mut (Same.trans s2 s3) hq, _, _, rfl, ?_, ?_, ?_⟩
            · rw [upd_ne ncq]
              exact s3 _ _ hcp2
            · rw [upd_same, htk, List.flatMap_append, List.map_append, List.flatMap_singleton]
            · rw [htk, List.flatMap_append, List.length_append, hlq, List.flatMap_singleton, List.length_map, List.length_range, Nat.add_mul, Nat.one_mul]
      · rintro σ H2 ⟨s2, c', d', rfl, hcp2, hq2, hlq⟩
        walk_at "go"
        rw [List.length_map, List.take_length] at hq2
        exact ⟨Same.trans s1 s2, q, _, _, _, _, rfl, hq2⟩
    · rintro σ H1 ⟨s1, p, a, b, c, d, rfl, hp⟩
      have hp : H1 p = some (.lst ((lst mm many).map fun z => V.int (z : Nat))) := hp
      walk_at "go"
      refine w_lcL (SqL.of hp) ?_ (fun k acc => acc = (((lst mm many).take k).filter fun one => decide (one = 1)).map fun z => V.int (z : Nat)) rfl ?_ ?_
      · rw [List.length_map, lst_len]
        exact Nat.lt_of_le_of_lt he2 (by decide)
      · rintro j y H2 acc hj s2 rfl hak R S hR hS
        obtain ⟨one, rfl, hone⟩ := nat_at hj
        have htk : (lst mm many).take (j + 1) = (lst mm many).take j ++ [one] := by
          rw [List.take_succ, hone]
          rfl
        walk_at "go"
        refine ⟨rfl, ?_⟩
        walk_at "go"
        refine x_iteD (fun h => ?_) (fun h => ?_)
        · walk_at "go"
          have h' : one = 1 := by omega
          refine hR _ _ (Same.refl _) ?_
          rw [htk, List.filter_append, List.map_append, List.filter_cons_of_pos (by simp [h'])]
          rfl
        · have h' : ¬ one = 1 := by omega
          refine hS _ (Same.refl _) ?_
          rw [htk, List.filter_append, List.map_append, List.filter_cons_of_neg (by simp [h'])]
          rw [List.filter_nil, List.map_nil, List.append_nil]
      · rintro q H2 acc hq s2 hq2 rfl
        walk_at "go"
        rw [List.length_map, List.length_map, List.take_length]
        exact k _ (Same.trans s1 s2)
def spDue : Sp := fun vs H Q _ => ∃ (many mm : Nat), vs = [.int many, .int mm] ∧ many ≤ 6 ∧ 1 ≤ mm ∧ mm ≤ 1000 ∧ ∀ H', Same H H' → Q (.int (due many mm : Nat)) H'
theorem ok_due (B : Bi mg) (c_l_power : C8.Cal P w K mg base 1 "_law_power" spLPow []) (c_l_listed : C8.Cal P w K mg base 2 "_law_listed" spListed []) (c_l_coprime : C8.Cal P w K mg base 2 "_law_coprime" spLCop []) (F : FnP K "_law_due" st_l_due f fd) : FnOk P w K mg base CX0 3 f fd ["many", "mm"] spDue := by
  refine F.ok sc_l_due (fun vs H Q E h => ?_) (fun cdv A outer s H vs Q E hr h => ?_)
  · obtain ⟨n, e, rfl, _⟩ := h
    rfl
  · obtain ⟨many, mm, rfl, hn, he, he2, k⟩ := h
    have G := B
    refine ⟨_, PSs.nox ((pss_one (ps_ret (pe_ifExp (pt_cmpR op_le (C8.pe_c c_l_power hr (by decide) rfl (pa_cons (pv 1) (pa_cons (pv 0) pa_nil))) pe_int (nomark _)) (C8.pe_c c_l_listed hr (by decide) rfl (pa_cons (pv 0) (pa_cons (pv 1) pa_nil))) (C8.pe_c c_l_coprime hr (by decide) rfl (pa_cons (pv 0) (pa_cons (pv 1) pa_nil))))))), ?_⟩
    try dsimp only [cxOf]
    walk_at "go"
    refine ⟨mm, many, rfl, by omega, by omega, ?_⟩
    walk_at "go"
    unfold due at k
    refine x_iteD (fun h => ?_) (fun h => ?_)
    · rw [if_pos (by omega)] at k
      walk_at "go"
      exact ⟨many, mm, rfl, hn, he, by omega, k⟩
    · rw [if_neg (by omega)] at k
      walk_at "go"
      exact ⟨many, mm, rfl, hn, he, he2, k _ (Same.refl _)⟩
def spCop : Sp := fun vs H Q _ => ∃ (k m : Nat), vs = [.int k, .int m] ∧ k ≤ 6 ∧ 1 ≤ m ∧ m ≤ 360 ∧ ∀ H', Same H H' → Q (.int (cop k m : Nat)) H'
theorem ok_cop (B : Bi mg) (c_power : C8.Cal P w K mg base 1 "power" spPower []) (c_prime_factors : C8.Cal P w K mg base 1 "prime_factors" spPf []) (F : FnP K "coprime_lists" st_coprime_lists f fd) : FnOk P w K mg base CX0 2 f fd ["k", "m"] spCop := by
  refine F.ok sc_coprime_lists (fun vs H Q E h => ?_) (fun cdv A outer s H vs Q E hr h => ?_)
  · obtain ⟨n, e, rfl, _⟩ := h
    rfl
  · obtain ⟨k, m, rfl, hn, he, he2, kk⟩ := h
    have G := B
    refine ⟨_, PSs.nox ((pss_cons (ps_set (i := 2) sc_coprime_lists.nd rfl (Or.inl rfl) (C8.pe_c c_power hr (by decide) rfl (pa_cons (pv 1) (pa_cons (pv 0) pa_nil))))
      (pss_cons (ps_for PassesOwn.never rfl (pi_list (C8.pe_c c_prime_factors hr (by decide) rfl (pa_cons (pv 1) pa_nil))) (pg_name (i := 3) sc_coprime_lists.nd rfl (Or.inl rfl))
        (pss_cons (ps_set (i := 4) sc_coprime_lists.nd rfl (Or.inl rfl) (C8.pe_c c_power hr (by decide) rfl (pa_cons (pv 3) (pa_cons (pv 0) pa_nil))))
        (pss_one (ps_set (i := 2) sc_coprime_lists.nd rfl (Or.inl rfl) (pe_op op_mul (pe_op op_fdivW (pv 2) (pv 4)) (pe_op op_sub (pv 4) pe_int))))))
      (pss_one (ps_ret (pv 2)))))), ?_⟩
    try dsimp only [cxOf]
    walk_at "go"
    refine ⟨m, k, rfl, he, by omega, hn, ?_⟩
    walk_at "go"
    refine ⟨m, rfl, he, by omega, fun p hp => ?_⟩
    refine w_forL (SqL.of upd_same) (fun i σ H' => H' = upd H p (.lst ((pfacs m).map fun z => V.int (z : Nat))) ∧ ∃ a b : Option V, σ = [some (.int k), some (.int m), some (.int (((pfacs m).take i).foldl (fun f p => f / p ^ k * (p ^ k - 1)) (m ^ k) : Nat)), a, b]) ⟨rfl, none, none, rfl⟩ (fun i σ H' _ ⟨e, _⟩ => by rw [e]; exact SqL.of upd_same) ?_ ?_
    · rintro i y σ H' hi ⟨rfl, a, b, rfl⟩
      obtain ⟨q, rfl, hq⟩ := nat_at hi
      have hq2 := pfacs_ok m he he2 q (List.mem_of_getElem? hq)
      have htk : (pfacs m).take (i + 1) = (pfacs m).take i ++ [q] := by
        rw [List.take_succ, hq]
        rfl
      rw [htk, List.foldl_append]
      generalize ((pfacs m).take i).foldl (fun f p => f / p ^ k * (p ^ k - 1)) (m ^ k) = w0
      walk_at "go"
      refine ⟨q, k, rfl, by omega, by omega, hn, ?_⟩
      have b1 : q ^ k ≤ 1000000000000000000 := pw_le (by omega) hn
      have b2 : 1 ≤ q ^ k := Nat.pow_pos (by omega)
      walk_at "go"
      refine x_rI (wide_div (b := 64) (by omega) (by omega) (by decide) (by decide)) ?_
      walk_at "go"
      refine ⟨rfl, some (.int (q : Nat)), some (.int ((q ^ k : Nat) : Int)), ?_⟩
      have e5 : ((w0 : Int) / ((q ^ k : Nat) : Int)) * (((q ^ k : Nat) : Int) - 1) = ((w0 / q ^ k * (q ^ k - 1) : Nat) : Int) := by
        rw [Int.natCast_mul, Int.natCast_sub b2]
        rfl
      rw [e5]
      rfl
    · rintro σ H' ⟨rfl, a, b, rfl⟩
      rw [List.length_map, List.take_length]
      walk_at "go"
      exact kk _ (Same.new hp)
abbrev st_law : Stmt := top 14
theorem sc_law : FnScope ["script", "bag", "lap", "many", "base", "told", "other"] ["script"] (defScope st_law) := ⟨rfl, rfl, rfl, by decide +kernel, rfl, by decide +kernel, by decide +kernel⟩
def spLaw (K : PySem.W.Frag) : Sp := fun vs H Q _ => ∃ (a : Addr) (ns : List Int), vs = [.ref a] ∧ SqL K H a (ns.map V.int) ∧ ns.length ≤ 63 ∧ ∀ H', Q (.bl true) H'
theorem ok_law (B : Bi mg) (c_l_bag : C8.Cal P w K mg base 1 "_law_bag" (spBag K) []) (c_l_draw : C8.Cal P w K mg base 1 "_law_draw" spDraw []) (c_l_of : C8.Cal P w K mg base 2 "_law_of" spOf []) (c_coprime_lists : C8.Cal P w K mg base 2 "coprime_lists" spCop []) (c_l_due : C8.Cal P w K mg base 3 "_law_due" spDue [])
    (c_l_gcd : C8.Cal P w K mg base 1 "_law_gcd" (spGcd K) []) (c_coprime_lists_mk : CalN P w K mg base 2 "coprime_lists" spCop 0 ["m", "k"] fun _ zs => zs.reverse)
    (F : FnP K "law" st_law f fd) : FnOk P w K mg base CX0 4 f fd ["script"] (spLaw K) := by
  refine F.ok sc_law (fun vs H Q E h => ?_) (fun cdv A outer s H vs Q E hr h => ?_)
  · obtain ⟨a, ns, rfl, _⟩ := h
    rfl
  · obtain ⟨a, ns, rfl, hS, hl, k⟩ := h
    have G := B
    refine ⟨_, PSs.nox ((pss_cons (ps_set (i := 1) sc_law.nd rfl (Or.inl rfl) (C8.pe_c c_l_bag hr (by decide) rfl (pa_cons (pv 0) pa_nil)))
      (pss_cons (ps_for PassesOwn.never rfl (pi_range1 (by rfl) G.range (pa_cons pe_int pa_nil)) (pg_name (i := 2) sc_law.nd rfl (Or.inl rfl))
        (pss_cons (ps_par rfl sc_law.nd rfl rfl (by decide) rfl rfl (pa_cons (C8.pe_c c_l_of hr (by decide) rfl (pa_cons (pv 1) (pa_cons (pe_lst (pa_cons pe_int (pa_cons pe_int (pa_cons pe_int (pa_cons pe_int (pa_cons pe_int (pa_cons pe_int (pa_cons pe_int (pa_cons pe_int pa_nil))))))))) pa_nil))) (pa_cons (pe_op op_add pe_int (C8.pe_c c_l_draw hr (by decide) rfl (pa_cons (pv 1) (pa_cons pe_int pa_nil)))) pa_nil)) (by rfl) (i := 3) (j := 4))
        (C8.pss_cut (ps_set (i := 5) sc_law.nd rfl (Or.inl rfl) (pe_ifExp (pt_cmpR op_eq (C8.pe_c c_l_draw hr (by decide) rfl (pa_cons (pv 1) (pa_cons pe_int pa_nil))) pe_int (nomark _)) (pe_cN0 c_coprime_lists_mk hr (by decide) rfl (pk_cons (pv 4) (pk_cons (pv 3) pk_nil))) (C8.pe_c c_coprime_lists hr (by decide) rfl (pa_cons (pv 3) (pa_cons (pv 4) pa_nil)))))
        (pss_cons (ps_if (PW.pt (pw_or (pt_not (pt_val (pe_callB call_isi (by rfl) G.isinstance (by decide +kernel) (pa_cons (pv 5) (pa_cons (pe_bltn (v := .ty "int") (u := .type "int") (by rfl) G.int (by decide +kernel) rfl) pa_nil))))) (pw_or (pt_val (pe_callB call_isi (by rfl) G.isinstance (by decide +kernel) (pa_cons (pv 5) (pa_cons (pe_bltn (v := .ty "bool") (u := .type "bool") (by rfl) G.bool (by decide +kernel) rfl) pa_nil)))) (pw_or1 (pt_cmpR op_ne (pv 5) (C8.pe_c c_l_due hr (by decide) rfl (pa_cons (pv 3) (pa_cons (pv 4) pa_nil))) (nomark _))))))
          (pss_one (ps_ret pe_bl))
          pss_nil)
        (pss_cons (ps_set (i := 6) sc_law.nd rfl (Or.inl rfl) (pe_op op_add pe_int (C8.pe_c c_l_draw hr (by decide) rfl (pa_cons (pv 1) (pa_cons pe_int pa_nil)))))
        (pss_one (ps_if (PW.pt (pw_and (pt_cmpR op_eq (C8.pe_c c_l_gcd hr (by decide) rfl (pa_cons (pe_lst (pa_cons (pv 4) (pa_cons (pv 6) pa_nil))) pa_nil)) pe_int (nomark _)) (pw_and1 (pt_cmpR op_ne (C8.pe_c c_coprime_lists hr (by decide) rfl (pa_cons (pv 3) (pa_cons (pe_op op_mul (pv 4) (pv 6)) pa_nil))) (pe_op op_mul (C8.pe_c c_l_due hr (by decide) rfl (pa_cons (pv 3) (pa_cons (pv 4) pa_nil))) (C8.pe_c c_l_due hr (by decide) rfl (pa_cons (pv 3) (pa_cons (pv 6) pa_nil)))) (nomark _)))))
          (pss_one (ps_ret pe_bl))
          pss_nil)))))))
      (pss_one (ps_ret pe_bl))))), ?_⟩
    try dsimp only [cxOf]
    walk_at "go"
    refine ⟨a, ns, rfl, hS, hl, fun b l H0 hb0 hl0 hB0 s0 => ?_⟩
    walk_at "go"
    refine w_forR1 (by omega) (by omega) (fun i σ H' => BagAt H' b l ∧ ∃ u1 u2 u3 u4 u5 : Option V, σ = [some (.ref a), some (.ref b), u1, u2, u3, u4, u5]) ⟨hB0, none, none, none, none, none, rfl⟩ ?_ ?_
    · rintro i σ H1 hi ⟨hB1, u1, u2, u3, u4, u5, rfl⟩
      walk_at "go"
      refine ⟨by show 8 ≤ sizeLine; decide, fun p hp => ?_⟩
      walk_at "go"
      have npb : p ≠ b := fun e => hB1.b_some (by rw [← e]; exact hp)
      refine ⟨b, l, p, ([2, 3, 1, 4, 0, 5, 6, 2] : List Int).map V.int, rfl, hB1.new hp, npb, upd_same, by decide, by decide, fun j v H2 hj hB2 kp2 => ?_⟩
      obtain ⟨z, rfl, hz⟩ := int_at hj
      have hz2 : ∀ y ∈ ([2, 3, 1, 4, 0, 5, 6, 2] : List Int), 0 ≤ y ∧ y ≤ 6 := by decide
      obtain ⟨hz0, hz6⟩ := hz2 z (List.mem_of_getElem? hz)
      obtain ⟨many, rfl⟩ := Int.eq_ofNat_of_zero_le hz0
      have hm6 : many ≤ 6 := by omega
      walk_at "go"
      refine ⟨b, l, 30, rfl, hB2, by decide, by decide, fun r H3 hr0 hr1 hB3 kp3 => ?_⟩
      obtain ⟨rn, rfl⟩ := Int.eq_ofNat_of_zero_le hr0
      walk_at "go"
      have e1 : (1 : Int) + (rn : Int) = ((1 + rn : Nat) : Int) := by omega
      rw [e1]
      have hb1 : 1 ≤ 1 + rn := by omega
      have hb2 : 1 + rn ≤ 30 := by omega
      generalize 1 + rn = m at hb1 hb2
      have km : ((cop many m : Nat) : Int) = ((due many m : Nat) : Int) := by rw [cop_due hm6 hb1 hb2]
      walk_at "go"
      refine x_cut (fun σ H5 => BagAt H5 b l ∧ ∃ u1 u5 : Option V, σ = [some (.ref a), some (.ref b), u1, some (.int many), some (.int m), some (.int (cop many m : Nat)), u5]) ?_ ?_
      · walk_at "go"
        refine ⟨b, l, 2, rfl, hB3, by decide, by decide, fun r2 H4 _ _ hB4 kp4 => ?_⟩
        walk_at "go"
        refine x_iteD (fun _ => ?_) (fun _ => ?_)
        · walk_at "go"
          refine ⟨rfl, rfl, many, m, rfl, hm6, hb1, by omega, fun H5 s5 => ?_⟩
          walk_at "go"
          exact ⟨hB4.same s5, _, _, rfl⟩
        · walk_at "go"
          refine ⟨many, m, rfl, hm6, hb1, by omega, fun H5 s5 => ?_⟩
          walk_at "go"
          exact ⟨hB4.same s5, _, _, rfl⟩
      · rintro σ H5 ⟨hB5, u1, u5, rfl⟩
        walk_at "go"
        refine x_isTy (b := true) (.int _) (kit_ty (by decide +kernel)) ?_
        walk_at "go"
        refine x_isTy (b := false) (.int _) (kit_ty (by decide +kernel)) ?_
        walk_at "go"
        refine ⟨many, m, rfl, hm6, hb1, by omega, fun H6 s6 => ?_⟩
        walk_at "go"
        refine x_iteNDF km ?_
        walk_at "go"
        refine ⟨b, l, 12, rfl, hB5.same s6, by decide, by decide, fun r H7 hr0 hr1 hB7 kp7 => ?_⟩
        obtain ⟨rn, rfl⟩ := Int.eq_ofNat_of_zero_le hr0
        walk_at "go"
        have e1 : (1 : Int) + (rn : Int) = ((1 + rn : Nat) : Int) := by omega
        rw [e1]
        have hc1 : 1 ≤ 1 + rn := by omega
        have hc2 : 1 + rn ≤ 12 := by omega
        generalize 1 + rn = n at hc1 hc2
        walk_at "go"
        refine ⟨by show 2 ≤ sizeLine; decide, fun q hq => ?_⟩
        walk_at "go"
        refine ⟨q, [(m : Int), (n : Int)], rfl, SqL.of upd_same, ?_⟩
        have eg : gcdL [(m : Int), (n : Int)] = Nat.gcd n m := by
          show Nat.gcd (n : Int).natAbs (Nat.gcd (m : Int).natAbs 0) = Nat.gcd n m
          rw [Nat.gcd_zero_right, Int.natAbs_natCast, Int.natAbs_natCast]
        rw [eg]
        have hB8 := hB7.new (o := HO.lst [V.int (m : Int), V.int (n : Int)]) hq
        walk_at "go"
        refine x_iteD (fun hg => ?_) (fun hg => ?_)
        · have hg : Nat.gcd n m = 1 := by omega
          have hd := due_lt hm6 hb1 hb2
          have em : (m : Int) * (n : Int) = ((m * n : Nat) : Int) := (Int.natCast_mul _ _).symm
          have hmn : m * n ≤ 360 := Nat.le_trans (Nat.mul_le_mul hb2 hc2) (by decide)
          have hmn1 : 1 ≤ m * n := Nat.mul_pos hb1 hc1
          walk_at "go"
          rw [em]
          walk_at "go"
          refine ⟨many, m * n, rfl, hm6, hmn1, hmn, fun H9 s9 => ?_⟩
          walk_at "go"
          refine ⟨many, m, rfl, hm6, hb1, by omega, fun H10 s10 => ?_⟩
          walk_at "go"
          refine ⟨many, n, rfl, hm6, hc1, by omega, fun H11 s11 => ?_⟩
          walk_at "go"
          refine x_iteNDF (by rw [← Int.natCast_mul, cop_mul hm6 hb1 hb2 hc1 hc2 hg]) ?_
          walk_at "go"
          exact ⟨hB8.same (Same.trans s9 (Same.trans s10 s11)), _, _, _, _, _, rfl⟩
        · walk_at "go"
          exact ⟨hB8, _, _, _, _, _, rfl⟩
    · rintro σ H1 ⟨hB1, u1, u2, u3, u4, u5, rfl⟩
      walk_at "go"
      exact k _
theorem Vals.reverse {vs : List V} {us : List Value} (r : Vals vs us) : Vals vs.reverse us.reverse := by
  induction r with
  | nil => exact .nil
  | cons a b ih =>
    rw [List.reverse_cons, List.reverse_cons]
    exact Vals.append ih (.cons a .nil)
theorem caln_rev2 {fC : Addr} {fdC : FuncData} (o : FnOk P w K mg base CX0 2 fC fdC ["k", "m"] spCop) (g : mg "coprime_lists" = some (.ref fC)) (F : FnP K "coprime_lists" st_coprime_lists fC fdC) : CalN P w K mg base 2 "coprime_lists" spCop 0 ["m", "k"] (fun _ zs => zs.reverse) := by
  refine ⟨fC, fdC, ["k", "m"], fun _ ws => ws.reverse, o, g, F.kp, ⟨fun s us ws X l1 l2 => ?_, fun _ r => Vals.reverse r⟩⟩
  obtain ⟨oc, od, dV, kV, doc, pm, an, cdv, ct, osl, rfl, lk, hcd, hD, hK⟩ := F.ex
  rcases hD with ⟨_, rfl⟩ | ⟨e, _⟩
  · match us, ws, l1, l2 with
    | [], [_, _], _, _ => exact .of_eq rfl
  · exact absurd rfl e
end
/-! ### the head: facts by names, the run -/
def d_power : He.DefD := ⟨("power", none), "power", "power", defArgs st_power, defBody st_power, defScope st_power, [], []⟩
def d_prime_factors : He.DefD := ⟨("prime_factors", none), "prime_factors", "prime_factors", defArgs st_prime_factors, defBody st_prime_factors, defScope st_prime_factors, [], []⟩
def d_coprime_lists : He.DefD := ⟨("coprime_lists", none), "coprime_lists", "coprime_lists", defArgs st_coprime_lists, defBody st_coprime_lists, defScope st_coprime_lists, [], []⟩
def d_l_bag : He.DefD := ⟨("_law_bag", none), "_law_bag", "_law_bag", defArgs st_l_bag, defBody st_l_bag, defScope st_l_bag, [], []⟩
def d_l_draw : He.DefD := ⟨("_law_draw", none), "_law_draw", "_law_draw", defArgs st_l_draw, defBody st_l_draw, defScope st_l_draw, [], []⟩
def d_l_of : He.DefD := ⟨("_law_of", none), "_law_of", "_law_of", defArgs st_l_of, defBody st_l_of, defScope st_l_of, [], []⟩
def d_l_gcd : He.DefD := ⟨("_law_gcd", none), "_law_gcd", "_law_gcd", defArgs st_l_gcd, defBody st_l_gcd, defScope st_l_gcd, [], []⟩
def d_l_power : He.DefD := ⟨("_law_power", none), "_law_power", "_law_power", defArgs st_l_power, defBody st_l_power, defScope st_l_power, [], []⟩
def d_l_coprime : He.DefD := ⟨("_law_coprime", none), "_law_coprime", "_law_coprime", defArgs st_l_coprime, defBody st_l_coprime, defScope st_l_coprime, [], []⟩
def d_l_listed : He.DefD := ⟨("_law_listed", none), "_law_listed", "_law_listed", defArgs st_l_listed, defBody st_l_listed, defScope st_l_listed, [], []⟩
def d_l_due : He.DefD := ⟨("_law_due", none), "_law_due", "_law_due", defArgs st_l_due, defBody st_l_due, defScope st_l_due, [], []⟩
def d_law : He.DefD := ⟨("law", none), "law", "law", defArgs st_law, defBody st_law, defScope st_law, [], []⟩
def fn : List He.DefD := [d_power, d_prime_factors, d_coprime_lists, d_l_bag, d_l_draw, d_l_of, d_l_gcd, d_l_power, d_l_coprime, d_l_listed, d_l_due, d_law]
def fa : List He.Fa := [.glo "power", .glo "prime_factors", .glo "coprime_lists", .glo "_law_bag", .glo "_law_draw", .glo "_law_of", .glo "_law_gcd", .glo "_law_power", .glo "_law_coprime", .glo "_law_listed", .glo "_law_due", .glo "law", .free "len", .free "int", .free "list", .free "range", .free "abs", .free "isinstance", .free "bool"]
abbrev R : PySem.W.OpenRow := PySem.W.OpenLaw.row PySem.Challenge.rw_combed_k52_coprime_lists
abbrev hk : PySem.W.Hook := He.hookD 5 fa fn
def ob (s : PySem.W.SharedT) : He.AlD := He.obsDG 5 fa fn (HandSHeadRun.getT s)
theorem ob_eq (s : PySem.W.SharedT) : ob s = hk.obs s.abs := He.obsDG_eq (HandSHeadRun.getT_eq s)
def names : List PySem.Str := (["prime_factors", "power", "coprime_lists", "_law_bag", "_law_draw", "_law_of", "_law_gcd", "_law_power", "_law_coprime", "_law_listed", "_law_due"] : List PySem.Str)
theorem run (w : World) : HandSHeadRun.RunEq R (PySem.W.view R.prog [14]) hk ob 600 names w := by
  intro os
  kernel_rfl
theorem facts {P : Program} {w : World} {K : PySem.W.Frag} {h : Heap} {mg : Str → Option Value} {f : Addr} (X : K.In h) (G : h.Ns mainGlobals mg) (hfa : mg ("law" : Str) = some (.ref f)) (c : He.SaysD fa fn K) :
    ∃ fd : FuncData, (∀ (s : Shared) (v : Value), BindsTo s fd ⟨[v], []⟩ [("script", v)]) ∧ ∀ base : Heap, K.In base → base.Ns mainGlobals mg → FnOk P w K mg base CX0 4 f fd ["script"] (spLaw K) := by
  obtain ⟨fd_power, F_power⟩ := c.def_ 0 (d := d_power) rfl
  obtain ⟨fd_prime_factors, F_prime_factors⟩ := c.def_ 1 (d := d_prime_factors) rfl
  obtain ⟨fd_coprime_lists, F_coprime_lists⟩ := c.def_ 2 (d := d_coprime_lists) rfl
  obtain ⟨fd_l_bag, F_l_bag⟩ := c.def_ 3 (d := d_l_bag) rfl
  obtain ⟨fd_l_draw, F_l_draw⟩ := c.def_ 4 (d := d_l_draw) rfl
  obtain ⟨fd_l_of, F_l_of⟩ := c.def_ 5 (d := d_l_of) rfl
  obtain ⟨fd_l_gcd, F_l_gcd⟩ := c.def_ 6 (d := d_l_gcd) rfl
  obtain ⟨fd_l_power, F_l_power⟩ := c.def_ 7 (d := d_l_power) rfl
  obtain ⟨fd_l_coprime, F_l_coprime⟩ := c.def_ 8 (d := d_l_coprime) rfl
  obtain ⟨fd_l_listed, F_l_listed⟩ := c.def_ 9 (d := d_l_listed) rfl
  obtain ⟨fd_l_due, F_l_due⟩ := c.def_ 10 (d := d_l_due) rfl
  obtain ⟨fd_law, F_law⟩ := c.def_ 11 (d := d_law) rfl
  have g_power := He.glo_ok X G (c.fact 0 (f := .glo "power") rfl)
  have g_prime_factors := He.glo_ok X G (c.fact 1 (f := .glo "prime_factors") rfl)
  have g_coprime_lists := He.glo_ok X G (c.fact 2 (f := .glo "coprime_lists") rfl)
  have g_l_bag := He.glo_ok X G (c.fact 3 (f := .glo "_law_bag") rfl)
  have g_l_draw := He.glo_ok X G (c.fact 4 (f := .glo "_law_draw") rfl)
  have g_l_of := He.glo_ok X G (c.fact 5 (f := .glo "_law_of") rfl)
  have g_l_gcd := He.glo_ok X G (c.fact 6 (f := .glo "_law_gcd") rfl)
  have g_l_power := He.glo_ok X G (c.fact 7 (f := .glo "_law_power") rfl)
  have g_l_coprime := He.glo_ok X G (c.fact 8 (f := .glo "_law_coprime") rfl)
  have g_l_listed := He.glo_ok X G (c.fact 9 (f := .glo "_law_listed") rfl)
  have g_l_due := He.glo_ok X G (c.fact 10 (f := .glo "_law_due") rfl)
  have g_law := He.glo_ok X G (c.fact 11 (f := .glo "law") rfl)
  have B : Bi mg := ⟨He.free_ok X G (c.fact 12 (f := .free "len") rfl), He.free_ok X G (c.fact 13 (f := .free "int") rfl), He.free_ok X G (c.fact 14 (f := .free "list") rfl), He.free_ok X G (c.fact 15 (f := .free "range") rfl), He.free_ok X G (c.fact 16 (f := .free "abs") rfl), He.free_ok X G (c.fact 17 (f := .free "isinstance") rfl), He.free_ok X G (c.fact 18 (f := .free "bool") rfl)⟩
  have e := hfa.symm.trans g_law
  cases e
  have b := FunD.bindsA (ps := ["script"]) F_law fun _ _ _ _ _ _ us hl => match us, hl with | [_], _ => rfl
  refine ⟨fd_law, fun s v => b s [v] rfl, fun base _ _ => ?_⟩
  have o_power : FnOk P w K mg base CX0 1 (He.fAd K ("power", none)) fd_power ["base", "exponent"] (spPower) := by apply ok_power <;> assumption
  have c_power : C8.Cal P w K mg base 1 "power" (spPower) [] := ⟨_, _, _, _, o_power, g_power, F_power.kp, F_power.bindsN fun _ _ _ _ _ _ us hl => match us, hl with | [_, _], _ => rfl, .nil⟩
  have o_prime_factors : FnOk P w K mg base CX0 1 (He.fAd K ("prime_factors", none)) fd_prime_factors ["number"] (spPf) := by apply ok_pf <;> assumption
  have c_prime_factors : C8.Cal P w K mg base 1 "prime_factors" (spPf) [] := ⟨_, _, _, _, o_prime_factors, g_prime_factors, F_prime_factors.kp, F_prime_factors.bindsN fun _ _ _ _ _ _ us hl => match us, hl with | [_], _ => rfl, .nil⟩
  have o_coprime_lists : FnOk P w K mg base CX0 2 (He.fAd K ("coprime_lists", none)) fd_coprime_lists ["k", "m"] (spCop) := by apply ok_cop <;> assumption
  have c_coprime_lists : C8.Cal P w K mg base 2 "coprime_lists" (spCop) [] := ⟨_, _, _, _, o_coprime_lists, g_coprime_lists, F_coprime_lists.kp, F_coprime_lists.bindsN fun _ _ _ _ _ _ us hl => match us, hl with | [_, _], _ => rfl, .nil⟩
  have c_coprime_lists_mk : CalN P w K mg base 2 "coprime_lists" spCop 0 ["m", "k"] (fun _ zs => zs.reverse) := caln_rev2 o_coprime_lists g_coprime_lists F_coprime_lists
  have o_l_bag : FnOk P w K mg base CX0 1 (He.fAd K ("_law_bag", none)) fd_l_bag ["script"] (spBag K) := by apply ok_bag <;> assumption
  have c_l_bag : C8.Cal P w K mg base 1 "_law_bag" (spBag K) [] := ⟨_, _, _, _, o_l_bag, g_l_bag, F_l_bag.kp, F_l_bag.bindsN fun _ _ _ _ _ _ us hl => match us, hl with | [_], _ => rfl, .nil⟩
  have o_l_draw : FnOk P w K mg base CX0 1 (He.fAd K ("_law_draw", none)) fd_l_draw ["bag", "below"] (spDraw) := by apply ok_draw <;> assumption
  have c_l_draw : C8.Cal P w K mg base 1 "_law_draw" (spDraw) [] := ⟨_, _, _, _, o_l_draw, g_l_draw, F_l_draw.kp, F_l_draw.bindsN fun _ _ _ _ _ _ us hl => match us, hl with | [_, _], _ => rfl, .nil⟩
  have o_l_of : FnOk P w K mg base CX0 2 (He.fAd K ("_law_of", none)) fd_l_of ["bag", "some"] (spOf) := by apply ok_of <;> assumption
  have c_l_of : C8.Cal P w K mg base 2 "_law_of" (spOf) [] := ⟨_, _, _, _, o_l_of, g_l_of, F_l_of.kp, F_l_of.bindsN fun _ _ _ _ _ _ us hl => match us, hl with | [_, _], _ => rfl, .nil⟩
  have o_l_gcd : FnOk P w K mg base CX0 1 (He.fAd K ("_law_gcd", none)) fd_l_gcd ["some"] (spGcd K) := by apply ok_gcd <;> assumption
  have c_l_gcd : C8.Cal P w K mg base 1 "_law_gcd" (spGcd K) [] := ⟨_, _, _, _, o_l_gcd, g_l_gcd, F_l_gcd.kp, F_l_gcd.bindsN fun _ _ _ _ _ _ us hl => match us, hl with | [_], _ => rfl, .nil⟩
  have o_l_power : FnOk P w K mg base CX0 1 (He.fAd K ("_law_power", none)) fd_l_power ["base", "reps"] (spLPow) := by apply ok_lpow <;> assumption
  have c_l_power : C8.Cal P w K mg base 1 "_law_power" (spLPow) [] := ⟨_, _, _, _, o_l_power, g_l_power, F_l_power.kp, F_l_power.bindsN fun _ _ _ _ _ _ us hl => match us, hl with | [_, _], _ => rfl, .nil⟩
  have o_l_coprime : FnOk P w K mg base CX0 2 (He.fAd K ("_law_coprime", none)) fd_l_coprime ["reps", "mm"] (spLCop) := by apply ok_lcop <;> assumption
  have c_l_coprime : C8.Cal P w K mg base 2 "_law_coprime" (spLCop) [] := ⟨_, _, _, _, o_l_coprime, g_l_coprime, F_l_coprime.kp, F_l_coprime.bindsN fun _ _ _ _ _ _ us hl => match us, hl with | [_, _], _ => rfl, .nil⟩
  have o_l_listed : FnOk P w K mg base CX0 2 (He.fAd K ("_law_listed", none)) fd_l_listed ["many", "mm"] (spListed) := by apply ok_listed <;> assumption
  have c_l_listed : C8.Cal P w K mg base 2 "_law_listed" (spListed) [] := ⟨_, _, _, _, o_l_listed, g_l_listed, F_l_listed.kp, F_l_listed.bindsN fun _ _ _ _ _ _ us hl => match us, hl with | [_, _], _ => rfl, .nil⟩
  have o_l_due : FnOk P w K mg base CX0 3 (He.fAd K ("_law_due", none)) fd_l_due ["many", "mm"] (spDue) := by apply ok_due <;> assumption
  have c_l_due : C8.Cal P w K mg base 3 "_law_due" (spDue) [] := ⟨_, _, _, _, o_l_due, g_l_due, F_l_due.kp, F_l_due.bindsN fun _ _ _ _ _ _ us hl => match us, hl with | [_, _], _ => rfl, .nil⟩
  have o_law : FnOk P w K mg base CX0 4 (He.fAd K ("law", none)) fd_law ["script"] (spLaw K) := by apply ok_law <;> assumption
  exact o_law
end Cb
open PySem PySem.W PySem.Calls PyProof.Rows
theorem PySem.Challenge.cw_combed_k52_coprime_lists_holds : PySem.Challenge.rw_combed_k52_coprime_lists.Holds := by
  w_on; o_law
  refine HandSHeadRun.head_any (r := OpenLaw.row PySem.Challenge.rw_combed_k52_coprime_lists) (q := view (OpenLaw.row PySem.Challenge.rw_combed_k52_coprime_lists).prog [14]) (H := Cb.hk) (ob := Cb.ob) (M := 600) (loose := Cb.names) (d := HandSHeadRun.topDef (OpenLaw.row PySem.Challenge.rw_combed_k52_coprime_lists).prog 14) (kwd := []) Cb.ob_eq
    (by kernel_rfl) (fun s => by kernel_rfl) Cb.run (by kernel_rfl) (by kernel_rfl) (by kernel_rfl) (by rfl) (by first | assumption | decide +kernel) (by decide +kernel) ⟨rfl, rfl, rfl, rfl, rfl, by decide +kernel⟩ ?hw ?hc
  case hw => w_witness2
  case hc =>
    refine L2.walk_ofE (l := PySem.Challenge.rw_combed_k52_coprime_lists) (n := 63) (k := 4) (x := "script") (CX := L2.CX0) rfl (by decide) (by kernel_rfl) ⟨rfl, by decide, by decide⟩ ?F (fun _ _ _ _ z => z)
    intro w mg fa h Y G hmg0
    obtain ⟨K, KX, c⟩ := Y
    have hmg : mg ("law" : PySem.Str) = some (.ref fa) := by
      have e : (HandSHeadRun.topDef (OpenLaw.row PySem.Challenge.rw_combed_k52_coprime_lists).prog 14).name = ("law" : PySem.Str) := by kernel_rfl
      rw [← e]
      exact hmg0
    obtain ⟨fd, hb, hF⟩ := Cb.facts (P := (PySem.Challenge.rw_combed_k52_coprime_lists).prog) (w := w) KX G hmg c
    exact ⟨K, fd, Cb.spLaw K, KX, hb, fun H a ns hl _ hS => ⟨a, ns, rfl, hS, hl, fun _ => rfl⟩, hF⟩
#print axioms PySem.Challenge.cw_combed_k52_coprime_lists_holds
