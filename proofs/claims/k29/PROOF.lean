import PyProof.Rows.All
import Wide.All
import OpenK.AllK
import Wide.FinOn
import KE.KStateDown
import KE.GoesMore
import PyProof.SeqIndex
import KE.KDictList
import KE.KRevSl
import HandS.ForMost
import HandS.Wide
import HandS.IsInst
import HandS.Codes
import HandS.Defaults
import HandS.Conv
import HandS.More
import HandS.WordsExc
import HandS.DictComp
import HandS.NoneIn
import HandS.Star
import HandS.Gcd
import HandS.Text
import HandS.ListItems
import HandS.Walk
import HandS.Head0
import HandS.Head1
import HandS.Head2
import HandS.Head3
import HandS.WideBits
import HandS.Style
import KE.KSuper
import KE.KExcSuper
import KE.KExcInit
import HandS.ExcSuper
import HandS.ExcField
import HandS.ExcIs
import HandS.TryOnly
import HandS.HotCalls
import HandS.SlotsOwn
import HandS.MakeKwOnly
import HandS.SortInts
import KE.KExcIs
import HandS.HeadEnd
import HandS.HeadHook1
import HandS.HeadHook2
import PySem.Challenge.RW_combed_k29_whole_conditions_broken
set_option Elab.async false
set_option linter.all false
set_option maxRecDepth 100000
set_option maxHeartbeats 4000000
namespace Cb
open PySem PySem.Spec PyProof.Rows L2

/-! ### steps of a reading, by the head of its term -/
section
variable {σ : L2.St} {H : Hp} {Q : VK} {D : Ends} {te ta tb tc : TE} {t u : TS} {tt : TT} {v : V} {i j : Int} {K : PySem.W.Frag}
theorem x_seq (h : t { D with nx := u D } σ H) : tSeq t u D σ H := h
theorem x_next (h : D.nx σ H) : tNext D σ H := h
theorem x_brk (h : D.bk σ H) : tBreak D σ H := h
theorem x_cont (h : D.ct σ H) : tCont D σ H := h
theorem x_asg {g : TG} (h : te σ H fun x H1 => g x σ H1 D.nx) : tAsg te g D σ H := h
theorem x_gname {k : Nat} {R : L2.St → Hp → Prop} (h : R (σ.set k (some v)) H) : gName k v σ H R := h
theorem x_drop (h : te σ H fun _ H1 => D.nx σ H1) : tDrop te D σ H := h
theorem x_ret (h : te σ H D.rt) : tRet te D σ H := h
theorem x_retN (h : D.rt .non H) : tRetN D σ H := h
theorem x_ifs {c : TT} (h : c σ H fun b H1 => if b = true then t D σ H1 else u D σ H1) : tIfS c t u D σ H := h
theorem x_par {k l : Nat} {ta : TA} (h : ta σ H fun vs H1 => ∃ v w, vs = [v, w] ∧ D.nx ((σ.set k (some v)).set l (some w)) H1) : tPar k l ta D σ H := h
theorem x_par2 {k l : Nat} {v w : V} (h : D.nx ((σ.set k (some v)).set l (some w)) H) : ∃ v' w', [v, w] = [v', w'] ∧ D.nx ((σ.set k (some v')).set l (some w')) H := ⟨v, w, rfl, h⟩
theorem x_aug {k : Nat} {ti : TIp} {x : V} (e : σ[k]? = some (some x)) (h : te σ H fun y H1 => ti x y H1 fun z H2 => D.nx (σ.set k (some z)) H2) : tAug k te ti D σ H := ⟨x, e, h⟩
theorem x_var {k : Nat} (e : σ[k]? = some (some v)) (h : Q v H) : tVar k σ H Q := ⟨v, e, h⟩
theorem x_c (h : Q v H) : tC v σ H Q := h
theorem x_op {r : R2} (h : ta σ H fun x H1 => tb σ H1 fun y H2 => r x y H2 Q) : tOp r ta tb σ H Q := h
theorem x_un {r : V → Hp → VK → Prop} (h : ta σ H fun x H1 => r x H1 Q) : tUn r ta σ H Q := h
theorem x_rI0 {g : Int → Int → V} (h : Q (g i j) H) : rI0 g (.int i) (.int j) H Q := ⟨i, j, rfl, rfl, h⟩
theorem x_rI {C : Int → Int → Prop} {g : Int → Int → V} (c : C i j) (h : Q (g i j) H) : rI C g (.int i) (.int j) H Q := ⟨i, j, rfl, rfl, c, h⟩
theorem x_rU {g : Int → V} (h : Q (g i) H) : rU g (.int i) H Q := ⟨i, rfl, h⟩
theorem x_ipI {f : Int → Int → Int} (h : Q (.int (f i j)) H) : ipI f (.int i) (.int j) H Q := ⟨i, j, rfl, rfl, h⟩
theorem dec_int {i j : Int} : decide (V.int i = V.int j) = decide (i = j) := by
  by_cases e : i = j
  · subst e; simp
  · rw [decide_eq_false e, decide_eq_false (fun q => e (V.int.inj q))]
theorem dec_str {i j : Str} : decide (V.str i = V.str j) = decide (i = j) := by
  by_cases e : i = j
  · subst e; simp
  · rw [decide_eq_false e, decide_eq_false (fun q => e (V.str.inj q))]
theorem dec_bl {i j : Bool} : decide (V.bl i = V.bl j) = decide (i = j) := by
  by_cases e : i = j
  · subst e; simp
  · rw [decide_eq_false e, decide_eq_false (fun q => e (V.bl.inj q))]
theorem x_eqI (h : Q (.bl (decide (i = j))) H) : rEq (.int i) (.int j) H Q := ⟨rfl, by rw [dec_int]; exact h⟩
theorem x_neI (h : Q (.bl (!decide (i = j))) H) : rNe (.int i) (.int j) H Q := ⟨rfl, by rw [dec_int]; exact h⟩
theorem x_eqS {i j : Str} (h : Q (.bl (decide (i = j))) H) : rEq (.str i) (.str j) H Q := ⟨rfl, by rw [dec_str]; exact h⟩
theorem x_neS {i j : Str} (h : Q (.bl (!decide (i = j))) H) : rNe (.str i) (.str j) H Q := ⟨rfl, by rw [dec_str]; exact h⟩
theorem x_eqB {i j : Bool} (h : Q (.bl (decide (i = j))) H) : rEq (.bl i) (.bl j) H Q := ⟨rfl, by rw [dec_bl]; exact h⟩
theorem x_neB {i j : Bool} (h : Q (.bl (!decide (i = j))) H) : rNe (.bl i) (.bl j) H Q := ⟨rfl, by rw [dec_bl]; exact h⟩
theorem x_test {R : Bool → Hp → Prop} (h : te σ H fun x H' => ∃ k, x = .bl k ∧ R k H') : tTest te σ H R := h
theorem x_tB {R : Bool → Hp → Prop} (h : te σ H fun x H' => ∃ k, x = .bl k ∧ R k H') : tB te σ H R := h
theorem x_bl {b : Bool} {R : Bool → Prop} (h : R b) : ∃ k, V.bl b = .bl k ∧ R k := ⟨b, rfl, h⟩
theorem x_and {s t : TT} {R : Bool → Hp → Prop} (h : s σ H fun c H1 => if c = true then t σ H1 R else R false H1) : tAnd s t σ H R := h
theorem x_or {s t : TT} {R : Bool → Hp → Prop} (h : s σ H fun c H1 => if c = true then R true H1 else t σ H1 R) : tOr s t σ H R := h
theorem x_not {s : TT} {R : Bool → Hp → Prop} (h : s σ H fun c H1 => R (!c) H1) : tNot s σ H R := h
theorem x_andV (h : ta σ H fun x H1 => ∃ c, x = .bl c ∧ if c = true then tb σ H1 Q else Q (.bl false) H1) : tAndV ta tb σ H Q := h
theorem x_orV (h : ta σ H fun x H1 => ∃ c, x = .bl c ∧ if c = true then Q (.bl true) H1 else tb σ H1 Q) : tOrV ta tb σ H Q := h
theorem x_notV (h : ta σ H fun x H1 => ∃ c, x = .bl c ∧ Q (.bl (!c)) H1) : tNotV ta σ H Q := h
theorem x_if {s : TT} (h : s σ H fun c H1 => if c = true then ta σ H1 Q else tb σ H1 Q) : tIf s ta tb σ H Q := h
theorem x_chain {r r' : R2} (h : ta σ H fun x H1 => tb σ H1 fun y H2 => r x y H2 fun z H3 => ∃ k, z = .bl k ∧ (if k = true then tc σ H3 fun w' H4 => r' y w' H4 Q else Q (.bl false) H3)) : tChain r r' ta tb tc σ H Q := h
theorem x_nil {R : List V → Hp → Prop} (h : R [] H) : tNil σ H R := h
theorem x_cons {tr : TA} {R : List V → Hp → Prop} (h : te σ H fun x H1 => tr σ H1 fun xs H2 => R (x :: xs) H2) : tCons te tr σ H R := h
theorem x_call {sp : Sp} {dvs : List V} {E : XK} {tr : TA} (h : tr σ H fun vs H1 => sp (vs ++ dvs) H1 Q E) : tCall sp dvs E tr σ H Q := h
theorem x_callK {sp : Sp} {g : List V → List V → List V} {E : XK} {tr tk : TA} (h : tr σ H fun vs H1 => tk σ H1 fun zs H2 => sp (g vs zs) H2 Q E) : tCallK sp g E tr tk σ H Q := h
theorem x_cb {r : List V → Hp → VK → Prop} {tr : TA} (h : tr σ H fun vs H1 => r vs H1 Q) : tCB r tr σ H Q := h
theorem x_lst {tr : TA} (h : tr σ H fun xs H1 => xs.length ≤ sizeLine ∧ ∀ p, H1 p = none → Q (.ref p) (upd H1 p (.lst xs))) : tLst tr σ H Q := h
theorem x_tup {tr : TA} (h : tr σ H fun xs H1 => xs.length ≤ sizeLine ∧ ∀ p, H1 p = none → Q (.ref p) (upd H1 p (.tup xs))) : tTup tr σ H Q := h
theorem x_ixL {p : Addr} {xs : List V} (s : SqL K H p xs) (a : atI xs i = some v) (h : Q v H) : rIxL K (.ref p) (.int i) H Q := ⟨p, xs, i, v, rfl, rfl, s, a, h⟩
theorem x_ixT {p : Addr} {xs : List V} (s : SqT K H p xs) (a : atI xs i = some v) (h : Q v H) : rIxT K (.ref p) (.int i) H Q := ⟨p, xs, i, v, rfl, rfl, s, a, h⟩
theorem x_sub {to ti : TE} {tS : TSet} {R : L2.St → Hp → Prop} (h : to σ H fun o H1 => ti σ H1 fun i H2 => tS o i v H2 fun H3 => R σ H3) : gSub to ti tS v σ H R := h
theorem x_setL {p : Addr} {xs : List V} {k : Nat} {R : Hp → Prop} (s : H p = some (.lst xs)) (a : ixN xs.length i = some k) (h : R (upd H p (.lst (xs.set k v)))) : rSetL (.ref p) (.int i) v H R := ⟨p, xs, i, k, rfl, rfl, s, a, h⟩
theorem x_sl {r : V → Option Int → Option Int → Hp → VK → Prop} {tl th : TO} (h : te σ H fun x H1 => tl σ H1 fun l H2 => th σ H2 fun u H3 => r x l u H3 Q) : tSl r te tl th σ H Q := h
theorem x_nopart {R : Option Int → Hp → Prop} (h : R none H) : tNoPart σ H R := h
theorem x_part {R : Option Int → Hp → Prop} (h : te σ H fun x H1 => ∃ i, x = .int i ∧ R (some i) H1) : tPart te σ H R := h
theorem x_int {R : Int → Prop} (h : R i) : ∃ k, V.int i = .int k ∧ R k := ⟨i, rfl, h⟩
theorem x_slL {p : Addr} {xs : List V} {lo hi : Option Int} (s : SqL K H p xs) (h : ∀ q, H q = none → Q (.ref q) (upd H q (.lst (cutV xs lo hi)))) : rSlL K (.ref p) lo hi H Q := ⟨p, xs, rfl, s, h⟩
theorem x_bm {T : String} {r : V → List V → Hp → VK → Prop} {to : TE} {tr : TA} (h : to σ H fun x H1 => tyV K T x H1 ∧ tr σ H1 fun xs H2 => r x xs H2 Q) : tBM K T r to tr σ H Q := h
theorem x_bm0 {T : String} {r : V → List V → Hp → VK → Prop} {to : TE} (h : to σ H fun x H1 => tyV K T x H1 ∧ r x [] H1 Q) : tBM0 K T r to σ H Q := h
theorem x_tyL {p : Addr} {xs : List V} {R : Prop} (s : SqL K H p xs) (h : R) : tyV K "list" (.ref p) H ∧ R := ⟨Or.inl ⟨rfl, xs, s⟩, h⟩
theorem x_append {p : Addr} {xs : List V} {y : V} (s : H p = some (.lst xs)) (l : xs.length < sizeLine) (h : Q .non (upd H p (.lst (xs ++ [y])))) : rAppend (.ref p) [y] H Q := ⟨p, xs, y, rfl, rfl, s, l, h⟩
theorem x_extend {p q : Addr} {xs ys : List V} (s : H p = some (.lst xs)) (s2 : H q = some (.lst ys)) (l : xs.length + ys.length ≤ sizeLine) (h : Q .non (upd H p (.lst (xs ++ ys)))) : rExtend (.ref p) [.ref q] H Q := ⟨p, q, xs, ys, rfl, rfl, s, s2, l, h⟩
theorem x_fld {f : Str} (h : ta σ H fun x H1 => ∃ a C dx fs v, x = .ref a ∧ H1 a = some (.ins C dx fs) ∧ Cls K C ∧ NoAttr K C f ∧ fs.lookup f = some v ∧ Q v H1) : tFld K ta f σ H Q := h
theorem x_while {c : TT} {tb : TS} (W : Nat → L2.St → Hp → Prop) (m0 : Nat) (h0 : W m0 σ H) (hs : ∀ m σ H, W m σ H → c σ H fun b H1 => if b = true then ∃ N : L2.St → Hp → Prop, (∀ σ' H', N σ' H' → ∃ m', m' < m ∧ W m' σ' H') ∧ tb { D with nx := N, ct := N, bk := D.nx } σ H1 else D.nx σ H1) : tWhile c tb D σ H := ⟨W, ⟨m0, h0⟩, hs⟩
theorem x_turn {m : Nat} {W : Nat → L2.St → Hp → Prop} {tb : TS} (h : tb { D with nx := fun σ' H' => ∃ m', m' < m ∧ W m' σ' H', ct := fun σ' H' => ∃ m', m' < m ∧ W m' σ' H', bk := D.nx } σ H) : ∃ N : L2.St → Hp → Prop, (∀ σ' H', N σ' H' → ∃ m', m' < m ∧ W m' σ' H') ∧ tb { D with nx := N, ct := N, bk := D.nx } σ H := ⟨_, fun _ _ h => h, h⟩
theorem x_tYes {R : Bool → Hp → Prop} (h : R true H) : tYes σ H R := h
end

theorem x_cut {σ : L2.St} {H : Hp} {D : Ends} {t u : TS} (Mid : L2.St → Hp → Prop) (h1 : t { D with nx := Mid } σ H) (h2 : ∀ σ' H', Mid σ' H' → u D σ' H') : C8.tCut t u D σ H := ⟨Mid, h1, h2⟩
/-! ### heaps -/
theorem upd_old {H : Hp} {a p : Addr} {o u : HO} (hp : H p = none) (h : H a = some u) : upd H p o a = some u := by
  rw [upd_ne (ne_of_none h hp)]
  exact h
theorem upd_oth {H : Hp} {a p : Addr} {o u : HO} (n : a ≠ p) (h : H a = some u) : upd H p o a = some u := by
  rw [upd_ne n]
  exact h
theorem Same.get {H H' : Hp} {a : Addr} {u : HO} (s : Same H H') (h : H a = some u) : H' a = some u := s a u h
theorem Same.new {H : Hp} {p : Addr} {o : HO} (h : H p = none) : Same H (upd H p o) := fun a u e => upd_old h e
theorem Same.sql {K : PySem.W.Frag} {H H' : Hp} {a : Addr} {xs : List V} (e : Same H H') (h : SqL K H a xs) : SqL K H' a xs := e.seq h
/-- an object that was not there may change -/
theorem Same.mut {H H' : Hp} {p : Addr} {o : HO} (e : Same H H') (h : H p = none) : Same H (upd H' p o) := fun a u ha => by
  rw [upd_ne (ne_of_none ha h)]
  exact e a u ha
/-- all but b is as it was -/
def Kp (b : Addr) (H H' : Hp) : Prop := ∀ a o, a ≠ b → H a = some o → H' a = some o
theorem Kp.refl {b : Addr} {H : Hp} : Kp b H H := fun _ _ _ h => h
theorem Kp.of {b : Addr} {H H' : Hp} (s : Same H H') : Kp b H H' := fun a o _ h => s a o h
theorem Kp.trans {b : Addr} {H H1 H2 : Hp} (x : Kp b H H1) (y : Kp b H1 H2) : Kp b H H2 := fun a o n h => y a o n (x a o n h)
theorem Kp.get {b : Addr} {H H' : Hp} {a : Addr} {u : HO} (s : Kp b H H') (n : a ≠ b) (h : H a = some u) : H' a = some u := s a u n h
theorem Kp.free {b : Addr} {H H' : Hp} (s : Kp b H H') {a : Addr} (n : a ≠ b) (h : H' a = none) : H a = none := by
  cases e : H a with
  | none => rfl
  | some o => rw [s a o n e] at h; cases h
theorem Kp.sql {K : PySem.W.Frag} {b : Addr} {H H' : Hp} {a : Addr} {xs : List V} (e : Kp b H H') (n : a ≠ b) (h : SqL K H a xs) : SqL K H' a xs := by
  rcases h with (h | ⟨o, h⟩) | h
  · exact .inl (.inl (e _ _ n h))
  · exact .inl (.inr ⟨o, e _ _ n h⟩)
  · exact .inr h
/-! ### loops over what stands still -/
section
variable {σ : L2.St} {H : Hp} {Q : VK} {D : Ends} {te : TE} {tt : TT} {K : PySem.W.Frag} {g : TG} {tb : TS}
/-- [e for x in xs if t] that leaves all that was tracked as it was: Iv of the turn and what is made so far -/
theorem lcS_list {a : Addr} {xs : List V} {vs : List Nat} (s : SqL K H a xs) (hz : xs.length < sizeLine) (Iv : Nat → List V → Prop) (I0 : Iv 0 [])
    (turn : ∀ i x H' acc, xs[i]? = some x → Same H H' → Iv i acc → acc.length ≤ i → ∀ (R : VK) (S : Hp → Prop), (∀ y H4, Same H' H4 → Iv (i + 1) (acc ++ [y]) → R y H4) → (∀ H3, Same H' H3 → Iv (i + 1) acc → S H3) →
      g x (wipe σ vs) H' fun σ2 H2 => wipe σ2 vs = wipe σ vs ∧ tt σ2 H2 fun b H3 => if b = true then te σ2 H3 R else S H3)
    (done : ∀ p H' acc, H p = none → Same H H' → H' p = some (.lst acc) → Iv xs.length acc → Q (.ref p) H') :
    ∀ p, H p = none → ∃ W : Nat → Nat → Hp → Prop, (∃ m, W 0 m (upd H p (.lst []))) ∧ ∀ i m H, W i m H →
      ((Itl K a).stop i H ∧ Q (.ref p) H) ∨ ((Itl K a).go i H ∧ ∃ Nx : Hp → Prop, (∀ H', Nx H' → ∃ m', m' < m ∧ W (i + 1) m' H') ∧ ∀ x H', (Itl K a).yld i H x H' → g x (wipe σ vs) H' fun σ2 H2 => wipe σ2 vs = wipe σ vs ∧ tt σ2 H2 fun b H3 =>
        if b = true then te σ2 H3 fun y H4 => ∃ acc, H4 p = some (.lst acc) ∧ acc.length < sizeLine ∧ Nx (upd H4 p (.lst (acc ++ [y]))) else Nx H3) := by
  intro p hp
  refine lc_list (K := K) (a := a) (xs := xs) (fun i H' => ∃ acc, Same H H' ∧ H' p = some (.lst acc) ∧ Iv i acc ∧ acc.length ≤ i) ⟨[], Same.new hp, upd_same, I0, Nat.le_refl _⟩ (fun i H' _ ⟨acc, s', _⟩ => s'.seq s) ?_ ?_
  · rintro i x H' hi ⟨acc, s', hd, iv, hl⟩
    have hil : i < xs.length := (List.getElem?_eq_some_iff.mp hi).1
    refine turn i x H' acc hi s' iv hl _ _ (fun y H4 q iv' => ?_) fun H3 q iv' => ?_
    · exact ⟨acc, q _ _ hd, by omega, acc ++ [y], Same.mut (Same.trans s' q) hp, upd_same, iv', by rw [List.length_append, List.length_singleton]; omega⟩
    · exact ⟨acc, Same.trans s' q, q _ _ hd, iv', by omega⟩
  · rintro H' ⟨acc, s', hd, iv, _⟩
    exact done p H' acc hp s' hd iv
/-- the same over range(lo, lo + n) -/
theorem lcS_rng {lo : Int} {n : Nat} {vs : List Nat} (hz : n < sizeLine) (Iv : Nat → List V → Prop) (I0 : Iv 0 [])
    (turn : ∀ i H' acc, i < n → Same H H' → Iv i acc → acc.length ≤ i → ∀ (R : VK) (S : Hp → Prop), (∀ y H4, Same H' H4 → Iv (i + 1) (acc ++ [y]) → R y H4) → (∀ H3, Same H' H3 → Iv (i + 1) acc → S H3) →
      g (.int (lo + i)) (wipe σ vs) H' fun σ2 H2 => wipe σ2 vs = wipe σ vs ∧ tt σ2 H2 fun b H3 => if b = true then te σ2 H3 R else S H3)
    (done : ∀ p H' acc, H p = none → Same H H' → H' p = some (.lst acc) → Iv n acc → Q (.ref p) H') :
    ∀ p, H p = none → ∃ W : Nat → Nat → Hp → Prop, (∃ m, W 0 m (upd H p (.lst []))) ∧ ∀ i m H, W i m H →
      ((Itr lo n).stop i H ∧ Q (.ref p) H) ∨ ((Itr lo n).go i H ∧ ∃ Nx : Hp → Prop, (∀ H', Nx H' → ∃ m', m' < m ∧ W (i + 1) m' H') ∧ ∀ x H', (Itr lo n).yld i H x H' → g x (wipe σ vs) H' fun σ2 H2 => wipe σ2 vs = wipe σ vs ∧ tt σ2 H2 fun b H3 =>
        if b = true then te σ2 H3 fun y H4 => ∃ acc, H4 p = some (.lst acc) ∧ acc.length < sizeLine ∧ Nx (upd H4 p (.lst (acc ++ [y]))) else Nx H3) := by
  intro p hp
  refine lc_range (lo := lo) (n := n) (fun i H' => ∃ acc, Same H H' ∧ H' p = some (.lst acc) ∧ Iv i acc ∧ acc.length ≤ i) ⟨[], Same.new hp, upd_same, I0, Nat.le_refl _⟩ ?_ ?_
  · rintro i H' hi ⟨acc, s', hd, iv, hl⟩
    refine turn i H' acc hi s' iv hl _ _ (fun y H4 q iv' => ?_) fun H3 q iv' => ?_
    · exact ⟨acc, q _ _ hd, by omega, acc ++ [y], Same.mut (Same.trans s' q) hp, upd_same, iv', by rw [List.length_append, List.length_singleton]; omega⟩
    · exact ⟨acc, Same.trans s' q, q _ _ hd, iv', by omega⟩
  · rintro H' ⟨acc, s', hd, iv, _⟩
    exact done p H' acc hp s' hd iv
end
/-! ### a for's walk and a comprehension's, as relations of the source's value -/
def rForL (K : PySem.W.Frag) (g : TG) (tb : TS) (D : Ends) (σ : L2.St) (x : V) (H : Hp) : Prop := ∃ a, x = .ref a ∧ (∃ xs, SqL K H a xs) ∧ ∃ W : Nat → Nat → L2.St → Hp → Prop, (∃ k, W 0 k σ H) ∧ ∀ k l σ H, W k l σ H → ((Itl K a).stop k H ∧ D.nx σ H) ∨ ((Itl K a).go k H ∧ ∃ N : L2.St → Hp → Prop, (∀ σ' H', N σ' H' → ∃ m', m' < l ∧ W (k + 1) m' σ' H') ∧ ∀ x H', (Itl K a).yld k H x H' → g x σ H' fun σ2 H2 => tb { D with nx := N, ct := N, bk := D.nx } σ2 H2)
def rForT (K : PySem.W.Frag) (g : TG) (tb : TS) (D : Ends) (σ : L2.St) (x : V) (H : Hp) : Prop := ∃ a, x = .ref a ∧ (∃ xs, SqT K H a xs) ∧ ∃ W : Nat → Nat → L2.St → Hp → Prop, (∃ k, W 0 k σ H) ∧ ∀ k l σ H, W k l σ H → ((Itt K a).stop k H ∧ D.nx σ H) ∨ ((Itt K a).go k H ∧ ∃ N : L2.St → Hp → Prop, (∀ σ' H', N σ' H' → ∃ m', m' < l ∧ W (k + 1) m' σ' H') ∧ ∀ x H', (Itt K a).yld k H x H' → g x σ H' fun σ2 H2 => tb { D with nx := N, ct := N, bk := D.nx } σ2 H2)
def rForR1 (g : TG) (tb : TS) (D : Ends) (σ : L2.St) (us : List V) (H : Hp) : Prop := ∃ j : Int, us = [.int j] ∧ -(2 ^ 62) ≤ j ∧ j < 2 ^ 62 ∧ ∃ W : Nat → Nat → L2.St → Hp → Prop, (∃ k, W 0 k σ H) ∧ ∀ k l σ H, W k l σ H → ((Itr 0 j.toNat).stop k H ∧ D.nx σ H) ∨ ((Itr 0 j.toNat).go k H ∧ ∃ N : L2.St → Hp → Prop, (∀ σ' H', N σ' H' → ∃ m', m' < l ∧ W (k + 1) m' σ' H') ∧ ∀ x H', (Itr 0 j.toNat).yld k H x H' → g x σ H' fun σ2 H2 => tb { D with nx := N, ct := N, bk := D.nx } σ2 H2)
def rForR2 (g : TG) (tb : TS) (D : Ends) (σ : L2.St) (us : List V) (H : Hp) : Prop := ∃ i j : Int, us = [.int i, .int j] ∧ (-(2 ^ 62) ≤ i ∧ i < 2 ^ 62 ∧ -(2 ^ 62) ≤ j ∧ j < 2 ^ 62) ∧ ∃ W : Nat → Nat → L2.St → Hp → Prop, (∃ k, W 0 k σ H) ∧ ∀ k l σ H, W k l σ H → ((Itr i (j - i).toNat).stop k H ∧ D.nx σ H) ∨ ((Itr i (j - i).toNat).go k H ∧ ∃ N : L2.St → Hp → Prop, (∀ σ' H', N σ' H' → ∃ m', m' < l ∧ W (k + 1) m' σ' H') ∧ ∀ x H', (Itr i (j - i).toNat).yld k H x H' → g x σ H' fun σ2 H2 => tb { D with nx := N, ct := N, bk := D.nx } σ2 H2)
def rLcL (K : PySem.W.Frag) (g : TG) (tt : TT) (te : TE) (vs : List Nat) (σ : L2.St) (x : V) (H : Hp) (Q : VK) : Prop := ∃ a, x = .ref a ∧ (∃ xs, SqL K H a xs) ∧ ∀ p, H p = none → ∃ W : Nat → Nat → Hp → Prop, (∃ m, W 0 m (upd H p (.lst []))) ∧ ∀ k l H, W k l H → ((Itl K a).stop k H ∧ Q (.ref p) H) ∨ ((Itl K a).go k H ∧ ∃ Nx : Hp → Prop, (∀ H', Nx H' → ∃ m', m' < l ∧ W (k + 1) m' H') ∧ ∀ x H', (Itl K a).yld k H x H' → g x (wipe σ vs) H' fun σ2 H2 => wipe σ2 vs = wipe σ vs ∧ tt σ2 H2 fun b H3 => if b = true then te σ2 H3 fun y H4 => ∃ acc, H4 p = some (.lst acc) ∧ acc.length < sizeLine ∧ Nx (upd H4 p (.lst (acc ++ [y]))) else Nx H3)
def rLcT (K : PySem.W.Frag) (g : TG) (tt : TT) (te : TE) (vs : List Nat) (σ : L2.St) (x : V) (H : Hp) (Q : VK) : Prop := ∃ a, x = .ref a ∧ (∃ xs, SqT K H a xs) ∧ ∀ p, H p = none → ∃ W : Nat → Nat → Hp → Prop, (∃ m, W 0 m (upd H p (.lst []))) ∧ ∀ k l H, W k l H → ((Itt K a).stop k H ∧ Q (.ref p) H) ∨ ((Itt K a).go k H ∧ ∃ Nx : Hp → Prop, (∀ H', Nx H' → ∃ m', m' < l ∧ W (k + 1) m' H') ∧ ∀ x H', (Itt K a).yld k H x H' → g x (wipe σ vs) H' fun σ2 H2 => wipe σ2 vs = wipe σ vs ∧ tt σ2 H2 fun b H3 => if b = true then te σ2 H3 fun y H4 => ∃ acc, H4 p = some (.lst acc) ∧ acc.length < sizeLine ∧ Nx (upd H4 p (.lst (acc ++ [y]))) else Nx H3)
def rLcR1 (g : TG) (tt : TT) (te : TE) (vs : List Nat) (σ : L2.St) (us : List V) (H : Hp) (Q : VK) : Prop := ∃ j : Int, us = [.int j] ∧ -(2 ^ 62) ≤ j ∧ j < 2 ^ 62 ∧ ∀ p, H p = none → ∃ W : Nat → Nat → Hp → Prop, (∃ m, W 0 m (upd H p (.lst []))) ∧ ∀ k l H, W k l H → ((Itr 0 j.toNat).stop k H ∧ Q (.ref p) H) ∨ ((Itr 0 j.toNat).go k H ∧ ∃ Nx : Hp → Prop, (∀ H', Nx H' → ∃ m', m' < l ∧ W (k + 1) m' H') ∧ ∀ x H', (Itr 0 j.toNat).yld k H x H' → g x (wipe σ vs) H' fun σ2 H2 => wipe σ2 vs = wipe σ vs ∧ tt σ2 H2 fun b H3 => if b = true then te σ2 H3 fun y H4 => ∃ acc, H4 p = some (.lst acc) ∧ acc.length < sizeLine ∧ Nx (upd H4 p (.lst (acc ++ [y]))) else Nx H3)
def rLcR2 (g : TG) (tt : TT) (te : TE) (vs : List Nat) (σ : L2.St) (us : List V) (H : Hp) (Q : VK) : Prop := ∃ i j : Int, us = [.int i, .int j] ∧ (-(2 ^ 62) ≤ i ∧ i < 2 ^ 62 ∧ -(2 ^ 62) ≤ j ∧ j < 2 ^ 62) ∧ ∀ p, H p = none → ∃ W : Nat → Nat → Hp → Prop, (∃ m, W 0 m (upd H p (.lst []))) ∧ ∀ k l H, W k l H → ((Itr i (j - i).toNat).stop k H ∧ Q (.ref p) H) ∨ ((Itr i (j - i).toNat).go k H ∧ ∃ Nx : Hp → Prop, (∀ H', Nx H' → ∃ m', m' < l ∧ W (k + 1) m' H') ∧ ∀ x H', (Itr i (j - i).toNat).yld k H x H' → g x (wipe σ vs) H' fun σ2 H2 => wipe σ2 vs = wipe σ vs ∧ tt σ2 H2 fun b H3 => if b = true then te σ2 H3 fun y H4 => ∃ acc, H4 p = some (.lst acc) ∧ acc.length < sizeLine ∧ Nx (upd H4 p (.lst (acc ++ [y]))) else Nx H3)
section
variable {σ : L2.St} {H : Hp} {Q : VK} {D : Ends} {tx te : TE} {ta : TA} {tt : TT} {K : PySem.W.Frag} {g : TG} {tb : TS} {vs : List Nat}
theorem x_forL (h : tx σ H fun x H1 => rForL K g tb D σ x H1) : tFor (iList K tx) g tb D σ H := h
theorem x_forT (h : tx σ H fun x H1 => rForT K g tb D σ x H1) : tFor (iTup K tx) g tb D σ H := h
theorem x_forR1 (h : ta σ H fun us H1 => rForR1 g tb D σ us H1) : tFor (iRng1 ta) g tb D σ H := h
theorem x_forR2 (h : ta σ H fun us H1 => rForR2 g tb D σ us H1) : tFor (iRng2 ta) g tb D σ H := h
theorem x_lcL (h : tx σ H fun x H1 => rLcL K g tt te vs σ x H1 Q) : tLc (iList K tx) g tt te vs σ H Q := h
theorem x_lcT (h : tx σ H fun x H1 => rLcT K g tt te vs σ x H1 Q) : tLc (iTup K tx) g tt te vs σ H Q := h
theorem x_lcR1 (h : ta σ H fun us H1 => rLcR1 g tt te vs σ us H1 Q) : tLc (iRng1 ta) g tt te vs σ H Q := h
theorem x_lcR2 (h : ta σ H fun us H1 => rLcR2 g tt te vs σ us H1 Q) : tLc (iRng2 ta) g tt te vs σ H Q := h
end
section
variable {σ : L2.St} {H : Hp} {Q : VK} {D : Ends} {te : TE} {tt : TT} {K : PySem.W.Frag} {g : TG} {tb : TS} {vs : List Nat}
theorem w_forL {a : Addr} {xs : List V} (s : SqL K H a xs) (Pv : Nat → L2.St → Hp → Prop) (h0 : Pv 0 σ H) (hl : ∀ i σ H, i ≤ xs.length → Pv i σ H → SqL K H a xs)
    (hs : ∀ i x σ H, xs[i]? = some x → Pv i σ H → g x σ H fun σ2 H2 => tb { D with nx := Pv (i + 1), ct := Pv (i + 1), bk := D.nx } σ2 H2) (hd : ∀ σ H, Pv xs.length σ H → D.nx σ H) : rForL K g tb D σ (.ref a) H := ⟨a, rfl, ⟨xs, s⟩, for_list Pv h0 hl hs hd⟩
theorem w_forT {a : Addr} {xs : List V} (s : SqT K H a xs) (Pv : Nat → L2.St → Hp → Prop) (h0 : Pv 0 σ H) (hl : ∀ i σ H, i ≤ xs.length → Pv i σ H → SqT K H a xs)
    (hs : ∀ i x σ H, xs[i]? = some x → Pv i σ H → g x σ H fun σ2 H2 => tb { D with nx := Pv (i + 1), ct := Pv (i + 1), bk := D.nx } σ2 H2) (hd : ∀ σ H, Pv xs.length σ H → D.nx σ H) : rForT K g tb D σ (.ref a) H := ⟨a, rfl, ⟨xs, s⟩, for_tup Pv h0 hl hs hd⟩
theorem w_forR1 {n : Int} (h1 : -(2 ^ 62) ≤ n) (h2 : n < 2 ^ 62) (Pv : Nat → L2.St → Hp → Prop) (h0 : Pv 0 σ H)
    (hs : ∀ i σ H, i < n.toNat → Pv i σ H → g (.int (0 + i)) σ H fun σ2 H2 => tb { D with nx := Pv (i + 1), ct := Pv (i + 1), bk := D.nx } σ2 H2) (hd : ∀ σ H, Pv n.toNat σ H → D.nx σ H) : rForR1 g tb D σ [.int n] H := ⟨n, rfl, h1, h2, for_range Pv h0 hs hd⟩
theorem w_forR2 {m n : Int} (hb : -(2 ^ 62) ≤ m ∧ m < 2 ^ 62 ∧ -(2 ^ 62) ≤ n ∧ n < 2 ^ 62) (Pv : Nat → L2.St → Hp → Prop) (h0 : Pv 0 σ H)
    (hs : ∀ i σ H, i < (n - m).toNat → Pv i σ H → g (.int (m + i)) σ H fun σ2 H2 => tb { D with nx := Pv (i + 1), ct := Pv (i + 1), bk := D.nx } σ2 H2) (hd : ∀ σ H, Pv (n - m).toNat σ H → D.nx σ H) : rForR2 g tb D σ [.int m, .int n] H := ⟨m, n, rfl, hb, for_range Pv h0 hs hd⟩
/-- [e for x in xs if t] -/
theorem w_lcL {a : Addr} {xs : List V} (s : SqL K H a xs) (hz : xs.length < sizeLine) (Iv : Nat → List V → Prop) (I0 : Iv 0 [])
    (turn : ∀ i x H' acc, xs[i]? = some x → Same H H' → Iv i acc → acc.length ≤ i → ∀ (R : VK) (S : Hp → Prop), (∀ y H4, Same H' H4 → Iv (i + 1) (acc ++ [y]) → R y H4) → (∀ H3, Same H' H3 → Iv (i + 1) acc → S H3) →
      g x (wipe σ vs) H' fun σ2 H2 => wipe σ2 vs = wipe σ vs ∧ tt σ2 H2 fun b H3 => if b = true then te σ2 H3 R else S H3)
    (done : ∀ p H' acc, H p = none → Same H H' → H' p = some (.lst acc) → Iv xs.length acc → Q (.ref p) H') : rLcL K g tt te vs σ (.ref a) H Q := ⟨a, rfl, ⟨xs, s⟩, lcS_list s hz Iv I0 turn done⟩
theorem w_lcR1 {n : Int} (h1 : -(2 ^ 62) ≤ n) (h2 : n < 2 ^ 62) (hz : n.toNat < sizeLine) (Iv : Nat → List V → Prop) (I0 : Iv 0 [])
    (turn : ∀ i H' acc, i < n.toNat → Same H H' → Iv i acc → acc.length ≤ i → ∀ (R : VK) (S : Hp → Prop), (∀ y H4, Same H' H4 → Iv (i + 1) (acc ++ [y]) → R y H4) → (∀ H3, Same H' H3 → Iv (i + 1) acc → S H3) →
      g (.int (0 + i)) (wipe σ vs) H' fun σ2 H2 => wipe σ2 vs = wipe σ vs ∧ tt σ2 H2 fun b H3 => if b = true then te σ2 H3 R else S H3)
    (done : ∀ p H' acc, H p = none → Same H H' → H' p = some (.lst acc) → Iv n.toNat acc → Q (.ref p) H') : rLcR1 g tt te vs σ [.int n] H Q := ⟨n, rfl, h1, h2, lcS_rng hz Iv I0 turn done⟩
theorem w_lcR2 {m n : Int} (hb : -(2 ^ 62) ≤ m ∧ m < 2 ^ 62 ∧ -(2 ^ 62) ≤ n ∧ n < 2 ^ 62) (hz : (n - m).toNat < sizeLine) (Iv : Nat → List V → Prop) (I0 : Iv 0 [])
    (turn : ∀ i H' acc, i < (n - m).toNat → Same H H' → Iv i acc → acc.length ≤ i → ∀ (R : VK) (S : Hp → Prop), (∀ y H4, Same H' H4 → Iv (i + 1) (acc ++ [y]) → R y H4) → (∀ H3, Same H' H3 → Iv (i + 1) acc → S H3) →
      g (.int (m + i)) (wipe σ vs) H' fun σ2 H2 => wipe σ2 vs = wipe σ vs ∧ tt σ2 H2 fun b H3 => if b = true then te σ2 H3 R else S H3)
    (done : ∀ p H' acc, H p = none → Same H H' → H' p = some (.lst acc) → Iv (n - m).toNat acc → Q (.ref p) H') : rLcR2 g tt te vs σ [.int m, .int n] H Q := ⟨m, n, rfl, hb, lcS_rng hz Iv I0 turn done⟩
end
/-- an item of a list of ints is an int -/
theorem int_at {ns : List Int} {i : Nat} {y : V} (h : (ns.map V.int)[i]? = some y) : ∃ z, y = V.int z ∧ ns[i]? = some z := by
  rw [List.getElem?_map] at h
  cases e : ns[i]? with
  | none => rw [e] at h; cases h
  | some z => rw [e] at h; exact ⟨z, (Option.some.inj h).symm, rfl⟩
theorem nat_at {ns : List Nat} {i : Nat} {y : V} (h : (ns.map fun z => V.int (z : Nat))[i]? = some y) : ∃ z : Nat, y = V.int (z : Nat) ∧ ns[i]? = some z := by
  rw [List.getElem?_map] at h
  cases e : ns[i]? with
  | none => rw [e] at h; cases h
  | some z => rw [e] at h; exact ⟨z, (Option.some.inj h).symm, rfl⟩
/-! ### built-ins in one form -/
section
variable {X : Cx}
def rInt1 : List V → Hp → VK → Prop := fun xs H Q => ∃ i, xs = [.int i] ∧ Q (.int i) H
theorem call_intI : CallR X (.type "int") rInt1 := fun pins s σ H xs us Q I r h => call_int1 pins s σ H xs us Q I r (.inl h)
def rIntB : List V → Hp → VK → Prop := fun xs H Q => ∃ k : Bool, xs = [.bl k] ∧ Q (.int (if k then 1 else 0)) H
theorem call_intB : CallR X (.type "int") rIntB := fun pins s σ H xs us Q I r h => call_int1 pins s σ H xs us Q I r (.inr h)
def rAbs : List V → Hp → VK → Prop := fun xs H Q => ∃ i, xs = [.int i] ∧ Q (.int (if i < 0 then -i else i)) H
theorem callAbs : CallR X (.builtin "abs") rAbs := call_abs
def rLenS (K : PySem.W.Frag) : List V → Hp → VK → Prop := fun xs H Q => ∃ p ys, xs = [.ref p] ∧ (SqL K H p ys ∨ SqT K H p ys) ∧ Q (.int (ys.length : Nat)) H
theorem callLenS : CallR X (.builtin "len") (rLenS X.K) := call_len_seq
def rListS (K : PySem.W.Frag) : List V → Hp → VK → Prop := fun xs H Q => ∃ p ys, xs = [.ref p] ∧ (SqL K H p ys ∨ SqT K H p ys) ∧ ∀ l, H l = none → Q (.ref l) (upd H l (.lst ys))
theorem callListS : CallR X (.type "list") (rListS X.K) := call_list_of
theorem pip_mul : PIp X .Mult (rI CMul fun i j => .int (i * j)) := iop_mul
theorem pip_fdiv : PIp X .FloorDiv (rI CDiv fun i j => .int (i / j)) := iop_fdiv
end
section
variable {H : Hp} {Q : VK} {i j : Int} {K : PySem.W.Frag}
theorem x_int1 (h : Q (.int i) H) : rInt1 [.int i] H Q := ⟨i, rfl, h⟩
theorem x_intB {k : Bool} (h : Q (.int (if k then 1 else 0)) H) : rIntB [.bl k] H Q := ⟨k, rfl, h⟩
theorem x_abs (h : Q (.int (if i < 0 then -i else i)) H) : rAbs [.int i] H Q := ⟨i, rfl, h⟩
theorem x_lenL {p : Addr} {xs : List V} (s : SqL K H p xs) (h : Q (.int (xs.length : Nat)) H) : rLenS K [.ref p] H Q := ⟨p, xs, rfl, .inl s, h⟩
theorem x_lenT {p : Addr} {xs : List V} (s : SqT K H p xs) (h : Q (.int (xs.length : Nat)) H) : rLenS K [.ref p] H Q := ⟨p, xs, rfl, .inr s, h⟩
theorem x_listL {p : Addr} {xs : List V} (s : SqL K H p xs) (h : ∀ l, H l = none → Q (.ref l) (upd H l (.lst xs))) : rListS K [.ref p] H Q := ⟨p, xs, rfl, .inl s, h⟩
theorem x_new {o : HO} {n : Nat} {P : Addr → HO → Prop} (l : n ≤ sizeLine) (h : ∀ p, H p = none → Q (.ref p) (upd H p o)) : n ≤ sizeLine ∧ ∀ p, H p = none → Q (.ref p) (upd H p o) := ⟨l, h⟩
end
section
theorem x_iteD {p A B : Prop} [Decidable p] (h1 : p → A) (h2 : ¬ p → B) : if decide p = true then A else B := by
  by_cases h : p
  · rw [if_pos (decide_eq_true h)]; exact h1 h
  · rw [if_neg (by simp [h])]; exact h2 h
theorem x_iteN {p A B : Prop} [Decidable p] (h1 : ¬ p → A) (h2 : p → B) : if (!decide p) = true then A else B := by
  by_cases h : p
  · rw [decide_eq_true h]; exact (if_neg (by decide)).mpr (h2 h)
  · rw [decide_eq_false h]; exact (if_pos (by decide)).mpr (h1 h)
theorem x_iteT {A B : Prop} (h : A) : if true = true then A else B := iteT h
theorem x_iteF {A B : Prop} (h : B) : if false = true then A else B := iteF h
theorem x_iteNT {A B : Prop} (h : B) : if (!true) = true then A else B := iteF h
theorem x_iteNF {A B : Prop} (h : A) : if (!false) = true then A else B := iteT h
theorem x_iteB {b : Bool} {A B : Prop} (h1 : b = true → A) (h2 : b = false → B) : if b = true then A else B := by
  cases b
  · exact iteF (h2 rfl)
  · exact iteT (h1 rfl)
theorem x_iteNB {b : Bool} {A B : Prop} (h1 : b = false → A) (h2 : b = true → B) : if (!b) = true then A else B := by
  cases b
  · exact iteT (h1 rfl)
  · exact iteF (h2 rfl)
theorem x_iteDT {p A B : Prop} [Decidable p] (hp : p) (h : A) : if decide p = true then A else B := by
  rw [if_pos (decide_eq_true hp)]; exact h
theorem x_iteDF {p A B : Prop} [Decidable p] (hp : ¬ p) (h : B) : if decide p = true then A else B := by
  rw [if_neg (by simp [hp])]; exact h
theorem x_iteNDT {p A B : Prop} [Decidable p] (hp : ¬ p) (h : A) : if (!decide p) = true then A else B := by
  rw [decide_eq_false hp]; exact iteT h
theorem x_iteNDF {p A B : Prop} [Decidable p] (hp : p) (h : B) : if (!decide p) = true then A else B := by
  rw [decide_eq_true hp]; exact iteF h
theorem atI_of {α : Type} {xs : List α} {i : Int} {v : α} {k : Nat} (h0 : i = (k : Int)) (h : xs[k]? = some v) : atI xs i = some v := by
  subst h0
  exact atI_nat h
theorem ixN_of {n k : Nat} {i : Int} (h0 : i = (k : Int)) (h : k < n) : ixN n i = some k := by
  subst h0
  unfold ixN
  rw [if_pos (by omega), if_pos (by omega)]
  rfl
end
/-! ### calls with keywords -/
/-- a def that is called with n values and keywords ks; gV puts them in the parameters' order -/
structure CalN (P : Program) (w : World) (K : PySem.W.Frag) (mg : Str → Option Value) (base : Heap) (k : Nat) (x : Str) (sp : Sp) (n : Nat) (ks : List Str) (gV : List V → List V → List V) : Prop where
  ex : ∃ (f : Addr) (fd : FuncData) (ps : List Str) (g : List Value → List Value → List Value), FnOk P w K mg base CX0 k f fd ps sp ∧ mg x = some (.ref f) ∧ PySem.W.keepIn K (.ref f) = true ∧ KBn K fd ps n ks g gV
section
variable {X : Cx} {k j n : Nat} {x : Str} {p pos : Pos} {e : Expr} {es : List Expr} {kws : List Keyword} {t tk : TA} {sp : Sp} {ks : List Str} {gV : List V → List V → List V}
theorem pe_cN0 (c : CalN X.prog X.w X.K X.mg X.base k x sp 0 ks gV) (hr : Room j X.A) (hk : k ≤ j) (hg : Gl X x) (hkw : PK X kws tk)
    (hall : (backToKw pos (keywordEach kws X.env)).all (·.1.isSome) = true := by rfl) (hks : (backToKw pos (keywordEach kws X.env)).filterMap (·.1) = ks := by rfl) (hdb : (x == ("__debug__" : Str)) = false := by decide)
    (hpl : ((backTo pos (starEach [] X.env)).any (·.1) || (backToKw pos (keywordEach kws X.env)).any (·.1.isNone)) = false := by rfl) :
    PE X (.Call (.Name x p) [] kws pos) (tCallN 0 ks.length sp gV L2.E0 tNil tk) := by
  obtain ⟨f, fd, ps, g, F, hm, kp, b⟩ := c.ex
  refine ⟨fun pins s σ H Q I h => ?_⟩
  refine wpAny_Call_Name_kw (ld_glob I hg hm ?_ hdb)
  refine PySem.W.callWith_KW0 (h₀ := X.base) I.ok.mod.kin kp hall ?_ hpl
  refine thn (hkw.run pos pins s σ H _ I h) fun ws s2 ⟨zs, H2, I2, rz, l1, l2, q2⟩ => ⟨I2.kIn, ?_⟩
  rw [hks]
  exact run_fnN (us := []) (vs := []) F (hr.mono hk) b pass0 I2 .nil rz rfl l2 q2
theorem pe_cN (c : CalN X.prog X.w X.K X.mg X.base k x sp n ks gV) (hr : Room j X.A) (hk : k ≤ j) (hg : Gl X x) (ha : PA X (e :: es) t) (hkw : PK X kws tk)
    (hall : (backToKw pos (keywordEach kws X.env)).all (·.1.isSome) = true := by rfl) (hks : (backToKw pos (keywordEach kws X.env)).filterMap (·.1) = ks := by rfl) (hdb : (x == ("__debug__" : Str)) = false := by decide)
    (he : starEach (e :: es) X.env = (false, eval e X.env) :: starEach es X.env := by rfl) (hpl : ((backTo pos (starEach (e :: es) X.env)).any (·.1) || (backToKw pos (keywordEach kws X.env)).any (·.1.isNone)) = false := by rfl) :
    PE X (.Call (.Name x p) (e :: es) kws pos) (tCallN n ks.length sp gV L2.E0 t tk) := by
  obtain ⟨f, fd, ps, g, F, hm, kp, b⟩ := c.ex
  exact pe_callN F (hr.mono hk) hg hm kp b pass0 ha hkw hall hks hdb he hpl
end
theorem x_callN {σ : L2.St} {H : Hp} {Q : VK} {n m : Nat} {sp : Sp} {g : List V → List V → List V} {E : XK} {tr tk : TA} (h : tr σ H fun vs H1 => tk σ H1 fun zs H2 => vs.length = n ∧ zs.length = m ∧ sp (g vs zs) H2 Q E) : tCallN n m sp g E tr tk σ H Q := h
/-- isinstance(x, a built-in class): by the type's name -/
theorem x_isTy {K : PySem.W.Frag} {H : Hp} {Q : VK} {x : V} {m n : String} {b : Bool} (t : TyOf K H x (.type m)) (e : PySem.W.kitOne K (.type m) (.type n) = some b) (h : Q (.bl b) H) : rIsi K [x, .ty n] H Q := ⟨_, _, _, _, b, rfl, .ty n, .base t, e, h⟩
end Cb
namespace Cb
open PySem PySem.Spec PyProof.Rows L2
open AutoSeq1 (wpAny_loadPart')
/-! ### dict(d) -/
section
variable {X : Cx}
def rDictOf : List V → Hp → VK → Prop := fun xs H Q => ∃ (a : Addr) (kvs : List (Key × V)), xs = [.ref a] ∧ Rd H a (.dK kvs) ∧ ∀ p, H p = none → Q (.ref p) (upd H p (.dK kvs))
theorem call_dict_of : CallR X (.type "dict") rDictOf := by
  intro pins s σ H xs us Q I r h
  obtain ⟨a, kvs, e, hk, q⟩ := h
  subst e
  obtain ⟨u, eu, rx⟩ := vals1 r
  subst eu
  obtain rfl : u = Value.ref a := rx
  exact d_copyOf I hk fun p s' hp I' => ⟨.ref p, _, I', rfl, q p hp⟩
end
/-! ### list(d.values()) -/
def rVals : V → Hp → VK → Prop := fun x H Q => ∃ (d : Addr) (kvs : List (Key × V)), x = .ref d ∧ H d = some (.dK kvs) ∧ ∀ p, H p = none → Q (.ref p) (upd H p (.lst (kvs.map (·.2))))
def tListVals (te : TE) : TE := fun σ H Q => te σ H fun x H1 => rVals x H1 Q
section
variable {X : Cx} {e : Expr} {te : TE} {p apos cpos pos : Pos}
theorem pe_listVals (hc : X.calm = true) (he : PE X e te) (hg : Gl X "list") (hm : X.mg "list" = none) (hv : bootBuiltins "list" = some (.type "list")) (hbase : attributeBase e "values" X.env (eval e X.env) = eval e X.env := by rfl) (hline : (apos.endLine == cpos.line) = true := by rfl)
    (hs : starEach [.Call (.Attribute e "values" apos) [] [] cpos] X.env = (false, eval (.Call (.Attribute e "values" apos) [] [] cpos) X.env) :: starEach [] X.env := by rfl) :
    PE X (.Call (.Name "list" p) [.Call (.Attribute e "values" apos) [] [] cpos] [] pos) (tListVals te) := by
  refine ⟨fun pins s σ H Q I hq => ?_⟩
  refine wpAny_Call_Name_kw (ld_blt I hg hm hv ?_)
  refine PyProof.Rows.callWith_type1 ?_ hs rfl
  rw [hs]
  show wpAny _ _ (spliced ((false, eval (.Call (.Attribute e "values" apos) [] [] cpos) X.env) :: backTo pos (starEach [] X.env))) _ _ s
  refine Calls.spliced_cons ?_
  refine wpAny_Call_method (T := "dict") (id := "dict.values") hbase rfl hline F.plainAttrs_dict F.slot_dict_values F.type_dict_values (thn (he.run pins s σ H _ I hq) fun u s1 ⟨x, H1, I1, rx, d, kvs, ex, hd, q⟩ => ?_)
  subst ex
  obtain rfl : u = Value.ref d := rx
  obtain ⟨hz, hs0, vs, kv, hdo⟩ := I1.hok d _ hd
  obtain ⟨ep, hat⟩ := hdo.dictAt
  have lk : kvs.length = vs.length := Paired.length kv
  have I2 : Inv X pins σ H1 { s1 with heap := s1.heap.push { cls := .type "dict_values", data := .fields #[.ref d] } } := I1.kept (t' := s1.toks) fun b ob q => Heap.get?_push_of_some _ q
  refine ⟨hdo.typeIs, hdo.mapOf.noDict, ?_⟩
  show wpAny _ _ (callWith cpos (.builtin "dict.values") [.ref d] [] []) _ X.xe s1
  refine method_meetsIn F.slot_dict_values F.entry_dict_values rfl (PySem.evalArgs_none ⟨rfl, hdo.typeIs, F.args_dict_values_1 _, _, meets_dict_values (mixKind X.prog X.w) d hs0, ⟨vs, hdo⟩, ?_⟩)
  refine Calls.spliced_nil ?_
  refine PySem.W.kdl_call (PySem.W.kdl_values (knd := mixKind X.prog X.w) (kvs := vs) (ep := ep)) (I1.ok.hd hc) ⟨⟨_, Heap.get?_push_size _ rfl, rfl, rfl⟩, hat.push _⟩ (by omega) fun h' tk acc' c' hkeep hS hacc => ?_
  refine ⟨.ref _, upd H1 _ (.lst (kvs.map (·.2))), I2.laid hkeep (Nat.le_refl _) (show ObjOk X.prog X.w _ _ _ (.lst (kvs.map (·.2))) from ⟨?_, acc'.toList, c', ?_, ?_⟩), rfl, q _ (I2.hok.fresh (Nat.le_refl _))⟩
  · rw [List.length_map]; exact hz
  · have el : acc'.toList.length = acc'.size := by simp
    refine vals_of_at (by rw [List.length_map, el, hacc.1, lk]) fun j x w h1 h2 => ?_
    obtain ⟨k, hky⟩ := hacc.2 j w (by rw [← Array.getElem?_toList]; exact h2)
    rw [List.getElem?_map] at h1
    cases ekv : kvs[j]? with
    | none => rw [ekv] at h1; cases h1
    | some pr =>
      rw [ekv] at h1
      cases h1
      obtain ⟨y, f1, f2⟩ := LiI.paired_get kv ekv
      rw [hky] at f1
      cases f1
      exact f2.2
  · rw [Array.toArray_toList]; exact hS
end
/-! ### l.index(x, i) -/
section
variable {X : Cx}
def rIndexFrom (K : PySem.W.Frag) : V → List V → Hp → VK → Prop := fun x xs H Q => ∃ (a : Addr) (ys : List V) (y : V) (i j : Nat) (z : V), x = V.ref a ∧ xs = [y, .int (i : Nat)] ∧ SqL K H a ys ∧ flatV y = true ∧ ys.all flatV = true ∧ i ≤ j ∧ ys[j]? = some z ∧ eqV z y = true ∧
  (∀ (m : Nat) (z' : V), i ≤ m → m < j → ys[m]? = some z' → eqV z' y = false) ∧ Q (.int (j : Nat)) H
theorem mt_indexFrom : MtR X "list.index" (rIndexFrom X.K) := by
  intro pins s σ H x xs v us Q I rx rxs h
  obtain ⟨a, ys, y, i, j, z, rfl, rfl, hs, fy, fys, hij, hz, hzj, hno, q⟩ := h
  cases rx
  cases rxs with
  | cons ry rt =>
    rename_i uy ut
    obtain ⟨ui, eu, ri⟩ := vals1 rt
    subst eu
    obtain ⟨ti, rfl⟩ := ri
    obtain ⟨its, rv, ⟨⟨cls, dd, data, sl⟩, n, ho, hc, hdn, hd⟩, hlen⟩ := I.list hs
    simp only at hc hd
    subst hc hd
    have hvl := rv.length
    have hsl := sizeLine_eq
    have hjy : j < ys.length := (List.getElem?_eq_some_iff.mp hz).1
    have hj : j < its.toArray.size := by
      rw [List.size_toArray]
      omega
    refine call_meets PySem.F.slot_list_index ⟨_, ho, rfl⟩ PySem.F.entry_list_index (PySem.F.args_list_index_3 _ _ _)
      (SeqAt.list_index3_found a its.toArray n dd sl uy (fun m => match ys[m]? with | some z' => eqV z' y | none => false) (i : Int) ti j hj (by rw [SeqAt.searchFrom_nat]; exact hij) (by omega) ?_ ?_) ⟨ho, fun m hm => ?_, ?_⟩
    · rw [hz]; exact hzj
    · intro m hm h1 h2
      rw [SeqAt.searchFrom_nat] at h1
      cases e : ys[m]? with
      | none => rfl
      | some z' => exact hno m z' h1 h2 e
    · have hml : m < its.length := by simpa using hm
      have hmy : m < ys.length := by omega
      have hy' : ys[m]? = some ys[m] := List.getElem?_eq_getElem hmy
      obtain ⟨u2, hu2, ru2⟩ := rv.get hy'
      obtain ⟨_, hme⟩ := List.getElem?_eq_some_iff.mp hu2
      have e1 : its.toArray[m] = u2 := by simpa using hme
      rw [e1, hy']
      exact eqAt_V ru2 ry (flat_at fys hy') fy
    · exact ⟨.int (j : Nat), H, I.tok _, ⟨_, rfl⟩, q⟩
end
/-! ### tuple(x) of a list, a tuple, a dict -/
section
variable {prog : Program} {w : World} {A : Around} {E : Value → Shared → Prop} {s : Shared} {T : String} {r d : Addr} {n : Nat} {P : Nat → Value → Prop} {OK : Heap → Prop}
theorem collect_kdl {Q : List Value → Shared → Prop} (K : PySem.W.KdlSrc prog w T r d n P OK) (hh : A.handled = none) (hok : OK s.heap) (hn : n ≤ sizeLine)
    (hQ : ∀ (h' : Heap) (tk : Nat) (acc : Array Value), (∀ b o, s.heap.get? b = some o → h'.get? b = some o) → ItemsOf P acc n → Q acc.toList { s with heap := h', toks := tk }) :
    wpAny (model prog w) A (collect (.ref r)) Q E s := by
  have hlt := K.there _ hok
  unfold collect
  refine wpAny_bind (wpAny_runValue (codeAny_builtin F.entry_proto_collect ?_))
  rw [Around.under_plainId F.plain_proto_collect _]
  show wpAny _ A.in1 (newList [] >>= fun l => again (.builtin "list.__iadd__" ⟨[l, .ref r], []⟩)) _ _ s
  refine wpAny_bind (wpAny_newObj_type ?_)
  refine wpAny_pure ⟨plainId_quiet F.plain_list_iadd _, codeAny_builtin F.entry_list_iadd ?_⟩
  rw [Around.under_plainId F.plain_list_iadd _]
  show wpAny _ A.in1 (Builtin.List.listExtendWith (.ref s.heap.objs.size) (.ref r) (.ref s.heap.objs.size)) _ _ _
  have hS : (s.heap.push { cls := .type "list", data := .seq ([] : List Value).toArray }).get? s.heap.objs.size = some { cls := .type "list", data := .seq #[] 0 } := Heap.get?_push_size _ rfl
  refine wpAny_mono (PySem.W.kdl_extend (A := A) (R := fun rr s' => rr = .ok (.ret (.ref s.heap.objs.size)) ∧ ∃ (h' : Heap) (tk : Nat) (acc : Array Value) (c' : Nat), s' = { s with heap := h', toks := tk } ∧
      (∀ b o, s.heap.get? b = some o → h'.get? b = some o) ∧ h'.get? s.heap.objs.size = some { cls := .type "list", dict := none, data := .seq acc c', slots := #[] } ∧ ItemsOf P acc n)
    (s := { s with heap := s.heap.push { cls := .type "list", data := .seq ([] : List Value).toArray } }) K hh (K.keep _ _ hok fun b _ o e => Heap.get?_push_of_some _ e) s.heap.objs.size (Nat.ne_of_gt hlt.1) (Nat.ne_of_gt hlt.2) _ 0 hS
    (fun h' tk acc c' hk e hi => ⟨rfl, h', tk, acc, c', rfl, fun b o q => hk b o (Nat.ne_of_lt (Heap.lt_size q)) (Heap.get?_push_of_some _ q), e, hi⟩) hn) (fun fin s' h => ?_) (fun e s' h => ?_)
  · cases fin with
    | done f =>
      obtain ⟨e, h', tk, acc, c', rfl, hk, hS', hi⟩ := h
      cases e
      show wpAny _ A (load s.heap.objs.size >>= _) _ _ _
      exact wpAny_bind (wpAny_load hS' (wpAny_pure (hQ h' tk acc hk hi)))
    | again c' =>
      refine ⟨h.1, codeAny_mono h.2 fun rr s'' hr' => ?_⟩
      obtain ⟨rfl, h', tk, acc, c', rfl, hk, hS', hi⟩ := hr'
      show wpAny _ A (load s.heap.objs.size >>= _) _ _ _
      exact wpAny_bind (wpAny_load hS' (wpAny_pure (hQ h' tk acc hk hi)))
  · exact absurd h.1 (by simp)
theorem code_tuple_new_kdl {Q₁ : Value → Shared → Prop} (K : PySem.W.KdlSrc prog w "dict" r d n P OK) (hh : A.handled = none) (hok : OK s.heap) (hn : n ≤ sizeLine)
    (h : ∀ (h' : Heap) (tk : Nat) (acc : Array Value), (∀ b o, s.heap.get? b = some o → h'.get? b = some o) → ItemsOf P acc n →
      Q₁ (.ref h'.objs.size) { s with heap := h'.push { cls := .type "tuple", data := .seq acc }, toks := tk }) :
    codeAny (model prog w) A (.call (.builtin "tuple.__new__") ⟨[.type "tuple", .ref r], []⟩) (wants Q₁ E) s := by
  refine codeAny_of_tree ?_
  show wpAny _ A.in1 (do checkBuiltinCall "tuple.__new__" ⟨[.type "tuple", .ref r], []⟩; again (.builtin "tuple.__new__" ⟨[.type "tuple", .ref r], []⟩)) _ _ s
  refine wpAny_bind (wpAny_of_eq (F.newCall_tuple_1 _) (wpAny_pure ⟨plainId_quiet F.plain_tuple_new _, codeAny_builtin F.entry_tuple_new ?_⟩))
  rw [Around.under_plainId F.plain_tuple_new _]
  have hsub := sub_tuple_self
  have hinit := init_tuple_lookup
  have hmh := madeHere_tuple
  have hTI : s.TypeIs (.ref r) "dict" := K.type s hok
  have hh1 : A.in1.handled = none := hh
  wp_walk using wpAny_typeOf hTI, collect_kdl (A := A.in1) K hh1 hok hn
  intro h' tk acc hk hacc
  show wpAny _ _ (Builtin.Tuple.tupleExact acc.toList.toArray >>= fun v => ret v) _ _ _
  unfold Builtin.Tuple.tupleExact
  refine wpAny_bind (wpAny_newObj_type ?_ (by show acc.toList.toArray.size ≤ sizeLine; simp only [Array.toArray_toList]; rw [hacc.1]; exact hn))
  refine wpAny_pure ?_
  have e : acc.toList.toArray = acc := by simp
  rw [e]
  exact h h' tk acc hk hacc
theorem call_tuple_kdl {Q : Value → Shared → Prop} (K : PySem.W.KdlSrc prog w "dict" r d n P OK) (hh : A.handled = none) (hok : OK s.heap) (hn : n ≤ sizeLine)
    (hQ : ∀ (h' : Heap) (tk : Nat) (acc : Array Value), (∀ b o, s.heap.get? b = some o → h'.get? b = some o) → ItemsOf P acc n →
      Q (.ref h'.objs.size) { s with heap := h'.push { cls := .type "tuple", data := .seq acc }, toks := tk }) :
    wpAny (model prog w) A (call (.type "tuple") [.ref r]) Q E s := by
  refine callType_codes (Q₁ := fun obj s₁ => s₁.TypeIs obj "tuple" ∧ Q obj s₁) F.called_tuple (F.typeCall_tuple_1 _) F.entry_object_init
    (code_tuple_new_kdl (A := A.in1) K hh hok hn fun h' tk acc hk hacc => ⟨⟨_, Heap.get?_push_size _ rfl, rfl⟩, hQ h' tk acc hk hacc⟩) fun obj s₁ h₁ => ?_
  exact ⟨h₁.1, F.args_object_init_2 obj _, object_init_meets F.called_tuple.init.lookup F.called_tuple.made (by decide) prog w A.in1 _ s₁ ⟨h₁.1, rfl, h₁.2⟩⟩
end
section
variable {X : Cx}
def rTupOf (K : PySem.W.Frag) : List V → Hp → VK → Prop := fun vs H Q => ∃ p, vs = [.ref p] ∧ ((∃ xs, SqL K H p xs ∧ ∀ q, H q = none → Q (.ref q) (upd H q (.tup xs))) ∨ (∃ xs, SqT K H p xs ∧ Q (.ref p) H) ∨
  ∃ kvs : List (Key × V), H p = some (.dK kvs) ∧ ∀ q, H q = none → Q (.ref q) (upd H q (.tup (kvs.map fun kv => kV kv.1))))
theorem call_tupOf (hc : X.calm = true) : CallR X (.type "tuple") (rTupOf X.K) := by
  intro pins s σ H xs us Q I r h
  obtain ⟨p, rfl, h⟩ := h
  obtain ⟨v, rfl, rx⟩ := vals1 r
  rcases h with ⟨xs, hs, q⟩ | ⟨xs, hs, q⟩ | ⟨kvs, hk, q⟩
  · exact rl_tuple pins s σ H (.ref p) v Q I rx (.inl ⟨p, xs, rfl, hs, q⟩)
  · exact rl_tuple pins s σ H (.ref p) v Q I rx (.inr ⟨p, xs, rfl, hs, q⟩)
  · obtain rfl : v = Value.ref p := rx
    obtain ⟨z, lo, vs, rk, hd⟩ := (show ObjOk X.prog X.w H s.heap p (.dK kvs) from I.hok p _ hk)
    obtain ⟨ep, hat⟩ := hd.dictAt
    have hl : kvs.length = vs.length := Paired.length rk
    refine call_tuple_kdl (PySem.W.kdl_dict (knd := mixKind X.prog X.w) (kvs := vs) (ep := ep) lo) (I.ok.hd hc) hat (by rw [← hl]; exact z) fun h' tk acc' hkeep hacc => ?_
    have I1 : Inv X pins σ H { s with heap := h', toks := tk } := I.kept (t' := tk) hkeep
    refine ⟨.ref h'.objs.size, upd H h'.objs.size (.tup (kvs.map fun kv => kV kv.1)), I1.laid (t' := tk) (fun b o e => Heap.get?_push_of_some _ e) (Nat.le_refl _) (show ObjOk X.prog X.w _ _ _ (.tup (kvs.map fun kv => kV kv.1)) from ⟨?_, acc'.toList, ?_, ?_⟩), rfl, q _ (I1.hok.fresh (Nat.le_refl _))⟩
    · rw [List.length_map]; exact z
    · have el : acc'.toList.length = acc'.size := by simp
      refine vals_of_at (by rw [List.length_map, el, hacc.1, hl]) fun j x w h1 h2 => ?_
      obtain ⟨k, y, hky, hi⟩ := hacc.2 j w (by rw [← Array.getElem?_toList]; exact h2)
      have e1 : (kvs.map (·.1))[j]? = some k := by
        rw [KV.keys rk, List.getElem?_map, hky] <;> rfl
      have e2 : (kvs.map fun kv => kV kv.1)[j]? = some (kV k) := by
        have e3 : (kvs.map fun kv => kV kv.1) = (kvs.map (·.1)).map kV := by rw [List.map_map] <;> rfl
        rw [e3, List.getElem?_map, e1] <;> rfl
      rw [e2] at h1
      cases h1
      exact keyIs_rel hi
    · rw [Array.toArray_toList]
      exact IsTup.new _ _
end
/-! ### a walk over a list or a tuple -/
section
variable {X : Cx} {tg : Expr}
def SqA (K : PySem.W.Frag) (H : Hp) (a : Addr) (xs : List V) : Prop := SqL K H a xs ∨ SqT K H a xs
def iSeq (K : PySem.W.Frag) (tl : TE) : TI := fun σ H R => tl σ H fun x H1 => ∃ a, x = .ref a ∧ (((∃ xs, SqL K H1 a xs) ∧ R (Itl K a) H1) ∨ ((∃ xs, SqT K H1 a xs) ∧ R (Itt K a) H1))
theorem pi_seq {l : Expr} {tl : TE} (hl : PE X l tl) : PI X tg l (iSeq X.K tl) := by
  refine ⟨fun pins s σ H R I h => ?_⟩
  refine thn (hl.run pins s σ H _ I h) fun v s1 ⟨x, H1, I1, r1, q1⟩ => ?_
  obtain ⟨a, e, q⟩ := q1
  subst e
  cases r1
  rcases q with ⟨⟨xs, hq⟩, q⟩ | ⟨⟨xs, hq⟩, q⟩
  · obtain ⟨its, rv, p, hz⟩ := I1.list hq
    refine wpAny_pyIter_list p.isList ?_
    refine ⟨s1.heap.objs.size, [s1.heap.objs.size], _, _, H1, rfl, I1.kept (t' := s1.toks) fun b o e => Heap.get?_push_of_some _ e, turn_list a _, ⟨_, Heap.get?_push_size _ rfl, rfl, rfl⟩, fun b hb => ?_, q⟩
    have e : b = s1.heap.objs.size := by simpa using hb
    subst e
    exact I1.fpOk (Nat.le_refl _) (I1.hok.fresh (Nat.le_refl _))
  · obtain ⟨its, rv, p, hz⟩ := I1.tuple hq
    refine wpAny_pyIter_tuple (show s1.heap.IsTuple a its.toArray from p) ?_
    refine ⟨s1.heap.objs.size, [s1.heap.objs.size], _, _, H1, rfl, I1.kept (t' := s1.toks) fun b o e => Heap.get?_push_of_some _ e, turn_tuple a _, ⟨_, Heap.get?_push_size _ rfl, rfl, rfl⟩, fun b hb => ?_, q⟩
    have e : b = s1.heap.objs.size := by simpa using hb
    subst e
    exact I1.fpOk (Nat.le_refl _) (I1.hok.fresh (Nat.le_refl _))
end
/-! ### enumerate(tuple) -/
theorem meets_enumerate_newT (l : Addr) (items : Array Value) (n : Nat) (dct : Option Addr) (sl : Array (Option Value)) :
    Meets (Builtin.«enumerate.__new__» ⟨[.type "enumerate", .ref l], []⟩) (fun _ R s => s.heap.get? l = some { cls := .type "tuple", dict := dct, data := .seq items n, slots := sl } ∧
      R (.ok (.ret (.ref (s.heap.push { cls := .type "tuple_iterator", data := .fields #[.ref l, .int 0 0] }).objs.size)))
        { s with heap := (s.heap.push { cls := .type "tuple_iterator", data := .fields #[.ref l, .int 0 0] }).push { cls := .type "enumerate", data := .fields #[.none, .bool false, .ref s.heap.objs.size, rawInt 0, .none, .none] } }) :=
  .of_wp fun prog w A R s h => by
    obtain ⟨hp, g, d, tk, os⟩ := s; obtain ⟨hl, h⟩ := h
    have hsub := sub_enumerate
    have hL : Heap.IsTuple (Shared.heap ⟨hp, g, d, tk, os⟩) l items := ⟨_, hl, rfl, n, rfl⟩
    wp_walk using wpAny_loadPart' hl
    refine wpAny_stack_any fun st => wpAny_pure ?_
    split
    · rename_i c _ _ _ _ _
      cases (c == Value.type "enumerate")
      · wp_walk using wpAny_loadPart' hl, wpAny_pyIter_tuple hL
        exact ⟨_, rfl, h⟩
      · wp_walk using wpAny_loadPart' hl, wpAny_pyIter_tuple hL
        exact ⟨_, rfl, h⟩
    · wp_walk using wpAny_loadPart' hl, wpAny_pyIter_tuple hL
      exact ⟨_, rfl, h⟩
section
variable {prog : Program} {w : World} {A : Around} {E : Value → Shared → Prop} {s : Shared}
theorem call_enumerate_tup {l : Addr} {items : Array Value} {Q : Value → Shared → Prop} (hL : s.heap.IsTuple l items)
    (h : ∀ h', IsEnum h' (s.heap.objs.size + 1) s.heap.objs.size 0 .none → h'.IsTupleIter s.heap.objs.size l 0 → h'.objs.size = s.heap.objs.size + 2 →
      (∀ b o, s.heap.get? b = some o → h'.get? b = some o) → Q (.ref (s.heap.objs.size + 1)) { s with heap := h' }) :
    wpAny (model prog w) A (call (.type "enumerate") [.ref l]) Q E s := by
  obtain ⟨⟨c, dct, dt, sl⟩, hl, hc, n, hd⟩ := hL
  replace hc : c = .type "tuple" := hc
  replace hd : dt = .seq items n := hd
  subst hc hd
  refine callType_new F.called_enumerate (by decide) (F.typeCall_enumerate_1 _) (F.newCall_enumerate_1 _) (fun obj => F.args_object_init_2 obj _) F.entry_enumerate_new
    (meets_enumerate_newT l items n dct sl) ⟨hl, ?_⟩
  have hz : (s.heap.push { cls := .type "tuple_iterator", data := .fields #[.ref l, .int 0 0] }).objs.size = s.heap.objs.size + 1 := Heap.size_push ..
  show _ ∧ _
  rw [hz]
  have he : IsEnum ((s.heap.push { cls := .type "tuple_iterator", data := .fields #[.ref l, .int 0 0] }).push
      { cls := .type "enumerate", data := .fields #[.none, .bool false, .ref s.heap.objs.size, rawInt 0, .none, .none] }) (s.heap.objs.size + 1) s.heap.objs.size 0 .none := by
    have := Heap.get?_push_size (s.heap.push { cls := .type "tuple_iterator", data := .fields #[.ref l, .int 0 0] })
      (o := { cls := .type "enumerate", data := .fields #[.none, .bool false, .ref s.heap.objs.size, rawInt 0, .none, .none] }) rfl
    rw [hz] at this; exact this
  refine ⟨⟨_, he, rfl⟩, h _ he ⟨_, Heap.get?_push_of_some _ (Heap.get?_push_size _ rfl), rfl, rfl⟩ (by rw [Heap.size_push, hz]) fun b o x => Heap.get?_push_of_some _ (Heap.get?_push_of_some _ x)⟩
end
def Itet (K : PySem.W.Frag) (a : Addr) : It :=
  ⟨fun i H => ∃ (xs : List V) (x : V), SqT K H a xs ∧ xs[i]? = some x, fun i H v H' => ∃ T x, v = .ref T ∧ H T = none ∧ H' = upd H T (.tup [.int (i : Nat), x]) ∧ ∀ xs, SqT K H a xs → xs[i]? = some x, fun i H => ∃ xs : List V, SqT K H a xs ∧ xs.length = i⟩
theorem turn_enumT {P : Program} {w : World} {K : PySem.W.Frag} {elts : List Expr} {kk : Nat} {tpos : Pos} (a e it : Addr) :
    Turn P w K (.Tuple elts kk tpos) (Itet K a) [e, it] e (fun i h => (∃ old, IsEnum h e it ((i : Nat) : Int) old) ∧ h.IsTupleIter it a i ∧ e ≠ it ∧ a ≠ it ∧ a ≠ e) where
  mem := by simp
  obj := fun i h st b hb => by
    obtain ⟨⟨old, he⟩, ⟨o, ho, hc, hd⟩, _⟩ := st
    have e' : b = e ∨ b = it := by simpa using hb
    rcases e' with z | z
    · rw [z]; exact ⟨_, he, fun v q => nomatch q⟩
    · rw [z]; exact ⟨o, ho, fun v q => by rw [hd] at q; cases q⟩
  keep := fun i h h' st k => let ⟨⟨old, he⟩, hi, hne⟩ := st; ⟨⟨old, k e (by simp) _ he⟩, hi.at fun o q => k it (by simp) o q, hne⟩
  item := by
    intro X hP hw hK hc i pins s σ H E I hf st hg
    subst hP hw hK
    obtain ⟨⟨old, he⟩, hit, hne, hai, hae⟩ := st
    obtain ⟨xs, x, hq, hx⟩ := hg
    obtain ⟨its, rv, p, hz⟩ := I.tuple hq
    obtain ⟨u, hu, ru⟩ := rv.get hx
    have hel : e < s.heap.objs.size := Heap.lt_size he
    have hil : it < s.heap.objs.size := by obtain ⟨_, q, _⟩ := hit; exact Heap.lt_size q
    have hlt : i < its.toArray.size := by
      have := (List.getElem?_eq_some_iff.mp hu).1
      simpa using this
    refine wpAny_pyNext_enum_itemD (Draws.tuple (A := X.A.in1) (I.ok.hd hc) it a hai its.toArray) he ⟨hit, show s.heap.IsTuple a its.toArray from p⟩ hlt hne (by simp; exact ⟨hne, Ne.symm hae⟩) fun x' h' tk hx' ho hit' hT hsz hk => ?_
    have ex' : x' = u := by
      have h1 : its.toArray[i]? = some x' := hx'
      have h2 : its.toArray[i]? = some u := by simpa using hu
      rw [h1] at h2
      exact Option.some.inj h2
    subst ex'
    refine ⟨_, rfl, wpAny_letOwnedTupleGo_enum (s := { s with heap := h', toks := tk + 1 }) ho fun h'' he' sb => ?_⟩
    have hT2 : h''.get? s.heap.objs.size = some { cls := .type "tuple", data := .seq #[.int i tk, x'] } := (sb.2 _ (Nat.ne_of_gt hel)).trans hT
    have new : ObjOk X.prog X.w (upd H s.heap.objs.size (.tup [.int (i : Nat), x])) h'' s.heap.objs.size (.tup [.int (i : Nat), x]) :=
      ⟨by show 2 ≤ sizeLine; decide, [.int i tk, x'], .cons ⟨_, rfl⟩ (.cons ru .nil), ⟨_, hT2, rfl, _, rfl⟩⟩
    have I1 : Inv X pins σ (upd H s.heap.objs.size (.tup [.int (i : Nat), x])) { s with heap := h'', toks := tk + 1 } :=
      I.turnedNew (ch := [e, it]) (fun b ob hb q => (sb.2 b (fun z => hb (by simp [z]))).trans (hk b ob (fun z => hb (by simp [z])) (fun z => hb (by simp [z])) q)) hf (Nat.le_refl _) new
    refine ⟨.ref s.heap.objs.size, _, I1, rfl, ⟨_, x, rfl, I.hok.fresh (Nat.le_refl _), rfl, fun ys hy => by rw [I.tuple_inj hy hq]; exact hx⟩, ⟨⟨x', ?_⟩, hit'.1.at fun o q => (sb.2 it (Ne.symm hne)).trans q, hne, hai, hae⟩, fun b hb => ?_⟩
    · have e1 : ((i + 1 : Nat) : Int) = (i : Int) + 1 := by omega
      rw [e1]; exact he'
    · have hb' : b < s.heap.objs.size := by
        have e' : b = e ∨ b = it := by simpa using hb
        rcases e' with z | z
        · rw [z]; exact hel
        · rw [z]; exact hil
      rw [upd_ne (Nat.ne_of_lt hb')]
      exact (hf b hb).1
  done := by
    intro X hP hw hK hc i pins s σ H E I hf st hg
    subst hP hw hK
    obtain ⟨⟨old, he⟩, hit, hne, hai, hae⟩ := st
    obtain ⟨xs, hq, hx⟩ := hg
    obtain ⟨its, rv, p, hz⟩ := I.tuple hq
    obtain ⟨f0, f1, f2, f3, f4, f5⟩ := hf it (by simp)
    have hl := rv.length
    have en : i = its.toArray.size := by simp; omega
    subst en
    exact wpAny_pyNext_enum_endD (Draws.tuple (A := X.A.in1) (I.ok.hd hc) it a hai its.toArray) he ⟨hit, show s.heap.IsTuple a its.toArray from p⟩ fun h' eb => ⟨rfl, I.turned (t' := s.toks) (fun b o hb q => eb b o hb q) f0 f1 f3 f4 f5⟩
  self := fun A i s Q E st h => let ⟨⟨_, he⟩, _⟩ := st; wpAny_pyIter_enum he h
def iEnumT (K : PySem.W.Frag) (ta : TA) : TI := fun σ H R => ta σ H fun vs H1 => ∃ a xs, vs = [.ref a] ∧ SqT K H1 a xs ∧ R (Itet K a) H1
theorem pi_enumT {X : Cx} {e : Expr} {ta : TA} {p pos tpos : Pos} {elts : List Expr} {kk : Nat} (hg : Gl X "enumerate") (hm : X.mg "enumerate" = none) (ha : PA X [e] ta) (hs : starEach [e] X.env = [(false, eval e X.env)] := by rfl) :
    PI X (.Tuple elts kk tpos) (.Call (.Name "enumerate" p) [e] [] pos) (iEnumT X.K ta) := by
  refine ⟨fun pins s σ H R I h => ?_⟩
  refine Call_ (ld_blt I hg hm boot_enumerate (PyProof.Rows.callWith_type1 (thn (ha.run pos pins s σ H _ I h) fun us s1 ⟨vs, H1, I1, r1, q1⟩ => ?_) hs rfl))
  obtain ⟨a, xs, ex, hq, q⟩ := q1
  subst ex
  cases r1 with
  | cons r rr =>
    cases rr
    cases r
    obtain ⟨its, rv, p', hz⟩ := I1.tuple hq
    have hL : s1.heap.IsTuple a its.toArray := p'
    have hal : a < s1.heap.objs.size := by obtain ⟨o, ho, _⟩ := hL; exact Heap.lt_size ho
    refine call_enumerate_tup hL fun h' he hit hsz hk => wpAny_pyIter_enum he ?_
    have I2 : Inv X pins σ H1 { s1 with heap := h' } := I1.kept (t' := s1.toks) hk
    refine ⟨s1.heap.objs.size + 1, [s1.heap.objs.size + 1, s1.heap.objs.size], _, _, H1, rfl, I2, turn_enumT a (s1.heap.objs.size + 1) s1.heap.objs.size, ⟨⟨.none, he⟩, hit, Nat.succ_ne_self _, Nat.ne_of_lt hal, Nat.ne_of_lt (Nat.lt_succ_of_lt hal)⟩, fun b hb => ?_, q⟩
    have e' : b = s1.heap.objs.size + 1 ∨ b = s1.heap.objs.size := by simpa using hb
    have hle : s1.heap.objs.size ≤ b := by
      rcases e' with z | z
      · rw [z]; exact Nat.le_succ _
      · rw [z]; exact Nat.le_refl _
    exact I1.fpOk hle (I1.hok.fresh hle)
theorem walk_enumT {K : PySem.W.Frag} {a : Addr} {xs : List V} : Walk (Itet K a) xs.length (fun H => SqT K H a xs) (YPair (fun i => some (.int (i : Nat))) (fun i => xs[i]?)) := by
  refine ⟨fun i _ hi q => ⟨xs, xs[i], q, by simp [hi]⟩, fun _ q => ⟨xs, q, rfl⟩, fun i H v H' _ q y => ?_⟩
  obtain ⟨T, x, h1, h2, h3, h4⟩ := y
  exact ⟨T, .int (i : Nat), x, h1, h2, h3, rfl, h4 xs q⟩
end Cb
namespace Cb
open PySem PySem.Spec PyProof.Rows L2
theorem hu_of {k : Nat} {A : Around} (r : Room k A) : A.units + 1 < cLine := by have := r.units; omega
/-! ### more relations, by name -/
section
variable {X : Cx}
def rStrI : List V → Hp → VK → Prop := fun xs H Q => ∃ i : Int, xs = [.int i] ∧ i.natAbs.log2 < 1920 ∧ Q (.str (toString i)) H
theorem call_strI : CallR X (.type "str") rStrI := call_str_int
def rLenDi : List V → Hp → VK → Prop := fun xs H Q => ∃ a kvs, xs = [V.ref a] ∧ H a = some (.dK kvs) ∧ Q (.int (kvs.length : Nat)) H
theorem call_lenDi : CallR X (.builtin "len") rLenDi := call_lenD
def rLenSt : List V → Hp → VK → Prop := fun xs H Q => ∃ z : Str, xs = [.str z] ∧ z.length ≤ sizeLine ∧ Q (.int (z.length : Nat)) H
theorem call_lenSt : CallR X (.builtin "len") rLenSt := call_len_str
def rIntS : List V → Hp → VK → Prop := fun xs H Q => ∃ a n, xs = [.str a] ∧ PySem.intText? a = some n ∧ a.length ≤ 640 ∧ Q (.int n) H
theorem call_intS : CallR X (.type "int") rIntS := call_int_str
def rAddS : R2 := fun x y H Q => ∃ i j, x = .str i ∧ y = .str j ∧ i.length + j.length ≤ sizeLine ∧ Q (.str (i ++ j)) H
theorem op_addS : OpR X (binaryOp .Add) rAddS := op_add_str
def rInSg : R2 := fun x y H Q => ∃ (c : Nat) (z : Str), x = .str ⟨#[c]⟩ ∧ y = .str z ∧ Q (.bl (decide (c ∈ z.cps.toList))) H
theorem op_inSg : OpR X (compareOp .In) rInSg := op_in_sign
def rNiSg : R2 := fun x y H Q => ∃ (c : Nat) (z : Str), x = .str ⟨#[c]⟩ ∧ y = .str z ∧ Q (.bl (!decide (c ∈ z.cps.toList))) H
theorem op_niSg : OpR X (compareOp .NotIn) rNiSg := op_notIn_sign
def rIsNn : R2 := fun x y H Q => y = .non ∧ Q (.bl (decide (x = .non))) H
theorem op_isNn : OpR X (compareOp .Is) rIsNn := op_isN
def rNoNn : R2 := fun x y H Q => y = .non ∧ Q (.bl (!decide (x = .non))) H
theorem op_noNn : OpR X (compareOp .IsNot) rNoNn := op_notN
def rMaxTwo : List V → Hp → VK → Prop := fun xs H Q => ∃ i j : Int, xs = [.int i, .int j] ∧ Q (.int (if j > i then j else i)) H
theorem call_maxTwo (hc : X.calm = true) : CallR X (.builtin "max") rMaxTwo := call_max2 hc
def rMinTwo : List V → Hp → VK → Prop := fun xs H Q => ∃ i j : Int, xs = [.int i, .int j] ∧ Q (.int (if j < i then j else i)) H
theorem call_minTwo (hc : X.calm = true) : CallR X (.builtin "min") rMinTwo := call_min2 hc
def rSplit : V → List V → Hp → VK → Prop := fun x xs H Q => ∃ a b, x = .str a ∧ xs = [.str b] ∧ (b.length == 0) = false ∧ a.length + 2 ≤ sizeLine ∧ rNewStrs (Txt.split a b) H Q
theorem pe_splitR {o e : Expr} {to te : TE} {apos pos : Pos} (ho : PE X o to) (he : PE X e te) (hs : starEach [e] X.env = [(false, eval e X.env)] := by rfl) (hbase : attributeBase o "split" X.env (eval o X.env) = eval o X.env := by rfl) (hline : (apos.endLine == pos.line) = true := by rfl) :
    PE X (.Call (.Attribute o "split" apos) [e] [] pos) (tM1 rSplit to te) := pe_split ho he hs hbase hline
def rInsert : V → List V → Hp → VK → Prop := fun x vs H Q => ∃ (l : Addr) (xs : List V) (i : Int) (y : V), x = .ref l ∧ vs = [.int i, y] ∧ H l = some (.lst xs) ∧ xs.length < sizeLine ∧ 0 ≤ i ∧ i < 2 ^ 63 ∧
  Q .non (upd H l (.lst (xs.take i.toNat ++ y :: xs.drop i.toNat)))
theorem mt_insertR {X : Cx} : MtR X "list.insert" rInsert := fun pins s σ H x xs v us Q I rx rxs h => mt_insert pins s σ H x xs v us Q I rx rxs (by
  obtain ⟨l, ys, i, y, h1, h2, h3, h4, h5, h6, h7⟩ := h
  exact ⟨l, ys, i, y, h1, h2, h3, h4, h5, h6, by rw [List.append_assoc]; exact h7⟩)
end
section
variable {σ : L2.St} {H : Hp} {Q : VK} {D : Ends} {te ta tb tc td ty tx tk tv to : TE} {t u : TS} {tt : TT} {tr : TA} {v y z : V} {i j : Int} {K : PySem.W.Frag}
theorem x_strN {n : Nat} (h : n < 9223372036854775808) (q : Q (.str (SX.S (TL.numL n))) H) : rStrI [.int (n : Nat)] H Q := by
  refine ⟨(n : Nat), rfl, ?_, ?_⟩
  · show ((n : Int).natAbs).log2 < 1920
    rw [Int.natAbs_natCast]
    rcases Nat.eq_zero_or_pos n with e | e
    · subst e; decide
    · exact Nat.lt_of_lt_of_le ((Nat.log2_lt (k := 63) (by omega)).mpr h) (by decide)
  · have e : (toString ((n : Nat) : Int) : Str) = SX.S (TL.numL n) := SX.num_S n
    rw [e]
    exact q
theorem x_lenDi {a : Addr} {kvs : List (Key × V)} (e : H a = some (.dK kvs)) (h : Q (.int (kvs.length : Nat)) H) : rLenDi [.ref a] H Q := ⟨a, kvs, rfl, e, h⟩
theorem x_lenSt {z : Str} (l : z.length ≤ sizeLine) (h : Q (.int (z.length : Nat)) H) : rLenSt [.str z] H Q := ⟨z, rfl, l, h⟩
theorem x_intS {a : Str} {n : Int} (e : PySem.intText? a = some n) (l : a.length ≤ 640) (h : Q (.int n) H) : rIntS [.str a] H Q := ⟨a, n, rfl, e, l, h⟩
theorem x_addS {a b : Str} (l : a.length + b.length ≤ sizeLine) (h : Q (.str (a ++ b)) H) : rAddS (.str a) (.str b) H Q := ⟨a, b, rfl, rfl, l, h⟩
theorem x_inSg {c : Nat} {z : Str} (h : Q (.bl (decide (c ∈ z.cps.toList))) H) : rInSg (.str ⟨#[c]⟩) (.str z) H Q := ⟨c, z, rfl, rfl, h⟩
theorem x_niSg {c : Nat} {z : Str} (h : Q (.bl (!decide (c ∈ z.cps.toList))) H) : rNiSg (.str ⟨#[c]⟩) (.str z) H Q := ⟨c, z, rfl, rfl, h⟩
theorem x_isNn (h : Q (.bl (decide (v = .non))) H) : rIsNn v .non H Q := ⟨rfl, h⟩
theorem x_noNn (h : Q (.bl (!decide (v = .non))) H) : rNoNn v .non H Q := ⟨rfl, h⟩
theorem x_dictOf {a : Addr} {kvs : List (Key × V)} (e : H a = some (.dK kvs)) (h : ∀ p, H p = none → Q (.ref p) (upd H p (.dK kvs))) : rDictOf [.ref a] H Q := ⟨a, kvs, rfl, .inl e, h⟩
theorem x_maxTwo (h : Q (.int (if j > i then j else i)) H) : rMaxTwo [.int i, .int j] H Q := ⟨i, j, rfl, h⟩
theorem x_minTwo (h : Q (.int (if j < i then j else i)) H) : rMinTwo [.int i, .int j] H Q := ⟨i, j, rfl, h⟩
theorem x_gcd (h : Q (.int ((Nat.gcd i.natAbs j.natAbs : Nat) : Int)) H) : rGcd [.int i, .int j] H Q := ⟨i, j, rfl, h⟩
theorem x_tupL {p : Addr} {xs : List V} (s : SqL K H p xs) (h : ∀ q, H q = none → Q (.ref q) (upd H q (.tup xs))) : rTupOf K [.ref p] H Q := ⟨p, rfl, .inl ⟨xs, s, h⟩⟩
theorem x_tupT {p : Addr} {xs : List V} (s : SqT K H p xs) (h : Q (.ref p) H) : rTupOf K [.ref p] H Q := ⟨p, rfl, .inr (.inl ⟨xs, s, h⟩)⟩
theorem x_tupD {p : Addr} {kvs : List (Key × V)} (e : H p = some (.dK kvs)) (h : ∀ q, H q = none → Q (.ref q) (upd H q (.tup (kvs.map fun kv => kV kv.1)))) : rTupOf K [.ref p] H Q := ⟨p, rfl, .inr (.inr ⟨kvs, e, h⟩)⟩
theorem x_listT {p : Addr} {xs : List V} (s : SqT K H p xs) (h : ∀ l, H l = none → Q (.ref l) (upd H l (.lst xs))) : rListS K [.ref p] H Q := ⟨p, xs, rfl, .inr s, h⟩
theorem x_vals {d : Addr} {kvs : List (Key × V)} (e : H d = some (.dK kvs)) (h : ∀ p, H p = none → Q (.ref p) (upd H p (.lst (kvs.map (·.2))))) : rVals (.ref d) H Q := ⟨d, kvs, rfl, e, h⟩
theorem x_listVals (h : te σ H fun x H1 => rVals x H1 Q) : tListVals te σ H Q := h
theorem x_all {a : Addr} {bs : List Bool} (s : SqL K H a (bs.map V.bl)) (h : Q (.bl (bs.all id)) H) : rAll K [.ref a] H Q := ⟨a, bs, rfl, s, h⟩
theorem x_max {a : Addr} {ns : List Int} (s : SqL K H a (ns.map V.int)) (l : 0 < ns.length) (h : ∀ m, m ∈ ns → (∀ y, y ∈ ns → y ≤ m) → Q (.int m) H) : rMax K [.ref a] H Q := ⟨a, ns, rfl, s, l, h⟩
theorem x_cat {p q : Addr} {xs ys : List V} (e1 : H p = some (.lst xs)) (e2 : H q = some (.lst ys)) (l : xs.length + ys.length ≤ sizeLine) (h : ∀ r, H r = none → Q (.ref r) (upd H r (.lst (xs ++ ys)))) : rCat (.ref p) (.ref q) H Q := ⟨p, q, xs, ys, rfl, rfl, e1, e2, l, h⟩
theorem x_rep {p : Addr} {xs : List V} (e1 : H p = some (.lst xs)) (h1 : -(2 ^ 63) ≤ i) (h2 : i < 2 ^ 63) (l : xs.length * i.toNat ≤ sizeLine) (h : ∀ r, H r = none → Q (.ref r) (upd H r (.lst (List.replicate i.toNat xs).flatten))) : rRep (.ref p) (.int i) H Q := ⟨p, i, xs, rfl, rfl, e1, h1, h2, l, h⟩
theorem x_popAt {p : Addr} {xs : List V} {k : Nat} {y : V} (e1 : H p = some (.lst xs)) (hk : xs[k]? = some y) (hl : xs.length < 4611686018427387904) (h : Q y (upd H p (.lst (xs.eraseIdx k)))) : rPopAt (.ref p) [.int (k : Nat)] H Q := by
  have hkl : k < xs.length := (List.getElem?_eq_some_iff.mp hk).1
  refine ⟨p, xs, (k : Nat), k, y, rfl, rfl, e1, by omega, by omega, ?_, hk, h⟩
  unfold seqIndex?
  have h0 : ¬ ((k : Nat) : Int) < 0 := by omega
  simp only [if_neg h0]
  have h1 : (decide ((0 : Int) ≤ (k : Nat)) && decide (((k : Nat) : Int) < (xs.length : Nat))) = true := by
    rw [decide_eq_true (by omega), decide_eq_true (by omega)]
    rfl
  rw [if_pos h1]
  rfl
theorem x_insert {p : Addr} {xs : List V} {k : Nat} {y : V} (e1 : H p = some (.lst xs)) (hl : xs.length < sizeLine) (hk : k < 4611686018427387904) (h : Q .non (upd H p (.lst (xs.take k ++ y :: xs.drop k)))) : rInsert (.ref p) [.int (k : Nat), y] H Q := ⟨p, xs, (k : Nat), y, rfl, rfl, e1, hl, by omega, by omega, by rw [Int.toNat_natCast]; exact h⟩
theorem x_index {p : Addr} {xs : List V} {k : Nat} {y z : V} (s : SqL K H p xs) (fy : flatV y = true) (fx : xs.all flatV = true) (hk : xs[k]? = some z) (he : eqV z y = true) (hn : ∀ (m : Nat) (z' : V), m < k → xs[m]? = some z' → eqV z' y = false) (h : Q (.int (k : Nat)) H) : rIndex K (.ref p) [y] H Q := ⟨p, xs, y, k, z, rfl, rfl, s, fy, fx, hk, he, hn, h⟩
theorem x_indexF {p : Addr} {xs : List V} {k i : Nat} {y z : V} (s : SqL K H p xs) (fy : flatV y = true) (fx : xs.all flatV = true) (hik : i ≤ k) (hk : xs[k]? = some z) (he : eqV z y = true) (hn : ∀ (m : Nat) (z' : V), i ≤ m → m < k → xs[m]? = some z' → eqV z' y = false) (h : Q (.int (k : Nat)) H) : rIndexFrom K (.ref p) [y, .int (i : Nat)] H Q := ⟨p, xs, y, i, k, z, rfl, rfl, s, fy, fx, hik, hk, he, hn, h⟩
/-! #### dicts -/
def rDGet (x y : V) (H : Hp) (Q : VK) : Prop := ∃ a v, x = .ref a ∧ DGet H a y (some v) ∧ Q v H
def rDIn (y x : V) (H : Hp) (Q : VK) : Prop := ∃ a o, x = .ref a ∧ DGet H a y o ∧ Q (.bl o.isSome) H
def rDNi (y x : V) (H : Hp) (Q : VK) : Prop := ∃ a o, x = .ref a ∧ DGet H a y o ∧ Q (.bl (!o.isSome)) H
theorem x_dget (h : td σ H fun x H1 => ty σ H1 fun y H2 => rDGet x y H2 Q) : tDGet td ty σ H Q := h
theorem x_din (h : ty σ H fun y H1 => td σ H1 fun x H2 => rDIn y x H2 Q) : tDIn ty td σ H Q := h
theorem x_dni (h : ty σ H fun y H1 => td σ H1 fun x H2 => rDNi y x H2 Q) : tDNotIn ty td σ H Q := h
theorem x_dgetS {a : Addr} {kvs : List (Key × V)} {s : Str} (e : Rd H a (.dK kvs)) (g : valV kvs (.inr s) = some v) (h : Q v H) : rDGet (.ref a) (.str s) H Q := ⟨a, v, rfl, .inl ⟨kvs, .inr s, e, rfl, g.symm⟩, h⟩
theorem x_dinS {a : Addr} {kvs : List (Key × V)} {s : Str} {o : Option V} (e : Rd H a (.dK kvs)) (g : valV kvs (.inr s) = o) (h : Q (.bl o.isSome) H) : rDIn (.str s) (.ref a) H Q := ⟨a, o, rfl, .inl ⟨kvs, .inr s, e, rfl, g.symm⟩, h⟩
theorem x_dniS {a : Addr} {kvs : List (Key × V)} {s : Str} {o : Option V} (e : Rd H a (.dK kvs)) (g : valV kvs (.inr s) = o) (h : Q (.bl (!o.isSome)) H) : rDNi (.str s) (.ref a) H Q := ⟨a, o, rfl, .inl ⟨kvs, .inr s, e, rfl, g.symm⟩, h⟩
def rDPut (D : Ends) (σ : L2.St) (v x y : V) (H : Hp) : Prop := ∃ a H4, x = .ref a ∧ DPut H a y v H4 ∧ D.nx σ H4
theorem x_dput (h : tv σ H fun v H1 => td σ H1 fun x H2 => ty σ H2 fun y H3 => rDPut D σ v x y H3) : sDPut td ty tv D σ H := h
theorem x_dputS {a : Addr} {kvs : List (Key × V)} {s : Str} (e : H a = some (.dK kvs)) (l : kvs.length < sizeLine) (h : D.nx σ (upd H a (.dK (putK kvs (.inr s) v)))) : rDPut D σ v (.ref a) (.str s) H := ⟨a, _, rfl, DPut.k (k := .inr s) e l, h⟩
theorem x_dnew (h : ∀ p, H p = none → Q (.ref p) (upd H p (.dK []))) : tDNewK σ H Q := h
def rDG3 (a : Addr) (y z : V) (H : Hp) (Q : VK) : Prop := ∃ o : Option V, DGet H a y o ∧ Q (o.getD z) H
def rDG2 (ty tx : TE) (σ : L2.St) (x : V) (H : Hp) (Q : VK) : Prop := ∃ a, x = .ref a ∧ IsD H a ∧ ty σ H fun y H2 => tx σ H2 fun z H3 => rDG3 a y z H3 Q
theorem x_dget2 (h : td σ H fun x H1 => rDG2 ty tx σ x H1 Q) : tDGet2 td ty tx σ H Q := h
theorem x_dg2 {a : Addr} {kvs : List (Key × V)} (e : Rd H a (.dK kvs)) (h : ty σ H fun y H2 => tx σ H2 fun z H3 => rDG3 a y z H3 Q) : rDG2 ty tx σ (.ref a) H Q := ⟨a, rfl, .inl ⟨kvs, e⟩, h⟩
theorem x_dg2S {a : Addr} {kvs : List (Key × V)} {s : Str} {d : V} (e : Rd H a (.dK kvs)) (h : Q ((valV kvs (.inr s)).getD d) H) : rDG3 a (.str s) d H Q := ⟨_, .inl ⟨kvs, .inr s, e, rfl, rfl⟩, h⟩
theorem x_iteS {α : Type} {x : α} {A B : Prop} (h : A) : if (some x).isSome = true then A else B := iteT h
theorem x_iteO {α : Type} {A B : Prop} (h : B) : if (none : Option α).isSome = true then A else B := iteF h
theorem x_iteNS {α : Type} {x : α} {A B : Prop} (h : B) : if (!(some x).isSome) = true then A else B := iteF h
theorem x_iteNO {α : Type} {A B : Prop} (h : A) : if (!(none : Option α).isSome) = true then A else B := iteT h
/-! #### instances -/
def rFld (K : PySem.W.Frag) (f : Str) (x : V) (H : Hp) (Q : VK) : Prop := ∃ a C dx fs v, x = .ref a ∧ H a = some (.ins C dx fs) ∧ Cls K C ∧ NoAttr K C f ∧ fs.lookup f = some v ∧ Q v H
theorem x_fldR {f : Str} (h : ta σ H fun x H1 => rFld K f x H1 Q) : tFld K ta f σ H Q := h
theorem x_fldI {f : Str} {a C dx : Addr} {fs : List (Str × V)} (e : H a = some (.ins C dx fs)) (c : Cls K C) (n : NoAttr K C f) (l : fs.lookup f = some v) (h : Q v H) : rFld K f (.ref a) H Q := ⟨a, C, dx, fs, v, rfl, e, c, n, l, h⟩
def rSFld (K : PySem.W.Frag) (f : Str) (D : Ends) (σ : L2.St) (y x : V) (H : Hp) : Prop := ∃ a C dx fs, x = .ref a ∧ H a = some (.ins C dx fs) ∧ Cls K C ∧ NoAttr K C f ∧ fs.length < 1000 ∧ D.nx σ (upd H a (.ins C dx (putF f y fs)))
theorem x_sfld {f : Str} (h : tv σ H fun y H1 => ta σ H1 fun x H2 => rSFld K f D σ y x H2) : sFld K ta tv f D σ H := h
theorem x_sfldI {f : Str} {a C dx : Addr} {fs fs' : List (Str × V)} (e : H a = some (.ins C dx fs)) (c : Cls K C) (n : NoAttr K C f) (p : putF f y fs = fs') (l : fs.length < 1000) (h : D.nx σ (upd H a (.ins C dx fs'))) : rSFld K f D σ y (.ref a) H := ⟨a, C, dx, fs, rfl, e, c, n, l, by rw [p]; exact h⟩
def rMeth (C : Addr) (m : Str) (sp : Sp) (dvs : List V) (E : XK) (t : TA) (σ : L2.St) (x : V) (H : Hp) (Q : VK) : Prop := ∃ a dx fs, x = .ref a ∧ H a = some (.ins C dx fs) ∧ fs.lookup m = none ∧ t σ H fun vs H2 => sp (x :: (vs ++ dvs)) H2 Q E
theorem x_meth {C : Addr} {m : Str} {sp : Sp} {dvs : List V} {E : XK} (h : ta σ H fun x H1 => rMeth C m sp dvs E tr σ x H1 Q) : tMeth C m sp dvs E ta tr σ H Q := h
theorem x_methI {C a dx : Addr} {m : Str} {sp : Sp} {dvs : List V} {E : XK} {fs : List (Str × V)} (e : H a = some (.ins C dx fs)) (l : fs.lookup m = none) (h : tr σ H fun vs H2 => sp (.ref a :: (vs ++ dvs)) H2 Q E) : rMeth C m sp dvs E tr σ (.ref a) H Q := ⟨a, dx, fs, rfl, e, l, h⟩
theorem x_make {C : Addr} {sp : Sp} {dvs : List V} {E : XK} (h : tr σ H fun vs H1 => ∀ x dx, H1 x = none → H1 dx = none → dx ≠ x → sp (.ref x :: (vs ++ dvs)) (upd (upd H1 dx (.own x)) x (.ins C dx [])) (fun v H2 => v = .non ∧ Q (.ref x) H2) E) : tMake C sp dvs E tr σ H Q := h
/-! #### the same rules, K told: within a comprehension -/
theorem pe_fldK {X : Cx} {K : PySem.W.Frag} {e : Expr} {f : Str} {pos : Pos} {ta : TE} (hK : X.K = K) (he : PE X e ta) (hb : attributeBase e f X.env (eval e X.env) = eval e X.env) : PE X (.Attribute e f pos) (tFld K ta f) := by
  subst hK
  exact pe_fld he hb
theorem ix_listK {X : Cx} {K : PySem.W.Frag} (hK : X.K = K) : IxR X (rIxL K) := by
  subst hK
  exact ix_list
theorem ix_tupK {X : Cx} {K : PySem.W.Frag} (hK : X.K = K) : IxR X (rIxT K) := by
  subst hK
  exact ix_tup
theorem callLenSK {X : Cx} {K : PySem.W.Frag} (hK : X.K = K) : CallR X (.builtin "len") (rLenS K) := by
  subst hK
  exact callLenS
theorem op_inSeqK {X : Cx} {K : PySem.W.Frag} (hK : X.K = K) : OpR X (compareOp .In) (rIn K false) := by
  subst hK
  exact op_in_seq
theorem op_niSeqK {X : Cx} {K : PySem.W.Frag} (hK : X.K = K) : OpR X (compareOp .NotIn) (rIn K true) := by
  subst hK
  exact op_notIn_seq
theorem call_isiKK {X : Cx} {K : PySem.W.Frag} (hK : X.K = K) : CallR X (.builtin "isinstance") (rIsi K) := by
  subst hK
  exact call_isi
/-! #### targets -/
theorem x_gtup {a : Addr} {xs : List V} {n : Nat} {ts : TGs} {R : L2.St → Hp → Prop} (s : SqT K H a xs) (l : xs.length = n) (h : ts xs σ H R) : gTup K n ts (.ref a) σ H R := ⟨a, xs, rfl, s, l, h⟩
theorem x_gunl {a : Addr} {xs : List V} {n : Nat} {ts : TGs} {R : L2.St → Hp → Prop} (s : SqL K H a xs) (l : xs.length = n) (h : ts xs σ H R) : gUnl K n ts (.ref a) σ H R := ⟨a, xs, rfl, s, l, h⟩
theorem x_gcons {tg : TG} {ts : TGs} {r : List V} {R : L2.St → Hp → Prop} (h : tg v σ H fun σ' H' => ts r σ' H' R) : gCons tg ts (v :: r) σ H R := ⟨v, r, rfl, h⟩
theorem x_gnil {R : L2.St → Hp → Prop} (h : R σ H) : gNil [] σ H R := ⟨rfl, h⟩
/-! #### a text's methods -/
def rStrM (r : V → List V → Hp → VK → Prop) (x : V) (xs : List V) (H : Hp) (Q : VK) : Prop := r x xs H Q
theorem x_split {a b : Str} (hb : (b.length == 0) = false) (hl : a.length + 2 ≤ sizeLine) (h : ∀ p, H p = none → Q (.ref p) (upd H p (.lst ((Txt.split a b).map V.str)))) : rSplit (.str a) [.str b] H Q := ⟨a, b, rfl, rfl, hb, hl, h⟩
theorem x_tM1 {r : V → List V → Hp → VK → Prop} (h : to σ H fun x H1 => (∃ a, x = .str a) ∧ te σ H1 fun y H2 => r x [y] H2 Q) : tM1 r to te σ H Q := h
theorem x_isS {z : Str} {R : Prop} (h : R) : (∃ a, V.str z = .str a) ∧ R := ⟨⟨z, rfl⟩, h⟩
end
/-! ### texts: a sign, a part, sign by sign -/
section
variable {σ : L2.St} {H : Hp} {Q : VK} {tx te : TE} {tt : TT} {g : TG} {vs : List Nat} {i : Int}
theorem x_ixS {l : List Nat} {c : Nat} (hl : l.length ≤ sizeLine) (a : atI l i = some c) (h : Q (.str ⟨#[c]⟩) H) : rIxS (.str (SX.S l)) (.int i) H Q := ⟨SX.S l, i, c, rfl, rfl, by rw [SX.S_len]; exact hl, a, h⟩
theorem x_slS {z : Str} {lo hi : Option Int} (l : z.length ≤ sizeLine) (h : Q (.str (Txt.slice z lo hi)) H) : rSlS (.str z) lo hi H Q := ⟨z, rfl, l, by rw [C8.cutS_slice]; exact h⟩
def rLcStr (g : TG) (tt : TT) (te : TE) (vs : List Nat) (σ : L2.St) (x : V) (H : Hp) (Q : VK) : Prop := ∃ z, x = .str z ∧ ∀ p, H p = none → ∃ W : Nat → Nat → Hp → Prop, (∃ m, W 0 m (upd H p (.lst []))) ∧ ∀ k l H, W k l H → ((Its z).stop k H ∧ Q (.ref p) H) ∨ ((Its z).go k H ∧ ∃ Nx : Hp → Prop, (∀ H', Nx H' → ∃ m', m' < l ∧ W (k + 1) m' H') ∧ ∀ x H', (Its z).yld k H x H' → g x (wipe σ vs) H' fun σ2 H2 => wipe σ2 vs = wipe σ vs ∧ tt σ2 H2 fun b H3 => if b = true then te σ2 H3 fun y H4 => ∃ acc, H4 p = some (.lst acc) ∧ acc.length < sizeLine ∧ Nx (upd H4 p (.lst (acc ++ [y]))) else Nx H3)
theorem x_lcStr (h : tx σ H fun x H1 => rLcStr g tt te vs σ x H1 Q) : tLc (iStr tx) g tt te vs σ H Q := h
theorem w_lcStr {l : List Nat} (hz : l.length < sizeLine) (Iv : Nat → List V → Prop) (I0 : Iv 0 [])
    (turn : ∀ i c H' acc, l[i]? = some c → Same H H' → Iv i acc → acc.length ≤ i → ∀ (R : VK) (S : Hp → Prop), (∀ y H4, Same H' H4 → Iv (i + 1) (acc ++ [y]) → R y H4) → (∀ H3, Same H' H3 → Iv (i + 1) acc → S H3) →
      g (.str ⟨#[c]⟩) (wipe σ vs) H' fun σ2 H2 => wipe σ2 vs = wipe σ vs ∧ tt σ2 H2 fun b H3 => if b = true then te σ2 H3 R else S H3)
    (done : ∀ p H' acc, H p = none → Same H H' → H' p = some (.lst acc) → Iv l.length acc → Q (.ref p) H') : rLcStr g tt te vs σ (.str (SX.S l)) H Q := by
  refine ⟨SX.S l, rfl, fun p hp => ?_⟩
  have hs : (SX.S l).cps.size = l.length := by simp [SX.S]
  refine lc_it walk_str (fun i H' => ∃ acc, Same H H' ∧ H' p = some (.lst acc) ∧ Iv i acc ∧ acc.length ≤ i) ⟨[], Same.new hp, upd_same, I0, Nat.le_refl _⟩ (fun _ _ _ _ => True.intro) ?_ ?_
  · rintro i x H0 H' hi ⟨acc, s', hd', iv, hl⟩ ⟨rfl, c, e, rfl⟩
    have e' : l[i]? = some c := by simpa [SX.S] using e
    refine turn i c H' acc e' s' iv hl _ _ (fun y H4 q iv' => ?_) fun H3 q iv' => ?_
    · exact ⟨acc, q _ _ hd', by omega, acc ++ [y], Same.mut (Same.trans s' q) hp, upd_same, iv', by rw [List.length_append, List.length_singleton]; omega⟩
    · exact ⟨acc, Same.trans s' q, q _ _ hd', iv', by omega⟩
  · rintro H' ⟨acc, s', hd', iv, _⟩
    rw [hs] at iv
    exact done p H' acc hp s' hd' iv
end
/-! ### isinstance of ints and texts -/
section
variable {H : Hp} {Q : VK} {i : Int} {z : Str} {K : PySem.W.Frag}
theorem x_isII (h : Q (.bl true) H) : rIsi K [.int i, .ty "int"] H Q := x_isTy (.int _) (kit_ty (by decide +kernel)) h
theorem x_isIB (h : Q (.bl false) H) : rIsi K [.int i, .ty "bool"] H Q := x_isTy (.int _) (kit_ty (by decide +kernel)) h
theorem x_isIL (h : Q (.bl false) H) : rIsi K [.int i, .ty "list"] H Q := x_isTy (.int _) (kit_ty (by decide +kernel)) h
theorem x_isIT (h : Q (.bl false) H) : rIsi K [.int i, .ty "tuple"] H Q := x_isTy (.int _) (kit_ty (by decide +kernel)) h
theorem x_isID (h : Q (.bl false) H) : rIsi K [.int i, .ty "dict"] H Q := x_isTy (.int _) (kit_ty (by decide +kernel)) h
theorem x_isIS (h : Q (.bl false) H) : rIsi K [.int i, .ty "str"] H Q := x_isTy (.int _) (kit_ty (by decide +kernel)) h
theorem x_isSS (h : Q (.bl true) H) : rIsi K [.str z, .ty "str"] H Q := x_isTy (.str _) (kit_ty (by decide +kernel)) h
end
/-- all but b and c is as it was -/
def Kq (b c : Addr) (H H' : Hp) : Prop := ∀ a o, a ≠ b → a ≠ c → H a = some o → H' a = some o
theorem Kq.refl {b c : Addr} {H : Hp} : Kq b c H H := fun _ _ _ _ h => h
theorem Kq.of {b c : Addr} {H H' : Hp} (s : Same H H') : Kq b c H H' := fun a o _ _ h => s a o h
theorem Kq.of1 {b c : Addr} {H H' : Hp} (s : Kp b H H') : Kq b c H H' := fun a o n _ h => s a o n h
theorem Kq.of2 {b c : Addr} {H H' : Hp} (s : Kp c H H') : Kq b c H H' := fun a o _ n h => s a o n h
theorem Kq.trans {b c : Addr} {H H1 H2 : Hp} (x : Kq b c H H1) (y : Kq b c H1 H2) : Kq b c H H2 := fun a o n m h => y a o n m (x a o n m h)
theorem Kq.get {b c : Addr} {H H' : Hp} {a : Addr} {u : HO} (s : Kq b c H H') (n : a ≠ b) (m : a ≠ c) (h : H a = some u) : H' a = some u := s a u n m h
theorem Kq.swap {b c : Addr} {H H' : Hp} (s : Kq b c H H') : Kq c b H H' := fun a o n m h => s a o m n h
/-- both new: nothing that was is changed -/
theorem Kq.new {b c : Addr} {H0 H H' : Hp} (s : Kq b c H H') (s0 : Same H0 H) (hb : H0 b = none) (hc : H0 c = none) : Same H0 H' := fun a o h => s a o (ne_of_none h hb) (ne_of_none h hc) (s0 a o h)
/-- one of them new -/
theorem Kq.new2 {b c : Addr} {H0 H H' : Hp} (s : Kq b c H H') (s0 : Kp b H0 H) (hc : H0 c = none) : Kp b H0 H' := fun a o n h => s a o n (ne_of_none h hc) (s0 a o n h)
theorem Kq.upd1 {b c : Addr} {H H' : Hp} {o : HO} (k : Kq b c H H') : Kq b c H (upd H' b o) := fun a u n m e => by
  rw [upd_ne n]
  exact k a u n m e
theorem Kq.upd2 {b c : Addr} {H H' : Hp} {o : HO} (k : Kq b c H H') : Kq b c H (upd H' c o) := fun a u n m e => by
  rw [upd_ne m]
  exact k a u n m e
theorem Kp.new {b : Addr} {H0 H H' : Hp} (s : Kp b H H') (s0 : Same H0 H) (hb : H0 b = none) : Same H0 H' := fun a o h => s a o (ne_of_none h hb) (s0 a o h)
theorem Kp.sqt_i {K : PySem.W.Frag} {H H' : Hp} {a w C dx : Addr} {fs : List (Str × V)} {xs : List V} (k : Kp a H H') (ha : H a = some (.ins C dx fs)) (h : SqT K H w xs) : SqT K H' w xs := by
  rcases h with (h | ⟨o, h⟩) | h
  · exact .inl (.inl (k _ _ (fun e => by rw [e, ha] at h; cases h) h))
  · exact .inl (.inr ⟨o, k _ _ (fun e => by rw [e, ha] at h; cases h) h⟩)
  · exact .inr h
theorem Kp.sql_i {K : PySem.W.Frag} {H H' : Hp} {a w C dx : Addr} {fs : List (Str × V)} {xs : List V} (k : Kp a H H') (ha : H a = some (.ins C dx fs)) (h : SqL K H w xs) : SqL K H' w xs := by
  rcases h with (h | ⟨o, h⟩) | h
  · exact .inl (.inl (k _ _ (fun e => by rw [e, ha] at h; cases h) h))
  · exact .inl (.inr ⟨o, k _ _ (fun e => by rw [e, ha] at h; cases h) h⟩)
  · exact .inr h
theorem ne_of_some {H : Hp} {a b : Addr} {u v : HO} (h1 : H a = some u) (h2 : H b = some v) (n : u ≠ v) : a ≠ b := fun e => n (Option.some.inj (h1.symm.trans (by rw [e]; exact h2)))
/-! ### star calls -/
structure CalS (P : Program) (w : World) (K : PySem.W.Frag) (mg : Str → Option Value) (base : Heap) (k : Nat) (x : Str) (sp : Sp) : Prop where
  ex : ∃ f : Addr, FnR P w K mg base CX0 k f sp ∧ mg x = some (.ref f) ∧ PySem.W.keepIn K (.ref f) = true
theorem pe_cS {X : Cx} {k j : Nat} {x : Str} {p pos : Pos} {e : Expr} {es : List Expr} {t : TA} {sp : Sp} (c : CalS X.prog X.w X.K X.mg X.base k x sp) (hr : Room j X.A) (hk : k ≤ j) (hg : Gl X x) (ha : PA X (e :: es) t)
    (hdb : (x == ("__debug__" : Str)) = false := by decide) (he : starEach (e :: es) X.env = (false, eval e X.env) :: starEach es X.env := by rfl) (hst : (backTo pos (starEach es X.env)).any (·.1) = true := by rfl) :
    PE X (.Call (.Name x p) (e :: es) [] pos) (tCall sp [] E0 t) := by
  obtain ⟨f, F, hm, kp⟩ := c.ex
  have h := StX.pe_callS2 (E := E0) (p := p) F (hr.mono hk) kp hg hm pass0 ha hdb he hst
  refine ⟨fun pins s σ H Q I q => h.run pins s σ H Q I ?_⟩
  have q' : t σ H fun vs H1 => sp (vs ++ []) H1 Q E0 := q
  simpa only [List.append_nil] using q'
theorem x_pstar {σ : L2.St} {H : Hp} {te : TE} {t : TA} {K : PySem.W.Frag} {R : List V → Hp → Prop} (h : te σ H fun x H1 => ∃ p xs, x = V.ref p ∧ (SqT K H1 p xs ∨ SqL K H1 p xs) ∧ t σ H1 fun ys H2 => R (xs ++ ys) H2) : StX.tStar K te t σ H R := h
/-! ### walks: a list or a tuple; a tuple by places; a locked dict -/
def rForS (K : PySem.W.Frag) (g : TG) (tb : TS) (D : Ends) (σ : L2.St) (x : V) (H : Hp) : Prop := ∃ a, x = .ref a ∧ (((∃ xs, SqL K H a xs) ∧ ∃ W : Nat → Nat → L2.St → Hp → Prop, (∃ m, W 0 m σ H) ∧ ∀ i m σ H, W i m σ H → ((Itl K a).stop i H ∧ D.nx σ H) ∨ ((Itl K a).go i H ∧ ∃ N : L2.St → Hp → Prop, (∀ σ' H', N σ' H' → ∃ m', m' < m ∧ W (i + 1) m' σ' H') ∧ ∀ x H', (Itl K a).yld i H x H' → g x σ H' fun σ2 H2 => tb { D with nx := N, ct := N, bk := D.nx } σ2 H2)) ∨
  ((∃ xs, SqT K H a xs) ∧ ∃ W : Nat → Nat → L2.St → Hp → Prop, (∃ m, W 0 m σ H) ∧ ∀ i m σ H, W i m σ H → ((Itt K a).stop i H ∧ D.nx σ H) ∨ ((Itt K a).go i H ∧ ∃ N : L2.St → Hp → Prop, (∀ σ' H', N σ' H' → ∃ m', m' < m ∧ W (i + 1) m' σ' H') ∧ ∀ x H', (Itt K a).yld i H x H' → g x σ H' fun σ2 H2 => tb { D with nx := N, ct := N, bk := D.nx } σ2 H2)))
theorem Same.sqt {K : PySem.W.Frag} {H H' : Hp} {a : Addr} {xs : List V} (e : Same H H') (h : SqT K H a xs) : SqT K H' a xs := by
  rcases h with (h | ⟨o, h⟩) | h
  · exact .inl (.inl (e _ _ h))
  · exact .inl (.inr ⟨o, e _ _ h⟩)
  · exact .inr h
theorem SqA.same {K : PySem.W.Frag} {H H' : Hp} {a : Addr} {xs : List V} (h : SqA K H a xs) (s : Same H H') : SqA K H' a xs := h.elim (fun h => .inl (Same.sql s h)) fun h => .inr (Same.sqt s h)
section
variable {σ : L2.St} {H : Hp} {Q : VK} {D : Ends} {tx te td tk tv : TE} {ta : TA} {tt : TT} {K : PySem.W.Frag} {g : TG} {tb : TS} {vs : List Nat}
theorem x_forS (h : tx σ H fun x H1 => rForS K g tb D σ x H1) : tFor (iSeq K tx) g tb D σ H := h
theorem w_forS {H0 : Hp} {a : Addr} {xs : List V} (s : SqA K H0 a xs) (s0 : Same H0 H) (Pv : Nat → L2.St → Hp → Prop) (h0 : Pv 0 σ H) (hl : ∀ i σ H, Pv i σ H → Same H0 H)
    (hs : ∀ i x σ H, xs[i]? = some x → Pv i σ H → g x σ H fun σ2 H2 => tb { D with nx := Pv (i + 1), ct := Pv (i + 1), bk := D.nx } σ2 H2) (hd : ∀ σ H, Pv xs.length σ H → D.nx σ H) : rForS K g tb D σ (.ref a) H := by
  rcases s with s | s
  · exact ⟨a, rfl, .inl ⟨⟨xs, Same.sql s0 s⟩, for_list Pv h0 (fun i σ H _ p => Same.sql (hl i σ H p) s) hs hd⟩⟩
  · exact ⟨a, rfl, .inr ⟨⟨xs, Same.sqt s0 s⟩, for_tup Pv h0 (fun i σ H _ p => Same.sqt (hl i σ H p) s) hs hd⟩⟩
def rForE (K : PySem.W.Frag) (g : TG) (tb : TS) (D : Ends) (σ : L2.St) (us : List V) (H : Hp) : Prop := ∃ a xs, us = [.ref a] ∧ SqT K H a xs ∧ ∃ W : Nat → Nat → L2.St → Hp → Prop, (∃ m, W 0 m σ H) ∧ ∀ i m σ H, W i m σ H → ((Itet K a).stop i H ∧ D.nx σ H) ∨ ((Itet K a).go i H ∧ ∃ N : L2.St → Hp → Prop, (∀ σ' H', N σ' H' → ∃ m', m' < m ∧ W (i + 1) m' σ' H') ∧ ∀ x H', (Itet K a).yld i H x H' → g x σ H' fun σ2 H2 => tb { D with nx := N, ct := N, bk := D.nx } σ2 H2)
theorem x_forE (h : ta σ H fun us H1 => rForE K g tb D σ us H1) : tFor (iEnumT K ta) g tb D σ H := h
theorem w_forE {a : Addr} {xs : List V} (s : SqT K H a xs) (Pv : Nat → L2.St → Hp → Prop) (h0 : Pv 0 σ H) (hl : ∀ i σ H, Pv i σ H → SqT K H a xs)
    (hs : ∀ i x σ H T, xs[i]? = some x → Pv i σ H → H T = none → g (.ref T) σ (upd H T (.tup [.int (i : Nat), x])) fun σ2 H2 => tb { D with nx := Pv (i + 1), ct := Pv (i + 1), bk := D.nx } σ2 H2) (hd : ∀ σ H, Pv xs.length σ H → D.nx σ H) : rForE K g tb D σ [.ref a] H := by
  refine ⟨a, xs, rfl, s, for_it walk_enumT Pv h0 (fun i σ H _ p => hl i σ H p) ?_ hd⟩
  rintro i v σ H H' hi p ⟨T, x, y, rfl, hT, rfl, e1, e2⟩
  cases e1
  exact hs i y σ H T e2 p hT
/-- [e for x in a tuple if t] -/
theorem w_lcT {a : Addr} {xs : List V} (s : SqT K H a xs) (hz : xs.length < sizeLine) (Iv : Nat → List V → Prop) (I0 : Iv 0 [])
    (turn : ∀ i x H' acc, xs[i]? = some x → Same H H' → Iv i acc → acc.length ≤ i → ∀ (R : VK) (S : Hp → Prop), (∀ y H4, Same H' H4 → Iv (i + 1) (acc ++ [y]) → R y H4) → (∀ H3, Same H' H3 → Iv (i + 1) acc → S H3) →
      g x (wipe σ vs) H' fun σ2 H2 => wipe σ2 vs = wipe σ vs ∧ tt σ2 H2 fun b H3 => if b = true then te σ2 H3 R else S H3)
    (done : ∀ p H' acc, H p = none → Same H H' → H' p = some (.lst acc) → Iv xs.length acc → Q (.ref p) H') : rLcT K g tt te vs σ (.ref a) H Q := by
  refine ⟨a, rfl, ⟨xs, s⟩, fun p hp => ?_⟩
  refine lc_it walk_tup (fun i H' => ∃ acc, Same H H' ∧ H' p = some (.lst acc) ∧ Iv i acc ∧ acc.length ≤ i) ⟨[], Same.new hp, upd_same, I0, Nat.le_refl _⟩ (fun i H' _ ⟨acc, s', _⟩ => Same.sqt s' s) ?_ ?_
  · rintro i x H0 H' hi ⟨acc, s', hd', iv, hl⟩ ⟨rfl, e⟩
    refine turn i x H' acc e s' iv hl _ _ (fun y H4 q iv' => ?_) fun H3 q iv' => ?_
    · exact ⟨acc, q _ _ hd', by omega, acc ++ [y], Same.mut (Same.trans s' q) hp, upd_same, iv', by rw [List.length_append, List.length_singleton]; omega⟩
    · exact ⟨acc, Same.trans s' q, q _ _ hd', iv', by omega⟩
  · rintro H' ⟨acc, s', hd', iv, _⟩
    exact done p H' acc hp s' hd' iv
def lockD (d : Addr) (u : HO) (od : Obj) (D : Ends) : Ends := ⟨fun σ' H' => H' d = some (.frz od u) ∧ D.nx σ' (upd H' d u), fun v H' => H' d = some (.frz od u) ∧ D.rt v (upd H' d u), fun σ' H' => H' d = some (.frz od u) ∧ D.bk σ' (upd H' d u), fun σ' H' => H' d = some (.frz od u) ∧ D.ct σ' (upd H' d u)⟩
/-- for k in d: with d locked -/
theorem w_lockForK {d : Addr} {kvs : List (Key × V)} (hd : H d = some (.dK kvs)) (ht : ∀ od, td σ (upd H d (.frz od (.dK kvs))) fun x H1 => x = .ref d ∧ H1 = upd H d (.frz od (.dK kvs)))
    (mono : ∀ (H : Hp) (R R' : VK), (∀ v H, R v H → R' v H) → td σ H R → td σ H R') (Pv : Obj → Nat → L2.St → Hp → Prop) (h0 : ∀ od, Pv od 0 σ (upd H d (.frz od (.dK kvs)))) (hl : ∀ od i σ H', Pv od i σ H' → H' d = some (.frz od (.dK kvs)))
    (hs : ∀ od i k v σ H', kvs[i]? = some (k, v) → Pv od i σ H' → g (kV k) σ H' fun σ2 H2 => tb { lockD d (.dK kvs) od D with nx := Pv od (i + 1), ct := Pv od (i + 1), bk := (lockD d (.dK kvs) od D).nx } σ2 H2)
    (hn : ∀ od σ H', Pv od kvs.length σ H' → D.nx σ (upd H' d (.dK kvs))) : tLock (tFor (iKeys td) g tb) D σ H := by
  refine ⟨d, .dK kvs, hd, True.intro, fun od => ?_⟩
  refine mono _ _ _ ?_ (ht od)
  rintro x H1 ⟨rfl, rfl⟩
  refine ⟨d, od, rfl, .inl ⟨kvs, upd_same, ?_⟩⟩
  refine for_it (D := lockD d (.dK kvs) od D) walk_keys (Pv od) (h0 od) (fun i σ H _ p => hl od i σ H p) ?_ (fun σ H p => ⟨hl od _ σ H p, hn od σ H p⟩)
  rintro i x σ' H H' hi p ⟨rfl, k, v, e, rfl⟩
  exact hs od i k v σ' H' e p
/-- [e for k in d if t] with d locked -/
theorem w_lockLcK {d : Addr} {kvs : List (Key × V)} (hd : H d = some (.dK kvs)) (hz : kvs.length < sizeLine) (ht : ∀ od, td σ (upd H d (.frz od (.dK kvs))) fun x H1 => x = .ref d ∧ H1 = upd H d (.frz od (.dK kvs)))
    (mono : ∀ (H : Hp) (R R' : VK), (∀ v H, R v H → R' v H) → td σ H R → td σ H R') (Iv : Nat → List V → Prop) (I0 : Iv 0 [])
    (turn : ∀ od i k v H' acc, kvs[i]? = some (k, v) → Same (upd H d (.frz od (.dK kvs))) H' → Iv i acc → acc.length ≤ i → ∀ (R : VK) (S : Hp → Prop), (∀ y H4, Same H' H4 → Iv (i + 1) (acc ++ [y]) → R y H4) → (∀ H3, Same H' H3 → Iv (i + 1) acc → S H3) →
      g (kV k) (wipe σ vs) H' fun σ2 H2 => wipe σ2 vs = wipe σ vs ∧ tt σ2 H2 fun b H3 => if b = true then te σ2 H3 R else S H3)
    (done : ∀ p H' acc, H p = none → Same H H' → H' p = some (.lst acc) → Iv kvs.length acc → Q (.ref p) H') : tLockE (tLc (iKeys td) g tt te vs) σ H Q := by
  refine ⟨d, .dK kvs, hd, True.intro, fun od => ?_⟩
  refine mono _ _ _ ?_ (ht od)
  rintro x H1 ⟨rfl, rfl⟩
  refine ⟨d, od, rfl, .inl ⟨kvs, upd_same, fun p hp => ?_⟩⟩
  have hpd : p ≠ d := fun e => by rw [e, upd_same] at hp; cases hp
  refine lc_it walk_keys (fun i H' => ∃ acc, Same (upd H d (.frz od (.dK kvs))) H' ∧ H' p = some (.lst acc) ∧ Iv i acc ∧ acc.length ≤ i) ⟨[], Same.new hp, upd_same, I0, Nat.le_refl _⟩ (fun i H' _ ⟨acc, s, _⟩ => s _ _ upd_same) ?_ ?_
  · rintro i x H0 H' hi ⟨acc, s', hd', iv, hl⟩ ⟨rfl, k, v, e, rfl⟩
    refine turn od i k v H' acc e s' iv hl _ _ (fun y H4 q iv' => ?_) fun H3 q iv' => ?_
    · exact ⟨acc, q _ _ hd', by omega, acc ++ [y], Same.mut (Same.trans s' q) hp, upd_same, iv', by rw [List.length_append, List.length_singleton]; omega⟩
    · exact ⟨acc, Same.trans s' q, q _ _ hd', iv', by omega⟩
  · rintro H' ⟨acc, s', hd', iv, _⟩
    refine ⟨s' _ _ upd_same, done p _ acc (by rw [upd_ne hpd] at hp; exact hp) (fun a u ha => ?_) (by rw [upd_ne hpd]; exact hd') iv⟩
    by_cases hb : a = d
    · rw [hb] at ha ⊢
      rw [upd_same, ← ha, hd]
    · rw [upd_ne hb]
      exact s' _ _ (by rw [upd_ne hb]; exact ha)
/-- {k: v for x in a tuple} -/
def rDcT (K : PySem.W.Frag) (g : TG) (tt : TT) (tk tv : TE) (vs : List Nat) (σ : L2.St) (x : V) (H1 : Hp) (Q : VK) : Prop := ∃ a, x = .ref a ∧ (∃ xs, SqT K H1 a xs) ∧ ∀ D, H1 D = none → ∃ W : Nat → Nat → Hp → Prop, (∃ m, W 0 m (upd H1 D (.dK []))) ∧ ∀ i m H, W i m H →
  ((Itt K a).stop i H ∧ Q (.ref D) H) ∨ ((Itt K a).go i H ∧ ∃ Nx : Hp → Prop, (∀ H', Nx H' → ∃ m', m' < m ∧ W (i + 1) m' H') ∧ ∀ x H', (Itt K a).yld i H x H' → g x (wipe σ vs) H' fun σ2 H2 => wipe σ2 vs = wipe σ vs ∧ tt σ2 H2 fun b H3 =>
    if b = true then tk σ2 H3 fun y H4 => tv σ2 H4 fun z H5 => ∃ kvs k, y = kV k ∧ H5 D = some (.dK kvs) ∧ kvs.length < sizeLine ∧ Nx (upd H5 D (.dK (putK kvs k z))) else Nx H3)
theorem x_dcT (h : tx σ H fun x H1 => rDcT K g tt tk tv vs σ x H1 Q) : tDc (iTup K tx) g tt tk tv vs σ H Q := h
theorem w_dcT {a : Addr} {xs : List V} (s : SqT K H a xs) (hz : xs.length < sizeLine) (Iv : Nat → List (Key × V) → Prop) (I0 : Iv 0 [])
    (turn : ∀ i x H' acc, xs[i]? = some x → Same H H' → Iv i acc → acc.length ≤ i → ∀ (R : V → V → Hp → Prop) (S : Hp → Prop), (∀ k z H4, Same H' H4 → Iv (i + 1) (putK acc k z) → R (kV k) z H4) → (∀ H3, Same H' H3 → Iv (i + 1) acc → S H3) →
      g x (wipe σ vs) H' fun σ2 H2 => wipe σ2 vs = wipe σ vs ∧ tt σ2 H2 fun b H3 => if b = true then tk σ2 H3 fun y H4 => tv σ2 H4 fun z H5 => R y z H5 else S H3)
    (done : ∀ p H' acc, H p = none → Same H H' → H' p = some (.dK acc) → Iv xs.length acc → Q (.ref p) H') : rDcT K g tt tk tv vs σ (.ref a) H Q := by
  refine ⟨a, rfl, ⟨xs, s⟩, fun D hD => ?_⟩
  refine ⟨fun i m H' => m = xs.length - i ∧ i ≤ xs.length ∧ ∃ acc, Same H H' ∧ H' D = some (.dK acc) ∧ Iv i acc ∧ acc.length ≤ i, ⟨xs.length, by simp, Nat.zero_le _, [], Same.new hD, upd_same, I0, Nat.le_refl _⟩, ?_⟩
  rintro i m H' ⟨rfl, hi, acc, s', hd, iv, hl⟩
  have hq : SqT K H' a xs := Same.sqt s' s
  by_cases hlt : i < xs.length
  · refine .inr ⟨⟨xs, xs[i], hq, by simp [hlt]⟩, fun H2 => i + 1 ≤ xs.length ∧ ∃ acc, Same H H2 ∧ H2 D = some (.dK acc) ∧ Iv (i + 1) acc ∧ acc.length ≤ i + 1, fun H2 p => ⟨xs.length - (i + 1), by omega, rfl, p⟩, ?_⟩
    rintro x H2 ⟨rfl, y⟩
    refine turn i x H2 acc (y xs hq) s' iv hl (fun y z H5 => ∃ kvs k, y = kV k ∧ H5 D = some (.dK kvs) ∧ kvs.length < sizeLine ∧ (i + 1 ≤ xs.length ∧ ∃ acc, Same H (upd H5 D (.dK (putK kvs k z))) ∧ upd H5 D (.dK (putK kvs k z)) D = some (.dK acc) ∧ Iv (i + 1) acc ∧ acc.length ≤ i + 1)) _ (fun k z H4 q iv' => ?_) fun H3 q iv' => ?_
    · exact ⟨acc, k, rfl, q _ _ hd, by omega, hlt, _, Same.mut (Same.trans s' q) hD, upd_same, iv', Nat.le_trans (length_putK acc k z) (by omega)⟩
    · exact ⟨hlt, acc, Same.trans s' q, q _ _ hd, iv', by omega⟩
  · have e : i = xs.length := by omega
    subst e
    exact .inl ⟨⟨xs, hq, Nat.le_refl _⟩, done D H' acc hD s' hd iv⟩
end
end Cb
/-! ### further steps: masks, tables (comprehensions whose items are objects) -/
namespace Cb
open PySem PySem.Spec PyProof.Rows L2
section
variable {σ : L2.St} {H : Hp} {Q : VK} {D : Ends} {te ta tb tc : TE} {t u : TS} {tt : TT} {v : V} {i j : Int} {K : PySem.W.Frag} {g : TG} {vs : List Nat}
theorem pip_xor {X : Cx} : PIp X .BitXor (rI0 fun i j => .int (Builtin.bitXor i j)) := iop_xor
/-- a op1 b op2 c op3 d -/
def rCh2 (r' r'' : R2) (tc td : TE) (σ : L2.St) (y : V) (H3 : Hp) (Q : VK) : Prop := tc σ H3 fun z H4 => r' y z H4 fun q H5 => ∃ k, q = .bl k ∧ (if k = true then td σ H5 fun x' H6 => r'' z x' H6 Q else Q (.bl false) H5)
def tChain3 (r r' r'' : R2) (ta tb tc td : TE) : TE := fun σ H Q => ta σ H fun x H1 => tb σ H1 fun y H2 => r x y H2 fun z H3 => ∃ k, z = .bl k ∧ (if k = true then rCh2 r' r'' tc td σ y H3 Q else Q (.bl false) H3)
theorem pe_chain3 {X : Cx} {a b c d : Expr} {pos : Pos} {ta tb tc td : TE} {op op' op'' : CmpOp} {r r' r'' : R2} (ho : OpR X (compareOp op) r) (ho' : OpR X (compareOp op') r') (ho'' : OpR X (compareOp op'') r'') (ha : PE X a ta) (hb : PE X b tb) (hc : PE X c tc) (hd : PE X d td)
    (hm : lastMarks [op, op', op''] [b, c, d] = false := by with_unfolding_all rfl) : PE X (.Compare a [op, op', op''] [b, c, d] pos) (tChain3 r r' r'' ta tb tc td) := by
  refine ⟨fun pins s σ H Q I h => ?_⟩
  refine Compare_chain (thn (ha.run pins s σ H _ I h) fun v s1 ⟨x, H1, I1, r1, q1⟩ => chain_link (thn (hb.run pins s1 σ H1 _ I1 q1) fun u s2 ⟨y, H2, I2, r2, q2⟩ =>
    thn (ho pins s2 σ H2 x y v u _ I2 r1 r2 q2) fun d s3 ⟨z, H3, I3, r3, k, e, q3⟩ => ?_)) hm
  subst e
  cases r3
  refine wpAny_truthy_bool ?_
  cases k with
  | false => exact ite_ff ⟨.bl false, H3, I3, rfl, q3⟩
  | true =>
    refine ite_tt (chain_link (thn (hc.run pins s3 σ H3 _ I3 q3) fun w' s4 ⟨z', H4, I4, r4, q4⟩ => thn (ho' pins s4 σ H4 y z' u w' _ I4 r2 r4 q4) fun d' s5 ⟨z2, H5, I5, r5, k2, e2, q5⟩ => ?_))
    subst e2
    cases r5
    refine wpAny_truthy_bool ?_
    cases k2 with
    | false => exact ite_ff ⟨.bl false, H5, I5, rfl, q5⟩
    | true => exact ite_tt (chain_last (thn (hd.run pins s5 σ H5 _ I5 q5) fun w2 s6 ⟨z3, H6, I6, r6, q6⟩ => ho'' pins s6 σ H6 z' z3 w' w2 Q I6 r4 r6 q6))
theorem x_chain3 {td : TE} {r r' r'' : R2} (h : ta σ H fun x H1 => tb σ H1 fun y H2 => r x y H2 fun z H3 => ∃ k, z = .bl k ∧ (if k = true then rCh2 r' r'' tc td σ y H3 Q else Q (.bl false) H3)) : tChain3 r r' r'' ta tb tc td σ H Q := h
theorem x_ch2 {td : TE} {r' r'' : R2} {y : V} (h : tc σ H fun z H4 => r' y z H4 fun q H5 => ∃ k, q = .bl k ∧ (if k = true then td σ H5 fun x' H6 => r'' z x' H6 Q else Q (.bl false) H5)) : rCh2 r' r'' tc td σ y H Q := h
def rRevL (K : PySem.W.Frag) (x : V) (H1 : Hp) (Q : VK) : Prop := ∃ a xs, x = .ref a ∧ SqL K H1 a xs ∧ ∀ p, H1 p = none → Q (.ref p) (upd H1 p (.lst xs.reverse))
theorem x_revL (h : te σ H fun x H1 => rRevL K x H1 Q) : tRevL K te σ H Q := h
theorem x_revLI {a : Addr} {xs : List V} (s : SqL K H a xs) (h : ∀ p, H p = none → Q (.ref p) (upd H p (.lst xs.reverse))) : rRevL K (.ref a) H Q := ⟨a, xs, rfl, s, h⟩
theorem x_bits (h : te σ H fun x H1 => ∃ i, x = .int i ∧ Q (.int (Builtin.Int.intBits i : Nat)) H1) : tBits te σ H Q := h
theorem x_truI {R : Bool → Prop} (h : R (i != 0)) : ∃ k, TruV K (.int i) H k ∧ R k := ⟨_, rfl, h⟩
theorem x_dgetI {a : Addr} {kvs : List (Key × V)} {n : Int} (e : Rd H a (.dK kvs)) (g : valV kvs (.inl n) = some v) (h : Q v H) : rDGet (.ref a) (.int n) H Q := ⟨a, v, rfl, .inl ⟨kvs, .inl n, e, rfl, g.symm⟩, h⟩
theorem x_dinI {a : Addr} {kvs : List (Key × V)} {n : Int} {o : Option V} (e : Rd H a (.dK kvs)) (g : valV kvs (.inl n) = o) (h : Q (.bl o.isSome) H) : rDIn (.int n) (.ref a) H Q := ⟨a, o, rfl, .inl ⟨kvs, .inl n, e, rfl, g.symm⟩, h⟩
theorem x_dputI {a : Addr} {kvs : List (Key × V)} {n : Int} (e : H a = some (.dK kvs)) (l : kvs.length < sizeLine) (h : D.nx σ (upd H a (.dK (putK kvs (.inl n) v)))) : rDPut D σ v (.ref a) (.int n) H := ⟨a, _, rfl, DPut.k (k := .inl n) e l, h⟩
theorem Kp.mutp {p : Addr} {H : Hp} {o : HO} : Kp p H (upd H p o) := fun a u n e => by rw [upd_ne n]; exact e
/-- [e for x in t] whose items are new objects: what is said of them stays when all but the list in the making stays -/
theorem w_lcTH {a : Addr} {xs : List V} (s : SqT K H a xs) (hz : xs.length < sizeLine) (Iv : Addr → Nat → List V → Hp → Prop) (mono : ∀ p i acc H1 H2, Kp p H1 H2 → Iv p i acc H1 → Iv p i acc H2) (I0 : ∀ p, H p = none → Iv p 0 [] H)
    (turn : ∀ p i x H' acc, H p = none → xs[i]? = some x → Same H H' → H' p = some (.lst acc) → Iv p i acc H' → acc.length ≤ i → ∀ (R : VK) (S : Hp → Prop), (∀ y H4, Same H' H4 → Iv p (i + 1) (acc ++ [y]) H4 → R y H4) → (∀ H3, Same H' H3 → Iv p (i + 1) acc H3 → S H3) →
      g x (wipe σ vs) H' fun σ2 H2 => wipe σ2 vs = wipe σ vs ∧ tt σ2 H2 fun b H3 => if b = true then te σ2 H3 R else S H3)
    (done : ∀ p H' acc, H p = none → Same H H' → H' p = some (.lst acc) → Iv p xs.length acc H' → Q (.ref p) H') : rLcT K g tt te vs σ (.ref a) H Q := by
  refine ⟨a, rfl, ⟨xs, s⟩, fun p hp => ?_⟩
  refine lc_it walk_tup (fun i H' => ∃ acc, Same H H' ∧ H' p = some (.lst acc) ∧ Iv p i acc H' ∧ acc.length ≤ i) ⟨[], Same.new hp, upd_same, mono _ _ _ _ _ Kp.mutp (I0 p hp), Nat.le_refl _⟩ (fun i H' _ ⟨acc, s', _⟩ => Same.sqt s' s) ?_ ?_
  · rintro i x H0 H' hi ⟨acc, s', hd', iv, hl⟩ ⟨rfl, e⟩
    refine turn p i x H' acc hp e s' hd' iv hl _ _ (fun y H4 q iv' => ?_) fun H3 q iv' => ?_
    · exact ⟨acc, q _ _ hd', by omega, acc ++ [y], Same.mut (Same.trans s' q) hp, upd_same, mono _ _ _ _ _ Kp.mutp iv', by rw [List.length_append, List.length_singleton]; omega⟩
    · exact ⟨acc, Same.trans s' q, q _ _ hd', iv', by omega⟩
  · rintro H' ⟨acc, s', hd', iv, _⟩
    exact done p H' acc hp s' hd' iv
theorem w_lcLH {a : Addr} {xs : List V} (s : SqL K H a xs) (hz : xs.length < sizeLine) (Iv : Addr → Nat → List V → Hp → Prop) (mono : ∀ p i acc H1 H2, Kp p H1 H2 → Iv p i acc H1 → Iv p i acc H2) (I0 : ∀ p, H p = none → Iv p 0 [] H)
    (turn : ∀ p i x H' acc, H p = none → xs[i]? = some x → Same H H' → H' p = some (.lst acc) → Iv p i acc H' → acc.length ≤ i → ∀ (R : VK) (S : Hp → Prop), (∀ y H4, Same H' H4 → Iv p (i + 1) (acc ++ [y]) H4 → R y H4) → (∀ H3, Same H' H3 → Iv p (i + 1) acc H3 → S H3) →
      g x (wipe σ vs) H' fun σ2 H2 => wipe σ2 vs = wipe σ vs ∧ tt σ2 H2 fun b H3 => if b = true then te σ2 H3 R else S H3)
    (done : ∀ p H' acc, H p = none → Same H H' → H' p = some (.lst acc) → Iv p xs.length acc H' → Q (.ref p) H') : rLcL K g tt te vs σ (.ref a) H Q := by
  refine ⟨a, rfl, ⟨xs, s⟩, fun p hp => ?_⟩
  refine lc_list (K := K) (a := a) (xs := xs) (fun i H' => ∃ acc, Same H H' ∧ H' p = some (.lst acc) ∧ Iv p i acc H' ∧ acc.length ≤ i) ⟨[], Same.new hp, upd_same, mono _ _ _ _ _ Kp.mutp (I0 p hp), Nat.le_refl _⟩ (fun i H' _ ⟨acc, s', _⟩ => s'.seq s) ?_ ?_
  · rintro i x H' hi ⟨acc, s', hd', iv, hl⟩
    have hil : i < xs.length := (List.getElem?_eq_some_iff.mp hi).1
    refine turn p i x H' acc hp hi s' hd' iv hl _ _ (fun y H4 q iv' => ?_) fun H3 q iv' => ?_
    · exact ⟨acc, q _ _ hd', by omega, acc ++ [y], Same.mut (Same.trans s' q) hp, upd_same, mono _ _ _ _ _ Kp.mutp iv', by rw [List.length_append, List.length_singleton]; omega⟩
    · exact ⟨acc, Same.trans s' q, q _ _ hd', iv', by omega⟩
  · rintro H' ⟨acc, s', hd', iv, _⟩
    exact done p H' acc hp s' hd' iv
end
end Cb
/-! ### enumerate of a list; xs[i] op= e; bits -/
namespace Cb
open PySem PySem.Spec PyProof.Rows L2
section
variable {σ : L2.St} {H : Hp} {Q : VK} {D : Ends} {te ta tb tc : TE} {t u : TS} {tt : TT} {v : V} {i j : Int} {K : PySem.W.Frag} {g : TG} {vs : List Nat}
def rForEL (K : PySem.W.Frag) (g : TG) (tb : TS) (D : Ends) (σ : L2.St) (us : List V) (H : Hp) : Prop := ∃ a xs, us = [.ref a] ∧ SqL K H a xs ∧ ∃ W : Nat → Nat → L2.St → Hp → Prop, (∃ m, W 0 m σ H) ∧ ∀ i m σ H, W i m σ H → ((Ite K a).stop i H ∧ D.nx σ H) ∨ ((Ite K a).go i H ∧ ∃ N : L2.St → Hp → Prop, (∀ σ' H', N σ' H' → ∃ m', m' < m ∧ W (i + 1) m' σ' H') ∧ ∀ x H', (Ite K a).yld i H x H' → g x σ H' fun σ2 H2 => tb { D with nx := N, ct := N, bk := D.nx } σ2 H2)
theorem x_forEL {ta : TA} {tb : TS} (h : ta σ H fun us H1 => rForEL K g tb D σ us H1) : tFor (iEnum K ta) g tb D σ H := h
theorem w_forEL {tb : TS} {a : Addr} {xs : List V} (s : SqL K H a xs) (Pv : Nat → L2.St → Hp → Prop) (h0 : Pv 0 σ H) (hl : ∀ i σ H, Pv i σ H → SqL K H a xs)
    (hs : ∀ i x σ H T, xs[i]? = some x → Pv i σ H → H T = none → g (.ref T) σ (upd H T (.tup [.int (i : Nat), x])) fun σ2 H2 => tb { D with nx := Pv (i + 1), ct := Pv (i + 1), bk := D.nx } σ2 H2) (hd : ∀ σ H, Pv xs.length σ H → D.nx σ H) : rForEL K g tb D σ [.ref a] H := by
  refine ⟨a, xs, rfl, s, for_it walk_enum Pv h0 (fun i σ H _ p => hl i σ H p) ?_ hd⟩
  rintro i v σ H H' hi p ⟨T, x, y, rfl, hT, rfl, e1, e2⟩
  cases e1
  exact hs i y σ H T e2 p hT
theorem pg_list {X : Cx} : PGet X (rIxL X.K) := by
  intro pins s σ H x y v u Q I rx ry h
  obtain ⟨p, xs, i, z, rfl, rfl, hq, he, q⟩ := h
  cases rx
  obtain ⟨t, rfl⟩ := ry
  obtain ⟨its, r, pl, hz⟩ := I.list hq
  obtain ⟨j, h1, h2, h3, h4, h5⟩ := atI_get he
  obtain ⟨w, ew, rw'⟩ := r.get h2
  have hl := r.length
  have hn := line63
  have fin : EP X pins σ Q w s := ⟨z, H, I, rw', q⟩
  by_cases h0 : 0 ≤ i
  · have hj : i.toNat = j := by
      rw [seqIndex_of h0 h5] at h1
      exact Option.some.inj h1
    exact wpAny_getItem_list pl.isList h0 (by omega) (by rw [hj]; simpa using ew) fin
  · have hj : (i + (its.toArray.size : Int)).toNat = j := by
      rw [seqIndex_neg (by omega) h4] at h1
      rw [List.size_toArray, ← hl]
      exact Option.some.inj h1
    exact wpAny_getItem_list_neg pl.isList (by omega) (by rw [List.size_toArray] <;> omega) (by omega) (by rw [hj]; simpa using ew) fin
theorem x_augS {to ti te : TE} {tget : V → V → Hp → VK → Prop} {tip : TIp} {tset : TSet} (h : to σ H fun o H1 => ti σ H1 fun i H2 => tget o i H2 fun x H3 => te σ H3 fun y H4 => tip x y H4 fun z H5 => tset o i z H5 fun H6 => D.nx σ H6) : tAugS to ti te tget tip tset D σ H := h
theorem bit_and (m k : Nat) : Builtin.bitAnd ((m : Int) / 2 ^ k) 1 = (((m.testBit k).toNat : Nat) : Int) := by
  rw [show ((m : Int) / 2 ^ k) = ((m / 2 ^ k : Nat) : Int) by rw [Int.natCast_ediv, Int.natCast_pow]; rfl, PyProof.Rows.bitAnd_pp (Int.natCast_nonneg _) (by decide), Int.toNat_natCast]
  congr 1
  show m / 2 ^ k &&& 1 = _
  rw [Nat.and_one_is_mod, Nat.testBit_eq_decide_div_mod_eq]
  by_cases h : m / 2 ^ k % 2 = 1
  · rw [decide_eq_true h, h]; rfl
  · rw [decide_eq_false h]
    show _ = 0
    omega
theorem bx_and (a b : Bool) : Builtin.bitAnd ((a.toNat : Nat) : Int) ((b.toNat : Nat) : Int) = (((a && b).toNat : Nat) : Int) := by
  rw [PyProof.Rows.bitAnd_pp (Int.natCast_nonneg _) (Int.natCast_nonneg _)]
  cases a <;> cases b <;> rfl
theorem bx_xor (a b : Bool) : Builtin.bitXor ((a.toNat : Nat) : Int) ((b.toNat : Nat) : Int) = (((xor a b).toNat : Nat) : Int) := by
  rw [Bits.bitXor_pp (Int.natCast_nonneg _) (Int.natCast_nonneg _)]
  cases a <;> cases b <;> rfl
end
end Cb
namespace Cb
open PySem PySem.Spec PyProof.Rows L2
/-! ### a op1 b op2 c op3 d as a test; in over texts -/
theorem pt_chain3 {X : Cx} {a b c d : Expr} {pos : Pos} {ta tb tc td : TE} {op op' op'' : CmpOp} {r r' r'' : R2} (ho : OpR X (compareOp op) r) (ho' : OpR X (compareOp op') r') (ho'' : OpR X (compareOp op'') r'') (ha : PE X a ta) (hb : PE X b tb) (hc : PE X c tc) (hd : PE X d td)
    (hm : lastMarks [op, op', op''] [b, c, d] = false := by with_unfolding_all rfl) : PT X (.Compare a [op, op', op''] [b, c, d] pos) (tTest (tChain3 r r' r'' ta tb tc td)) := by
  refine ⟨fun pins s σ H Q I h => ?_⟩
  refine isTrue_chain (thn (ha.run pins s σ H _ I h) fun v s1 ⟨x, H1, I1, r1, q1⟩ => test_link (thn (hb.run pins s1 σ H1 _ I1 q1) fun u s2 ⟨y, H2, I2, r2, q2⟩ =>
    thn (ho pins s2 σ H2 x y v u _ I2 r1 r2 q2) fun _ s3 ⟨z, H3, I3, r3, k, e, q3⟩ => ?_)) hm
  subst e
  cases r3
  refine wpAny_truthy_bool ?_
  cases k with
  | false =>
    obtain ⟨k', e', q'⟩ := q3
    cases e'
    exact ite_ff ⟨H3, I3, q'⟩
  | true =>
    refine ite_tt (test_link (thn (hc.run pins s3 σ H3 _ I3 q3) fun w' s4 ⟨z', H4, I4, r4, q4⟩ => thn (ho' pins s4 σ H4 y z' u w' _ I4 r2 r4 q4) fun _ s5 ⟨z2, H5, I5, r5, k2, e2, q5⟩ => ?_))
    subst e2
    cases r5
    refine wpAny_truthy_bool ?_
    cases k2 with
    | false =>
      obtain ⟨k', e', q'⟩ := q5
      cases e'
      exact ite_ff ⟨H5, I5, q'⟩
    | true =>
      refine ite_tt (test_last (thn (hd.run pins s5 σ H5 _ I5 q5) fun w2 s6 ⟨z3, H6, I6, r6, q6⟩ => thn (ho'' pins s6 σ H6 z' z3 w' w2 _ I6 r4 r6 q6) fun _ s7 ⟨z4, H7, I7, r7, k3, e3, q7⟩ => ?_))
      subst e3
      cases r7
      exact wpAny_truthy_bool ⟨H7, I7, q7⟩
theorem inV_str (L : List Str) (b : Str) : inV (.str b) (L.map V.str) = decide (b ∈ L) := by
  induction L with
  | nil => rfl
  | cons a L ih =>
    show (eqV (.str a) (.str b) || inV (.str b) (L.map V.str)) = _
    rw [ih]
    by_cases e : a = b
    · subst e
      rw [show eqV (.str a) (.str a) = true from by simp [eqV], decide_eq_true (List.mem_cons_self ..)]
      rfl
    · rw [show eqV (.str a) (.str b) = false from by simp [eqV, e]]
      rw [Bool.false_or]
      exact decide_eq_decide.mpr ⟨fun z => List.mem_cons_of_mem _ z, fun z => (List.mem_cons.mp z).elim (fun q => absurd q.symm e) id⟩
theorem flat_str (L : List Str) : (L.map V.str).all flatV = true := by
  rw [List.all_eq_true]
  intro x hx
  obtain ⟨b, _, rfl⟩ := List.mem_map.mp hx
  rfl
theorem x_inS {K : PySem.W.Frag} {H : Hp} {Q : VK} {p : Addr} {L : List Str} {b : Str} (s : SqL K H p (L.map V.str) ∨ SqT K H p (L.map V.str)) (h : Q (.bl (decide (b ∈ L))) H) : rIn K false (.str b) (.ref p) H Q :=
  ⟨p, L.map V.str, rfl, s, rfl, flat_str L, by rw [if_neg Bool.false_ne_true, inV_str]; exact h⟩
theorem x_niS {K : PySem.W.Frag} {H : Hp} {Q : VK} {p : Addr} {L : List Str} {b : Str} (s : SqL K H p (L.map V.str) ∨ SqT K H p (L.map V.str)) (h : Q (.bl (!decide (b ∈ L))) H) : rIn K true (.str b) (.ref p) H Q :=
  ⟨p, L.map V.str, rfl, s, rfl, flat_str L, by rw [if_pos rfl, inV_str]; exact h⟩
theorem x_sum {K : PySem.W.Frag} {H : Hp} {Q : VK} {p : Addr} {ns : List Int} (s : SqL K H p (ns.map V.int)) (h : Q (.int ns.sum) H) : rSum K [.ref p] H Q := ⟨p, ns, rfl, s, h⟩
end Cb
namespace Cb
open PySem PySem.Spec PyProof.Rows L2
/-! ### own errors whose __init__ says super().__init__(text) and keeps its arguments -/
section
open PySem.W PySem.Calls
/-- what a class of errors over the built-in B says -/
structure SupC (K : Frag) (B newId i : String) (bmB : List Value) (C : Addr) : Prop where
  FB : ExcBaseFacts B newId i bmB
  SF : StoreFacts B bmB "object.__setattr__" "object"
  KF : KxsFacts B i
  exI : excInitIn K C bmB newId = true
  ov : excOver K C bmB = true
  hdC : hasDictIn K C = true
  sa : findIn K (.ref C) "__setattr__" = some (some (.builtin "object.__setattr__"))
  kC : keepIn K (.ref C) = true
  exC : subIn K (.ref C) (.type "BaseException") = some true
  subB : subIn K (.ref C) (.type B) = some true
  tyC : typeIn K (.ref C) = some (.type "type")
  tp : nsIn K cStatics "thirdparty.any" = some none
  mroC : mroIn K C (.ref C) = some true
  supI : ks_superIn K C C "__init__" = some (some (.builtin i))
/-- what its __init__ says -/
structure SupF (P : Program) (K : Frag) (C fI : Addr) (qual : Str) (params : Arguments) (body : List Stmt) (scope : Scope) : Prop where
  iC : findIn K (.ref C) "__init__" = some (some (.ref fI))
  tI : typeIn K (.ref fI) = some (.type "function")
  fn : ∃ (oc : Value) (od : Option Addr) (doc pm : Value) (an : Option Addr) (cda : Addr) (ct : Value) (cc : Addr) (osl : Array (Option Value)),
    (K.lookup fI = some ⟨oc, od, .func (ksFn "__init__" qual params body scope .none .none doc pm an (.ref cda) ct cc), osl⟩ ∧ codeIn K (.ref cda) qual = true) ∧
    (∃ ccl cdd vs ccs file tf, K.lookup cda = some ⟨ccl, cdd, .fields vs, ccs⟩ ∧ vs[2]? = some (.str file tf) ∧ ((P.main.file : Str) == file) = true) ∧
    ∃ cl cld csl, K.lookup cc = some ⟨cl, cld, .cell (some (.ref C)), csl⟩
  top : (P.main.scope.names.lookup ("super" : Str)).isSome = false
section
variable {P : Program} {w : World} {A : Around} {K : Frag} {B newId i : String} {bmB : List Value} {C : Addr}
/-- the wrapper of B's own __init__, called: the error's args are new -/
theorem sup_call {E : Value → Shared → Prop} {h : Heap} {g : Array GenState} {d : Drawn} {t : Nat} {os : OsState} {e u t0 : Addr} {rest : List Value} {Q : Value → Shared → Prop}
    (T : SupC K B newId i bmB C) (X : K.In h) (he : h.get? e = some (HandSPX.excO C t0)) (gu : h.get? u = some (kxs_mw i e)) (hz : rest.length ≤ sizeLine)
    (kq : ∀ hz t1, (∀ b o, b ≠ e → h.get? b = some o → hz.get? b = some o) → hz.get? e = some (HandSPX.excO C t1) → Q .none ⟨hz, g, d, t, os⟩) :
    wpAny (model P w) A (call (.ref u) rest) Q E ⟨h, g, d, t, os⟩ := by
  obtain ⟨nm, N, qn, bs, bm, hdct, sn, sub, ab, col, dd, k0, k1, k2, k3, k5, hC, hT⟩ := excInit_of X T.exI
  refine wpAny_call (codeAny_of_tree (show wpAny _ A.in1 (callAny (.ref u) ⟨rest, []⟩) _ _ _ from ?_))
  unfold callAny
  refine wpAny_bind (wpAny_load gu ?_)
  refine W.KFB.if_so (by dsimp only [kxs_mw]; decide) ?_
  refine wpAny_bind (check_bound_init T.FB.toExcCallFacts hC he rfl ?_)
  refine wpAny_bind (wpAny_pure (wpAny_pure ⟨plainId_quiet T.FB.init.plain _, codeAny_builtin T.FB.initEntry ?_⟩))
  exact exc_init_tree (cls := .ref C) (t0 := t0) (dv := none) (c2 := .none) (c3 := .none) (b4 := .bool false) he hz fun hz k e' _ => kq hz _ k e'
/-- the first field -/
theorem sup_new {hp : Heap} {g : Array GenState} {d : Drawn} {t : Nat} {os : OsState} {R : Result → Shared → Prop} {name : Str} {tk : Tok} {v : Value} {x t0 : Addr}
    (T : SupC K B newId i bmB C) (X : K.In hp) (hx : hp.get? x = some (excObj C t0 none .none)) (ht : takerIn K C name = some none)
    (kq : ∀ hz tz dx, (∀ b o, b ≠ x → hp.get? b = some o → hz.get? b = some o) → hp.objs.size ≤ dx → dx ≠ x → hz.get? x = some (excObj C t0 (some dx) .none) →
      hz.Ns1 dx (fun y => if y = name then some v else none) → R (.ok (.ret .none)) ⟨hz, g, d, tz, os⟩) :
    codeAny (model P w) A (.call (.builtin "object.__setattr__") ⟨[.ref x, .str name tk, v], []⟩) R ⟨hp, g, d, t, os⟩ := by
  have nxs : x ≠ hp.objs.size := Nat.ne_of_lt (Heap.lt_size hx)
  refine osa_openX (od := none) T.SF X ⟨hx, rfl, rfl, trivial⟩ T.ov ht fun b => ?_
  obtain ⟨cd, hc, hd2⟩ := any_some T.hdC
  refine wpAny_bind (wpAny_pure (wpAny_bind (instanceDict_exc hx (looks_clsIn X hc) hd2 ?_)))
  refine HandSPX.store_in_new ?_ fun hz tz hn2 sb => ?_
  · exact ⟨_, #[], _, (Heap.get?_update_ne _ _ _ _ nxs.symm).trans (Heap.get?_push_at rfl rfl), rfl, fun e he => absurd he (by simp), fun _ => rfl⟩
  · have hx1 : (hp.push { cls := .type "dict", data := .dict #[] }).get? x = some (excObj C t0 none .none) := Heap.get?_push_of_some _ hx
    refine kq hz tz hp.objs.size (fun b o hb ho => ?_) (Nat.le_refl _) nxs.symm ?_ hn2
    · exact (sb.2 b (Nat.ne_of_lt (Heap.lt_size ho))).trans ((Heap.get?_update_ne _ _ _ _ hb).trans (Heap.get?_push_of_some _ ho))
    · exact (sb.2 x nxs).trans (Heap.get?_update_self _ hx1 rfl)
/-- a later field -/
theorem sup_old {hp : Heap} {g : Array GenState} {d : Drawn} {t : Nat} {os : OsState} {R : Result → Shared → Prop} {name : Str} {tk : Tok} {v : Value} {x dx t0 : Addr} {m0 : Str → Option Value} {nl : List Str}
    (T : SupC K B newId i bmB C) (X : K.In hp) (hx : hp.get? x = some (excObj C t0 (some dx) .none)) (hns : hp.Ns1 dx m0) (hw : Within m0 nl) (hz : nl.length ≤ 1000) (ht : takerIn K C name = some none)
    (kq : ∀ hz tz, (∀ b o, b ≠ dx → hp.get? b = some o → hz.get? b = some o) → hz.Ns1 dx (fun y => if y = name then some v else m0 y) → R (.ok (.ret .none)) ⟨hz, g, d, tz, os⟩) :
    codeAny (model P w) A (.call (.builtin "object.__setattr__") ⟨[.ref x, .str name tk, v], []⟩) R ⟨hp, g, d, t, os⟩ := by
  obtain ⟨uD, eD, pD, gD, dD, _⟩ := hns.count hw
  refine osa_openX (od := some uD) T.SF X ⟨hx, rfl, rfl, gD⟩ T.ov ht fun b => ?_
  obtain ⟨cd, hc, hd2⟩ := any_some T.hdC
  refine wpAny_bind (wpAny_pure (wpAny_bind (wpAny_bind (wpAny_loadPart hx (wpAny_bind ((looks_clsIn X hc).here ?_))))))
  rw [hd2]
  refine wpAny_pure (a := some dx) ?_
  exact PySem.ESX.store_in_old hns hw hz fun hz tz hn2 sb => kq hz tz (fun b o hb ho => (sb.2 b hb).trans ho) hn2
/-- the scope of such an __init__ -/
abbrev supS (nms : List (Str × NameKind)) : Scope := { kind := .function, names := nms, isGenerator := false, isCoroutine := false, more := [] }
/-- super().__init__(text): the error's args are new, all else stays -/
theorem sup_first {E : Value → Shared → Prop} {mg : Str → Option Value} {base h : Heap} {g : Array GenState} {d : Drawn} {t : Nat} {os : OsState} {L x t0 fI cda cc : Addr} {qual msg : Str} {params : Arguments} {body0 body : List Stmt} {nms : List (Str × NameKind)}
    {doc pm ct oc ccl cl : Value} {an od cdd cld : Option Addr} {osl ccs csl : Array (Option Value)} {vs : Array Value} {file : Str} {tf : Tok} {ar : Arg} {m : Str → Option Value} {p0 p1 p2 p3 p4 p5 : Pos} {j : Nat} {Q : Flow → Shared → Prop}
    (T : SupC K B newId i bmB C) (X : K.In h) (Md : Mod K mg base) (kb : ∀ b o, base.get? b = some o → h.get? b = some o) (hsup : mg "super" = none)
    (ho : K.lookup fI = some ⟨oc, od, .func (ksFn "__init__" qual params body0 (supS nms) .none .none doc pm an (.ref cda) ct cc), osl⟩)
    (hcode : K.lookup cda = some ⟨ccl, cdd, .fields vs, ccs⟩) (hvs : vs[2]? = some (.str file tf)) (hfile : ((P.main.file : Str) == file) = true) (htop : (P.main.scope.names.lookup ("super" : Str)).isSome = false)
    (hcell : K.lookup cc = some ⟨cl, cld, .cell (some (.ref C)), csl⟩) (hns : h.Ns L m) (hself : m "self" = some (.ref x)) (hx : h.get? x = some (HandSPX.excO C t0))
    (hp : (params.posonlyargs ++ params.args).head? = some ar) (har : ar.arg = "self")
    (hks : nms.lookup ("super" : Str) = some .globalImplicit) (hkc : nms.lookup ("__class__" : Str) = some .free) (hka : nms.lookup ("self" : Str) = some .local)
    (hpos : (p2.endLine == p4.line) = true)
    (hq : ∀ h' tk t1, (∀ b o, b ≠ x → h.get? b = some o → h'.get? b = some o) → h'.get? x = some (HandSPX.excO C t1) → Q .next ⟨h', g, d, tk, os⟩) :
    PySem.wpAt (model P w) A (.func body (ksEnv qual (supS nms) L fI (.ref cda) cc)) (exec (.Expr (.Call (.Attribute (.Call (.Name "super" p0) [] [] p1) "__init__" p2) [.Constant (.str msg) j p3] [] p4) p5) (ksEnv qual (supS nms) L fI (.ref cda) cc)) Q E ⟨h, g, d, t, os⟩ := by
  obtain ⟨cd, hcC, _⟩ := any_some T.hdC
  obtain ⟨oD, hD1, hD2⟩ : ∃ oD, h.get? C = some oD ∧ oD.data = .cls cd := by
    unfold clsIn at hcC
    split at hcC
    · rename_i c d cd' sl ho'
      cases hcC
      exact ⟨_, X _ _ ho', rfl⟩
    · cases hcC
  have hxC : x ≠ C := by
    intro e
    rw [e, hD1] at hx
    cases hx
    cases hD2
  obtain ⟨mb, hb1, hb2⟩ := Md.blt
  refine ks_wpAt_Expr_any ?_
  refine ks_wpAt_MethodCall (pl := (do return (← importBound (.Call (.Name "super" p0) [] [] p1) (ksEnv qual (supS nms) L fI (.ref cda) cc)).getD true)) ?_ (he := by
    show (do
      let ov ← attributeBase (.Call (.Name "super" p0) [] [] p1) "__init__" _ _
      standAt p2.atName
      methodCall _ _ _ _ _ ov _ _ _) = _
    unfold methodCall methodCallPos
    rw [hpos]
    rfl)
  refine ks_wpAt_super_base hks hkc rfl rfl (X _ _ ho) rfl hp rfl (X _ _ hcode) rfl hvs hfile htop ?_
  refine ks_loadName_global rfl hks (loadGlobal_builtin (env := ksEnv qual (supS nms) L fI (.ref cda) cc) (Md.glob.keeps kb) hsup (hb1.keeps kb) ((hb2 "super" (by decide)).trans (by first | boot_by_name | rfl | kernel_rfl)) ⟨rfl, ?_⟩)
  refine wpAny_loadName_free rfl hkc rfl ⟨_, X _ _ hcell, rfl⟩ ?_
  rw [har]
  refine wpAny_loadName_local rfl hka hns hself ?_
  refine ks_wpAny_isType_cls hD1 hD2 ⟨rfl, ?_⟩
  refine ks_wpAny_call_super hD1 hD2 hx rfl (fun c e => by cases e) (looks_mroIn X T.mroC) (fun h1 e1 k1 => ?_)
  have X1 : K.In h1 := X.keeps k1
  have sI : alongIn K "__init__" ((cd.mro.dropWhile (· != .ref C)).drop 1) = some (some (.builtin i)) := by
    have z := T.supI
    unfold ks_superIn at z
    rw [hcC] at z
    exact z
  have hI : Looks (model P w) h1 (isInstance (.ref x) (.type B)) true := (InstAt.type (⟨k1 _ _ hx, rfl, rfl, trivial⟩ : InstAt h1 x (HandSPX.excO C t0) C none)).andThen (looks_subIn X1 T.subB)
  refine kxs_getMethod T.KF e1 (looks_opaque X1 T.tp) (l₀ := cd.mro) (fun A Q E s k q => wpAny_bind ((looks_clsIn X1 hcC) A _ E s k (wpAny_pure q))) rfl X1 sI hI hxC (by decide) ?_
  refine kxs_callWith (x := x) (i := i) rfl (evalArgs_plain (spliced_cons (wpAny_Constant_str (k := j) (pos := p3) (spliced_nil ⟨Heap.get?_push_at rfl rfl, ?_⟩))))
  have kp : ∀ b o, h1.get? b = some o → (h1.push (kxs_mw i x)).get? b = some o := fun b o e => Heap.get?_push_of_some _ e
  refine sup_call T (X1.keeps kp) (kp _ _ (k1 _ _ hx)) (Heap.get?_push_at rfl rfl) (by show 1 ≤ sizeLine; rw [sizeLine_eq]; decide) fun h' t1 k' e' => ?_
  exact hq h' _ t1 (fun b o hb e => k' b o hb (kp _ _ (k1 _ _ e))) e'
/-- the places of the first statement -/
structure SupP where
  p0 : Pos
  p1 : Pos
  p2 : Pos
  p3 : Pos
  p4 : Pos
  p5 : Pos
  j : Nat
abbrev supE (msg : Str) (z : SupP) : Stmt := .Expr (.Call (.Attribute (.Call (.Name "super" z.p0) [] [] z.p1) "__init__" z.p2) [.Constant (.str msg) z.j z.p3] [] z.p4) z.p5
/-- the places of a storing statement -/
structure SupQ where
  q1 : Pos
  q2 : Pos
  q3 : Pos
  q4 : Pos
abbrev supA (f : Str) (z : SupQ) : Stmt := .Assign [.Attribute (.Name "self" z.q1) f z.q2] (.Name f z.q3) z.q4
theorem ns_but {h h' : Heap} {L x : Addr} {m : Str → Option Value} (hn : h.Ns L m) (hx : L ≠ x) (k : ∀ b o, b ≠ x → h.get? b = some o → h'.get? b = some o) : h'.Ns L m := by
  obtain ⟨oL, es, ep, hL, r⟩ := hn
  exact ⟨oL, es, ep, k _ _ hx hL, r⟩
theorem in_but {h h' : Heap} {x : Addr} (X : K.In h) (hx : K.lookup x = none) (k : ∀ b o, b ≠ x → h.get? b = some o → h'.get? b = some o) : K.In h' := fun a o e => k a o (fun z => by rw [z, hx] at e; cases e) (X a o e)
/-- what __init__ leaves -/
structure SupEnd (h h' : Heap) (x C dx t1 : Addr) (mA : Str → Option Value) : Prop where
  keep : ∀ b o, b ≠ x → h.get? b = some o → h'.get? b = some o
  obj : h'.get? x = some (excObj C t1 (some dx) .none)
  big : h.objs.size ≤ dx
  ne : dx ≠ x
  ns : h'.Ns1 dx mA
theorem sup_init1 {s : Shared} {R : Result → Shared → Prop} {mg : Str → Option Value} {base : Heap} {fI x t0 : Addr} {v : Value} {qual msg f : Str} {params : Arguments} {nms : List (Str × NameKind)} {ar : Arg} {z : SupP} {z1 : SupQ}
    (T : SupC K B newId i bmB C) (F : SupF P K C fI qual params [supE msg z, supA f z1] (supS nms)) (X : K.In s.heap) (Md : Mod K mg base) (kb : ∀ b o, base.get? b = some o → s.heap.get? b = some o) (hsup : mg "super" = none)
    (hlim : s.heap.NoLimit) (hx : s.heap.get? x = some (HandSPX.excO C t0)) (hnx : K.lookup x = none) (hroom : A.depth < recursionLimit) (ht : takerIn K C f = some none)
    (hbind : ∀ (doc pm : Value) (an : Option Addr) (cdv ct : Value) (cc : Addr), BindsTo s (ksFn "__init__" qual params [supE msg z, supA f z1] (supS nms) .none .none doc pm an cdv ct cc) ⟨[.ref x, v], []⟩ [("self", .ref x), (f, v)])
    (hp : (params.posonlyargs ++ params.args).head? = some ar) (har : ar.arg = "self") (hcl : ∀ y ∈ nms, y.2 ≠ .cell)
    (hks : nms.lookup ("super" : Str) = some .globalImplicit) (hkc : nms.lookup ("__class__" : Str) = some .free) (hka : nms.lookup ("self" : Str) = some .local) (hkf : nms.lookup f = some .local)
    (hf1 : (("self" : Str) == f) = false) (hf2 : (f == ("__debug__" : Str)) = false) (hpos : (z.p2.endLine == z.p4.line) = true)
    (hq : ∀ h' tk dx t1, SupEnd s.heap h' x C dx t1 (fun y => if y = f then some v else none) → R (.ok (.ret .none)) { s with heap := h', toks := tk }) :
    codeAny (model P w) A (.call (.ref fI) ⟨[.ref x, v], []⟩) R s := by
  obtain ⟨oc, od, doc, pm, an, cda, ct, cc, osl, ⟨ho, hcd⟩, ⟨ccl, cdd, vs, ccs, file, tf, hcode, hvs, hfile⟩, cl, cld, csl, hcell⟩ := F.fn
  refine ks_codeAny_call_defAt (binds := [("self", .ref x), (f, v)]) hroom (X _ _ ho) rfl hlim (codeRec_of X hcd) rfl (hbind _ _ _ _ _ _) hcl (fun y hy => ?_) (fun h1 hns k1 => ?_)
  · rcases List.mem_cons.mp hy with rfl | hy
    · exact hka
    · rcases List.mem_cons.mp hy with rfl | hy
      · exact hkf
      · cases hy
  have X1 : K.In h1 := X.keeps k1
  have hLx : s.heap.objs.size ≠ x := Nat.ne_of_gt (Heap.lt_size hx)
  have mS : (fun y : Str => List.lookup y ([(("self" : Str), Value.ref x), (f, v)] : List (Str × Value)).reverse) ("self" : Str) = some (.ref x) := by
    show List.lookup ("self" : Str) ([(f, v), (("self" : Str), Value.ref x)] : List (Str × Value)) = _
    rw [List.lookup_cons, hf1]
    rfl
  have mF : (fun y : Str => List.lookup y ([(("self" : Str), Value.ref x), (f, v)] : List (Str × Value)).reverse) f = some v := by
    show List.lookup f ([(f, v), (("self" : Str), Value.ref x)] : List (Str × Value)) = _
    rw [List.lookup_cons, beq_self_eq_true]
  refine ks_wpAt_execs_cons (sup_first T X1 Md (fun b o e => k1 b o (kb b o e)) hsup ho hcode hvs hfile F.top hcell hns mS (k1 _ _ hx) hp har hks hkc hka hpos fun h2 tk t1 k2 e2 => ?_)
  have X2 : K.In h2 := in_but X1 hnx k2
  have n2 := ns_but hns hLx k2
  refine wpAt_of_wpAny (wpAny_execs_cons (plainObj_wpAny_Assign_Attribute ?_))
  refine wpAny_Name (wpAny_loadName_local rfl hkf n2 mF ?_) hf2
  refine wpAny_Name (wpAny_loadName_local rfl hka n2 mS ?_) (by decide)
  refine set_plain X2 (ox := excObj C t1 none .none) (od := none) ⟨e2, rfl, rfl, trivial⟩ T.sa ?_
  refine sup_new T X2 e2 ht fun h3 tk3 dx k3 dn dne e3 n3 => ?_
  show wpAny _ _ (execs _ _) _ _ _
  have lt : s.heap.objs.size < h2.objs.size := n2.lt
  exact wpAny_execs_nil (hq h3 tk3 dx t1 ⟨fun b o hb e => k3 b o hb (k2 b o hb (k1 b o e)), e3, Nat.le_of_lt (Nat.lt_of_lt_of_le lt dn), dne, n3⟩)
theorem sup_init2 {s : Shared} {R : Result → Shared → Prop} {mg : Str → Option Value} {base : Heap} {fI x t0 : Addr} {v v' : Value} {qual msg f f' : Str} {params : Arguments} {nms : List (Str × NameKind)} {ar : Arg} {z : SupP} {z1 z2 : SupQ}
    (T : SupC K B newId i bmB C) (F : SupF P K C fI qual params [supE msg z, supA f z1, supA f' z2] (supS nms)) (X : K.In s.heap) (Md : Mod K mg base) (kb : ∀ b o, base.get? b = some o → s.heap.get? b = some o) (hsup : mg "super" = none)
    (hlim : s.heap.NoLimit) (hx : s.heap.get? x = some (HandSPX.excO C t0)) (hnx : K.lookup x = none) (hroom : A.depth < recursionLimit) (ht : takerIn K C f = some none) (ht' : takerIn K C f' = some none)
    (hbind : ∀ (doc pm : Value) (an : Option Addr) (cdv ct : Value) (cc : Addr), BindsTo s (ksFn "__init__" qual params [supE msg z, supA f z1, supA f' z2] (supS nms) .none .none doc pm an cdv ct cc) ⟨[.ref x, v, v'], []⟩ [("self", .ref x), (f, v), (f', v')])
    (hp : (params.posonlyargs ++ params.args).head? = some ar) (har : ar.arg = "self") (hcl : ∀ y ∈ nms, y.2 ≠ .cell)
    (hks : nms.lookup ("super" : Str) = some .globalImplicit) (hkc : nms.lookup ("__class__" : Str) = some .free) (hka : nms.lookup ("self" : Str) = some .local) (hkf : nms.lookup f = some .local) (hkg : nms.lookup f' = some .local)
    (hf1 : (("self" : Str) == f) = false) (hf2 : (f == ("__debug__" : Str)) = false) (hg1 : (("self" : Str) == f') = false) (hg2 : (f' == ("__debug__" : Str)) = false) (hfg : (f == f') = false) (hpos : (z.p2.endLine == z.p4.line) = true)
    (hq : ∀ h' tk dx t1, SupEnd s.heap h' x C dx t1 (fun y => if y = f' then some v' else if y = f then some v else none) → R (.ok (.ret .none)) { s with heap := h', toks := tk }) :
    codeAny (model P w) A (.call (.ref fI) ⟨[.ref x, v, v'], []⟩) R s := by
  obtain ⟨oc, od, doc, pm, an, cda, ct, cc, osl, ⟨ho, hcd⟩, ⟨ccl, cdd, vs, ccs, file, tf, hcode, hvs, hfile⟩, cl, cld, csl, hcell⟩ := F.fn
  refine ks_codeAny_call_defAt (binds := [("self", .ref x), (f, v), (f', v')]) hroom (X _ _ ho) rfl hlim (codeRec_of X hcd) rfl (hbind _ _ _ _ _ _) hcl (fun y hy => ?_) (fun h1 hns k1 => ?_)
  · rcases List.mem_cons.mp hy with rfl | hy
    · exact hka
    · rcases List.mem_cons.mp hy with rfl | hy
      · exact hkf
      · rcases List.mem_cons.mp hy with rfl | hy
        · exact hkg
        · cases hy
  have X1 : K.In h1 := X.keeps k1
  have hLx : s.heap.objs.size ≠ x := Nat.ne_of_gt (Heap.lt_size hx)
  have mS : (fun y : Str => List.lookup y ([(("self" : Str), Value.ref x), (f, v), (f', v')] : List (Str × Value)).reverse) ("self" : Str) = some (.ref x) := by
    show List.lookup ("self" : Str) ([(f', v'), (f, v), (("self" : Str), Value.ref x)] : List (Str × Value)) = _
    rw [List.lookup_cons, hg1]
    show List.lookup ("self" : Str) ([(f, v), (("self" : Str), Value.ref x)] : List (Str × Value)) = _
    rw [List.lookup_cons, hf1]
    rfl
  have mF : (fun y : Str => List.lookup y ([(("self" : Str), Value.ref x), (f, v), (f', v')] : List (Str × Value)).reverse) f = some v := by
    show List.lookup f ([(f', v'), (f, v), (("self" : Str), Value.ref x)] : List (Str × Value)) = _
    rw [List.lookup_cons, hfg]
    show List.lookup f ([(f, v), (("self" : Str), Value.ref x)] : List (Str × Value)) = _
    rw [List.lookup_cons, beq_self_eq_true]
  have mG : (fun y : Str => List.lookup y ([(("self" : Str), Value.ref x), (f, v), (f', v')] : List (Str × Value)).reverse) f' = some v' := by
    show List.lookup f' ([(f', v'), (f, v), (("self" : Str), Value.ref x)] : List (Str × Value)) = _
    rw [List.lookup_cons, beq_self_eq_true]
  refine ks_wpAt_execs_cons (sup_first T X1 Md (fun b o e => k1 b o (kb b o e)) hsup ho hcode hvs hfile F.top hcell hns mS (k1 _ _ hx) hp har hks hkc hka hpos fun h2 tk t1 k2 e2 => ?_)
  have X2 : K.In h2 := in_but X1 hnx k2
  have n2 := ns_but hns hLx k2
  refine wpAt_of_wpAny (wpAny_execs_cons (plainObj_wpAny_Assign_Attribute ?_))
  refine wpAny_Name (wpAny_loadName_local rfl hkf n2 mF ?_) hf2
  refine wpAny_Name (wpAny_loadName_local rfl hka n2 mS ?_) (by decide)
  refine set_plain X2 (ox := excObj C t1 none .none) (od := none) ⟨e2, rfl, rfl, trivial⟩ T.sa ?_
  refine sup_new T X2 e2 ht fun h3 tk3 dx k3 dn dne e3 n3 => ?_
  show wpAny _ _ (execs _ _) _ _ _
  have lt : s.heap.objs.size < h2.objs.size := n2.lt
  have Ld : s.heap.objs.size ≠ dx := Nat.ne_of_lt (Nat.lt_of_lt_of_le lt dn)
  have X3 : K.In h3 := in_but X2 hnx k3
  have N3 := ns_but n2 hLx k3
  refine wpAny_execs_cons (plainObj_wpAny_Assign_Attribute ?_)
  refine wpAny_Name (wpAny_loadName_local rfl hkg N3 mG ?_) hg2
  refine wpAny_Name (wpAny_loadName_local rfl hka N3 mS ?_) (by decide)
  obtain ⟨oD, esD, epD, hoD, hdD, _⟩ := n3.count (Within.cons f v Within.nil)
  refine set_plain X3 (ox := excObj C t1 (some dx) .none) (od := some oD) ⟨e3, rfl, rfl, hoD⟩ T.sa ?_
  refine sup_old T X3 e3 n3 (Within.cons f v Within.nil) (by show 1 ≤ 1000; decide) ht' fun h4 tk4 k4 n4 => ?_
  show wpAny _ _ (execs _ _) _ _ _
  have nd : ∀ b o, s.heap.get? b = some o → b ≠ dx := fun b o e q => by
    have z := Nat.lt_of_lt_of_le (Nat.lt_trans (Heap.lt_size e) lt) dn
    rw [q] at z
    exact Nat.lt_irrefl _ z
  exact wpAny_execs_nil (hq h4 tk4 dx t1 ⟨fun b o hb e => k4 b o (nd b o e) (k3 b o hb (k2 b o hb (k1 b o e))), k4 _ _ (Ne.symm dne) e3, Nat.le_of_lt (Nat.lt_of_lt_of_le lt dn), dne, n4⟩)
/-- a made error: its own dict d bears mA -/
structure SupMade (h h' : Heap) (e C d : Addr) (mA : Str → Option Value) : Prop where
  keep : ∀ b o, h.get? b = some o → h'.get? b = some o
  new : h.objs.size ≤ e
  obj : ∃ t1, h'.get? e = some (excObj C t1 (some d) .none)
  dbig : h.objs.size ≤ d
  dne : d ≠ e
  ns : h'.Ns1 d mA
/-- what is asked of the text of a one-field __init__ -/
structure SupS1 (qual msg f : Str) (params : Arguments) (nms : List (Str × NameKind)) (z : SupP) (z1 : SupQ) : Prop where
  bind : ∀ (s : Shared) (x : Addr) (v doc pm : Value) (an : Option Addr) (cdv ct : Value) (cc : Addr), BindsTo s (ksFn "__init__" qual params [supE msg z, supA f z1] (supS nms) .none .none doc pm an cdv ct cc) ⟨[.ref x, v], []⟩ [("self", .ref x), (f, v)]
  hp : ∃ ar : Arg, (params.posonlyargs ++ params.args).head? = some ar ∧ ar.arg = "self"
  hcl : ∀ y ∈ nms, y.2 ≠ .cell
  hks : nms.lookup ("super" : Str) = some .globalImplicit
  hkc : nms.lookup ("__class__" : Str) = some .free
  hka : nms.lookup ("self" : Str) = some .local
  hkf : nms.lookup f = some .local
  hf1 : (("self" : Str) == f) = false
  hf2 : (f == ("__debug__" : Str)) = false
  hpos : (z.p2.endLine == z.p4.line) = true
structure SupS2 (qual msg f f' : Str) (params : Arguments) (nms : List (Str × NameKind)) (z : SupP) (z1 z2 : SupQ) : Prop where
  bind : ∀ (s : Shared) (x : Addr) (v v' doc pm : Value) (an : Option Addr) (cdv ct : Value) (cc : Addr), BindsTo s (ksFn "__init__" qual params [supE msg z, supA f z1, supA f' z2] (supS nms) .none .none doc pm an cdv ct cc) ⟨[.ref x, v, v'], []⟩ [("self", .ref x), (f, v), (f', v')]
  hp : ∃ ar : Arg, (params.posonlyargs ++ params.args).head? = some ar ∧ ar.arg = "self"
  hcl : ∀ y ∈ nms, y.2 ≠ .cell
  hks : nms.lookup ("super" : Str) = some .globalImplicit
  hkc : nms.lookup ("__class__" : Str) = some .free
  hka : nms.lookup ("self" : Str) = some .local
  hkf : nms.lookup f = some .local
  hkg : nms.lookup f' = some .local
  hf1 : (("self" : Str) == f) = false
  hf2 : (f == ("__debug__" : Str)) = false
  hg1 : (("self" : Str) == f') = false
  hg2 : (f' == ("__debug__" : Str)) = false
  hfg : (f == f') = false
  hpos : (z.p2.endLine == z.p4.line) = true
theorem sup_made {s : Shared} {R : Result → Shared → Prop} {fI : Addr} {vs : List Value} {mA : Str → Option Value}
    (T : SupC K B newId i bmB C) (iC : findIn K (.ref C) "__init__" = some (some (.ref fI))) (tI : typeIn K (.ref fI) = some (.type "function")) (X : K.In s.heap) (hlim : s.heap.NoLimit) (hz : vs.length ≤ sizeLine)
    (hi : ∀ (A' : Around) (s' : Shared) (x t0 : Addr) (R' : Result → Shared → Prop), A'.depth = A.depth + 1 → (∀ b o, s.heap.get? b = some o → s'.heap.get? b = some o) → s'.heap.NoLimit → s'.heap.get? x = some (HandSPX.excO C t0) → K.lookup x = none →
      (∀ h' tk dx t1, SupEnd s'.heap h' x C dx t1 mA → R' (.ok (.ret .none)) { s' with heap := h', toks := tk }) → codeAny (model P w) A' (.call (.ref fI) ⟨.ref x :: vs, []⟩) R' s')
    (hq : ∀ h' tk e d, SupMade s.heap h' e C d mA → R (.ok (.ret (.ref e))) { s with heap := h', toks := tk }) :
    codeAny (model P w) A (.call (.ref C) ⟨vs, []⟩) R s := by
  obtain ⟨nm, N, qn, bs, bm, hdct, sn, sub, ab, col, dd, k0, k1, k2, k3, k5, hC, hT⟩ := excInit_of X T.exI
  obtain ⟨hp, g, dr, tk, os⟩ := s
  have k : ∀ b o, hp.get? b = some o → ((hp.push (kdv_tup vs)).push (HandSPX.excO C hp.objs.size)).get? b = some o := fun b o e => Heap.get?_push_of_some _ (Heap.get?_push_of_some _ e)
  have hget : ((hp.push (kdv_tup vs)).push (HandSPX.excO C hp.objs.size)).get? (hp.objs.size + 1) = some (HandSPX.excO C hp.objs.size) := by heap_get
  have hnx : K.lookup (hp.objs.size + 1) = none := by
    cases e : K.lookup (hp.objs.size + 1) with
    | none => rfl
    | some o =>
      have z : hp.get? (hp.objs.size + 1) = some o := X _ _ e
      exact absurd (Nat.lt_of_succ_lt (Heap.lt_size z)) (Nat.lt_irrefl _)
  refine HandSPX.call_own T.FB hT hC (looks_findIn X iC) (fun self => bind_fn X self tI) hz ?_
  refine hi _ ⟨(hp.push (kdv_tup vs)).push (HandSPX.excO C hp.objs.size), g, dr, tk, os⟩ _ _ _ rfl k (hlim.keeps k) hget hnx fun h' tk' dx t1 e => ?_
  have old : ∀ b o, hp.get? b = some o → h'.get? b = some o := fun b o q => e.keep b o (Nat.ne_of_lt (Nat.lt_succ_of_lt (Heap.lt_size q))) (k b o q)
  have zz : hp.objs.size + 1 + 1 ≤ dx := by
    have q := e.big
    first
      | (simpa only [Heap.size_push] using q)
      | exact q
  exact ⟨rfl, hq h' tk' (hp.objs.size + 1) dx ⟨old, Nat.le_succ _, ⟨t1, e.obj⟩, Nat.le_trans (Nat.le_trans (Nat.le_succ _) (Nat.le_succ _)) zz, e.ne, e.ns⟩⟩
end
end
/-! ### made and raised, in the hand layer -/
theorem relO_one {v : V} {v' : Value} {f : Str} (r : RelV v v') (y : Str) : RelO (List.lookup y [(f, v)]) (if y = f then some v' else none) := by
  by_cases e : y = f
  · subst e
    rw [if_pos rfl, List.lookup_cons, beq_self_eq_true]
    exact r
  · rw [if_neg e, List.lookup_cons, beq_eq_false_iff_ne.mpr e]
    trivial
theorem relO_two {v u : V} {v' u' : Value} {f g : Str} (r : RelV v v') (q : RelV u u') (y : Str) : RelO (List.lookup y [(g, u), (f, v)]) (if y = g then some u' else if y = f then some v' else none) := by
  by_cases e : y = g
  · subst e
    rw [if_pos rfl, List.lookup_cons, beq_self_eq_true]
    exact q
  · rw [if_neg e, List.lookup_cons, beq_eq_false_iff_ne.mpr e]
    exact relO_one r y
/-- what is common to the classes of errors that are made here -/
structure ErC (K : PySem.W.Frag) (mg : Str → Option Value) (cn : Str) (C : Addr) : Prop where
  g : mg cn = some (.ref C)
  gs : mg "super" = none
  kC : PySem.W.keepIn K (.ref C) = true
  exC : PySem.W.subIn K (.ref C) (.type "BaseException") = some true
  tyC : PySem.W.typeIn K (.ref C) = some (.type "type")
  ec : ExcC K C
theorem ErC.xf {K : PySem.W.Frag} {mg : Str → Option Value} {cn : Str} {C : Addr} (T : ErC K mg cn C) : XfC K C := ⟨T.ec.hg, T.ec.hk, T.ec.hs, T.ec.hd⟩
/-- one field -/
structure Er1 (P : Program) (K : PySem.W.Frag) (mg : Str → Option Value) (cn : Str) (C : Addr) (f : Str) : Prop extends ErC K mg cn C where
  ex : ∃ (B newId i : String) (bmB : List Value) (fI : Addr) (qual msg : Str) (params : Arguments) (nms : List (Str × NameKind)) (z : SupP) (z1 : SupQ),
    SupC K B newId i bmB C ∧ SupF P K C fI qual params [supE msg z, supA f z1] (supS nms) ∧ SupS1 qual msg f params nms z z1
  tf : PySem.W.takerIn K C f = some none
  nof : PySem.W.findIn K (.ref C) f = some none
/-- two fields -/
structure Er2 (P : Program) (K : PySem.W.Frag) (mg : Str → Option Value) (cn : Str) (C : Addr) (f f' : Str) : Prop extends ErC K mg cn C where
  ex : ∃ (B newId i : String) (bmB : List Value) (fI : Addr) (qual msg : Str) (params : Arguments) (nms : List (Str × NameKind)) (z : SupP) (z1 z2 : SupQ),
    SupC K B newId i bmB C ∧ SupF P K C fI qual params [supE msg z, supA f z1, supA f' z2] (supS nms) ∧ SupS2 qual msg f f' params nms z z1 z2
  tf : PySem.W.takerIn K C f = some none
  tg : PySem.W.takerIn K C f' = some none
  nof : PySem.W.findIn K (.ref C) f = some none
  nog : PySem.W.findIn K (.ref C) f' = some none
section
variable {X : Cx} {C : Addr} {cn f f' : Str}
/-- behind the making: the error is laid beside, its dict into the heap that is told -/
theorem mkp_made {pins : List (Addr × Obj)} {σ : L2.St} {H1 : Hp} {s1 : Shared} {Q : XK} {fs : List (Str × V)} {mA : Str → Option Value} {h' : Heap} {tk : Nat} {e d : Addr} (I1 : Inv X pins σ H1 s1) (E : ErC X.K X.mg cn C) (M : SupMade s1.heap h' e C d mA)
    (hr : ∀ y, RelO (List.lookup y fs) (mA y)) (q : Q (.ref C) (some d) (upd H1 d (.xd fs))) : L2N.MkP X pins σ Q (.ref e) { s1 with heap := h', toks := tk } := by
  obtain ⟨hp, g, dr, tk0, os⟩ := s1
  obtain ⟨t1, he⟩ := M.obj
  have hns := M.ns
  obtain ⟨G', r1, r2⟩ := restrict h' fun b => decide (b ≠ e)
  have g1 : ∀ b, b ≠ e → G'.get? b = h'.get? b := fun b hb => r1 b (decide_eq_true hb)
  have g2 : G'.get? e = none := r2 e (by simp)
  have old : ∀ b o, hp.get? b = some o → G'.get? b = some o := fun b o q => (g1 b (Nat.ne_of_lt (Nat.lt_of_lt_of_le (Heap.lt_size q) M.new))).trans (M.keep b o q)
  have ob : ObjOk X.prog X.w (upd H1 d (.xd fs)) G' d (.xd fs) := ⟨_, hns.at (fun o q => (g1 d M.dne).trans q), hr⟩
  have J : Inv X pins σ (upd H1 d (.xd fs)) ⟨G', g, dr, tk, os⟩ := I1.laid (t' := tk) old M.dbig ob
  refine ⟨e, _, _, ⟨G', g, dr, tk, os⟩, _, .ref C, some d, rfl, J, fun b o q => ?_, g2, he, ⟨rfl, rfl, fun vs h => by cases h; rfl⟩, rfl, rfl, ?_, rfl, I1.bare, raises_own E.exC E.tyC, q⟩
  · by_cases hb : b = e
    · have q' : G'.get? b = some o := q
      rw [hb, g2] at q'
      cases q'
    · exact (g1 b hb).symm.trans q
  · rw [upd_ne (Ne.symm M.dne)]
    exact I1.hok.fresh M.new
/-- cn(a) -/
def tMk1 (C : Addr) (f : Str) (ta : TA) : L2.St → Hp → XK → Prop := fun σ H Q => ta σ H fun vs H1 => ∃ v, vs = [v] ∧ ∀ d, H1 d = none → Q (.ref C) (some d) (upd H1 d (.xd [(f, v)]))
def tMk2 (C : Addr) (f f' : Str) (ta : TA) : L2.St → Hp → XK → Prop := fun σ H Q => ta σ H fun vs H1 => ∃ v u, vs = [v, u] ∧ ∀ d, H1 d = none → Q (.ref C) (some d) (upd H1 d (.xd [(f', u), (f, v)]))
theorem pmk_1 {a : Expr} {ta : TA} {p pos : Pos} {k : Nat} (T : Er1 X.prog X.K X.mg cn C f) (hr : Room k X.A) (ha : PA X [a] ta) (hg : Gl X cn := by rfl) (hd : (cn == ("__debug__" : Str)) = false := by decide)
    (he : starEach (a :: []) X.env = (false, eval a X.env) :: starEach [] X.env := by rfl) (hpl : (backTo pos (starEach [] X.env)).any (·.1) = false := by rfl) : L2N.PMk X (.Call (.Name cn p) [a] [] pos) (tMk1 C f ta) := by
  intro pins s σ H Q I h
  refine wpAny_Call_Name_kw (ld_glob I hg T.g ?_ hd)
  refine PySem.W.callWith_K (h₀ := X.base) I.ok.mod.kin T.kC (thn (ha.run pos pins s σ H _ I h) fun us s1 hh => ?_) he hpl
  obtain ⟨vs, H1, I1, r1, v, ev, q1⟩ := hh
  subst ev
  refine ⟨I1.kIn, ?_⟩
  cases r1 with
  | cons rv rn =>
    rename_i v' us'
    cases rn
    obtain ⟨B, newId, i, bmB, fI, qual, msg, params, nms, z, z1, TC, TF, TS⟩ := T.ex
    obtain ⟨ar, hp1, hp2⟩ := TS.hp
    refine wpAny_call (sup_made TC TF.iC TF.tI I1.kIn I1.nolimit (by show 1 ≤ sizeLine; rw [sizeLine_eq]; decide) (fun A' s' x t0 R' dA k' lim hx hnx hq => ?_) fun h' tk e d M => mkp_made I1 T.toErC M (relO_one rv) (q1 d (I1.hok.fresh M.dbig)))
    exact sup_init1 TC TF (I1.kIn.keeps k') I1.ok.mod (fun b o e => k' b o (I1.bk b o e)) T.gs lim hx hnx (by rw [dA]; have := hr.dp; omega) T.tf (TS.bind _ _ _) hp1 hp2 TS.hcl TS.hks TS.hkc TS.hka TS.hkf TS.hf1 TS.hf2 TS.hpos hq
theorem pmk_2 {a a' : Expr} {ta : TA} {p pos : Pos} {k : Nat} (T : Er2 X.prog X.K X.mg cn C f f') (hr : Room k X.A) (ha : PA X [a, a'] ta) (hg : Gl X cn := by rfl) (hd : (cn == ("__debug__" : Str)) = false := by decide)
    (he : starEach (a :: [a']) X.env = (false, eval a X.env) :: starEach [a'] X.env := by rfl) (hpl : (backTo pos (starEach [a'] X.env)).any (·.1) = false := by rfl) : L2N.PMk X (.Call (.Name cn p) [a, a'] [] pos) (tMk2 C f f' ta) := by
  intro pins s σ H Q I h
  refine wpAny_Call_Name_kw (ld_glob I hg T.g ?_ hd)
  refine PySem.W.callWith_K (h₀ := X.base) I.ok.mod.kin T.kC (thn (ha.run pos pins s σ H _ I h) fun us s1 hh => ?_) he hpl
  obtain ⟨vs, H1, I1, r1, v, u, ev, q1⟩ := hh
  subst ev
  refine ⟨I1.kIn, ?_⟩
  cases r1 with
  | cons rv rn =>
    rename_i v' us'
    cases rn with
    | cons ru rn =>
      cases rn
      obtain ⟨B, newId, i, bmB, fI, qual, msg, params, nms, z, z1, z2, TC, TF, TS⟩ := T.ex
      obtain ⟨ar, hp1, hp2⟩ := TS.hp
      refine wpAny_call (sup_made TC TF.iC TF.tI I1.kIn I1.nolimit (by show 2 ≤ sizeLine; rw [sizeLine_eq]; decide) (fun A' s' x t0 R' dA k' lim hx hnx hq => ?_) fun h' tk e d M => mkp_made I1 T.toErC M (relO_two rv ru) (q1 d (I1.hok.fresh M.dbig)))
      exact sup_init2 TC TF (I1.kIn.keeps k') I1.ok.mod (fun b o e => k' b o (I1.bk b o e)) T.gs lim hx hnx (by rw [dA]; have := hr.dp; omega) T.tf T.tg (TS.bind _ _ _ _) hp1 hp2 TS.hcl TS.hks TS.hkc TS.hka TS.hkf TS.hkg TS.hf1 TS.hf2 TS.hg1 TS.hg2 TS.hfg TS.hpos hq
/-- isinstance(e, c), e the caught error at a, of the class C, its own dict d -/
def rIsX (K : PySem.W.Frag) (C a : Addr) (cls : Value) (d : Option Addr) : List V → Hp → VK → Prop := fun xs H Q => ∃ (c : V) (cv : Value) (b : Bool) (dd : Addr) (fs : List (Str × V)), cls = .ref C ∧ d = some dd ∧ H dd = some (.xd fs) ∧ xs = [.ref a, c] ∧ (∀ u, RelV c u → u = cv) ∧ PySem.W.kitOne K (.ref C) cv = some b ∧ Q (.bl b) H
theorem call_isX {a : Addr} {oe : Obj} {cls : Value} {d : Option Addr} {pn : List (Addr × Obj)} (T : ExcC X.K C) (hz : Zc cls d oe) (hf : ∃ vs, oe.data = .fields vs) : CallR (X.suite a ((a, oe) :: pn)) (.builtin "isinstance") (rIsX X.K C a cls d) := by
  intro pins s σ H xs us Q I r h
  obtain ⟨c, cv, b, dd, fs, ec, ed, hd, rfl, hcv, e, q⟩ := h
  subst ec ed
  cases r with
  | cons rx rr =>
    cases rr with
    | cons rt rr =>
      cases rr
      cases rx
      have e2 := hcv _ rt
      subst e2
      obtain ⟨hget, _⟩ := I.pin (a, oe) (List.mem_append.mpr (.inl List.mem_cons_self))
      obtain ⟨vs, hv⟩ := hf
      have hx : ObjOk X.prog X.w H s.heap dd (.xd fs) := I.hok dd _ hd
      obtain ⟨mA, hns, _⟩ := hx
      obtain ⟨od, ho, _⟩ := lookIn_ns hns
      have J : PySem.W.InstAt s.heap a oe C (some od) := ⟨hget, hz.1, by unfold PySem.W.notCls; rw [hv] <;> rfl, by rw [hz.2]; exact ho⟩
      obtain ⟨cd, hcd, _⟩ := PySem.W.any_some T.hd
      exact PySem.W.kia_one (PySem.W.kitx_exc (by rw [hcd]; rfl) T.hg T.hk T.hs T.ha T.hn T.ht T.hm) I.kIn J e (fun z => nomatch z) fun tk => ⟨.bl b, H, I.kept (t' := tk) fun _ _ z => z, rfl, q⟩
/-- raise cn(a) -/
def tRaise1 (C : Addr) (f : Str) (W : WX) (ta : TA) : TS := fun _ σ H => tMk1 C f ta σ H fun cls d H' => W cls d σ H'
def tRaise2 (C : Addr) (f f' : Str) (W : WX) (ta : TA) : TS := fun _ σ H => tMk2 C f f' ta σ H fun cls d H' => W cls d σ H'
theorem ps_raise1 {a : Expr} {ta : TA} {W : WX} {p pos pos2 : Pos} {k : Nat} (hc : X.calm = true) (T : Er1 X.prog X.K X.mg cn C f) (hr : Room k X.A) (tk : L2N.Takes X W) (ha : PA X [a] ta) (hg : Gl X cn := by rfl) (hd : (cn == ("__debug__" : Str)) = false := by decide)
    (he : starEach (a :: []) X.env = (false, eval a X.env) :: starEach [] X.env := by rfl) (hpl : (backTo pos (starEach [] X.env)).any (·.1) = false := by rfl) : PS X (.Raise (some (.Call (.Name cn p) [a] [] pos)) none pos2) (tRaise1 C f W ta) :=
  L2N.ps_raise hc tk (pmk_1 T hr ha hg hd he hpl)
theorem ps_raise2 {a a' : Expr} {ta : TA} {W : WX} {p pos pos2 : Pos} {k : Nat} (hc : X.calm = true) (T : Er2 X.prog X.K X.mg cn C f f') (hr : Room k X.A) (tk : L2N.Takes X W) (ha : PA X [a, a'] ta) (hg : Gl X cn := by rfl) (hd : (cn == ("__debug__" : Str)) = false := by decide)
    (he : starEach (a :: [a']) X.env = (false, eval a X.env) :: starEach [a'] X.env := by rfl) (hpl : (backTo pos (starEach [a'] X.env)).any (·.1) = false := by rfl) : PS X (.Raise (some (.Call (.Name cn p) [a, a'] [] pos)) none pos2) (tRaise2 C f f' W ta) :=
  L2N.ps_raise hc tk (pmk_2 T hr ha hg hd he hpl)
end
end Cb
/-! ### a comprehension where an error is handled -/
namespace Cb
open PySem PySem.Spec PyProof.Rows L2
/-- the block's context, the handled error's object kept -/
abbrev blkH (X : Cx) (s : Shared) (H : Hp) (scope : Scope) (cenv : Env) (fp : List Addr) (p : Addr × Obj) : Cx := { X.blk s H scope cenv fp with pn := [p] }
section
variable {X : Cx}
theorem inv_blkH {s s' : Shared} {σ : L2.St} {H H' : Hp} {scope : Scope} {cenv : Env} {fp : List Addr} {p : Addr × Obj} (I : Inv (X.blk s H scope cenv fp) [] σ H' s')
    (h : s'.heap.get? p.1 = some p.2 ∧ H' p.1 = none ∧ p.1 ≠ cenv.locals ∧ p.1 ∉ frs X.stack ∧ ∀ v, p.2.data ≠ .cell v) : Inv (blkH X s H scope cenv fp p) [] σ H' s' := by
  refine ⟨⟨I.ok.mod, I.ok.kind, I.ok.glob, I.ok.blt, I.ok.above, I.ok.inj, I.ok.has, I.ok.cab, I.ok.hd, I.ok.frames, I.ok.stk, I.ok.exf, I.ok.bs, I.ok.bsz, I.ok.noex, I.ok.exfs, I.ok.funs, I.ok.frf⟩, I.os, I.bare, I.base, I.loc, I.cell, I.free, I.freeC, fun q hq => ?_, I.hok, I.len⟩
  have e : q = p := by simpa using (show q ∈ [p] ++ ([] : List (Addr × Obj)) from hq)
  rw [e]
  exact h
theorem hot_blk {s : Shared} {H : Hp} {scope : Scope} {cenv : Env} {fp : List Addr} {p : Addr × Obj} (h : L2H.Hot1 X.A p) : L2H.HotC (blkH X s H scope cenv fp p) := ⟨p, h, List.mem_singleton_self _⟩
theorem pe_lcH {elt tg iter : Expr} {ifs : List Expr} {scope : Scope} {own : List (Str × Nat)} {pos : Pos} {wi : TI} {g : TG} {tt : TT} {te : TE} (hot : L2H.HotC X) (hN : X.N.Nodup) (hi : L2H.PIH X tg iter wi) (ok : BlkOk X.N X.env.scope scope own)
    (hg : ∀ (s : Shared) (H : Hp) (C : Addr) (cl : List (Str × Addr)) (fp : List Addr) (p : Addr × Obj), L2H.Hot1 X.A p → PG (blkH X s H scope (compEnvC scope cl C X.env) fp p) tg g)
    (ht : ∀ (s : Shared) (H : Hp) (C : Addr) (cl : List (Str × Addr)) (fp : List Addr) (p : Addr × Obj), L2H.Hot1 X.A p → PTs (blkH X s H scope (compEnvC scope cl C X.env) fp p) ifs tt)
    (he : ∀ (s : Shared) (H : Hp) (C : Addr) (cl : List (Str × Addr)) (fp : List Addr) (p : Addr × Obj), L2H.Hot1 X.A p → PE (blkH X s H scope (compEnvC scope cl C X.env) fp p) elt te) (hs : ∀ x, foldedSetIterable iter X.env x = pure x := by intro _; rfl) :
    PE X (.ListComp elt [⟨tg, iter, ifs, 0⟩] scope pos) (tLc wi g tt te (own.map (·.2))) := by
  refine ⟨fun pins s σ H Q I h => ?_⟩
  rw [eval_ListComp]
  obtain ⟨p, hp1, hpm⟩ := hot
  have hfree : ∀ y ∈ scope.names, y.2 = .free → ∃ c, X.env.cells.lookup y.1 = some c := fun y hy e => by
    rcases ok.free y hy e with k | k
    · exact I.ok.has _ (.inl k)
    · exact I.ok.has _ (.inr k)
  refine wpAny_comprehension_free (use := none) rfl hs (closure_ok hfree) ok.kind (fun y hy e => by rw [ok.uniq y hy, e])
    (thn (hi.run pins s σ H _ I h) fun xv s1 hx => thn hx fun itv s2 h2 => ?_)
  obtain ⟨it, fp, tn, J, H2, e, I2, T, st2, f2, q⟩ := h2
  subst e
  refine wpAny_newObj_type (newEnv_comp ?_) (by show 0 ≤ sizeLine; decide)
  generalize hD : s2.heap.objs.size = D
  have hDn : H2 D = none := I2.hok.fresh (Nat.le_of_eq hD)
  obtain ⟨W, ⟨m0, w0⟩, turn⟩ := q D hDn
  generalize hs3 : ({ s2 with heap := s2.heap.push { cls := .type "list", data := .seq ([] : List Value).toArray } } : Shared) = s3
  have I3 : Inv X pins σ (upd H2 D (.lst [])) s3 := by
    rw [← hs3]
    refine I2.laid (t' := s2.toks) (fun b o e => Heap.get?_push_of_some _ e) (Nat.le_of_eq hD) ⟨Nat.zero_le _, [], 0, .nil, ?_⟩
    rw [← hD]
    exact Heap.get?_push_size _ rfl
  have h3 : s3.heap = s2.heap.push { cls := .type "list", data := .seq ([] : List Value).toArray } := by rw [← hs3]
  have sz : ∀ b ∈ fp, b < s2.heap.objs.size := fun b hb => by
    obtain ⟨o, e, _⟩ := T.obj _ _ st2 b hb
    exact Heap.lt_size e
  have f3 : ∀ b ∈ fp, FpOk X pins (upd H2 D (.lst [])) b ∧ b < s3.heap.objs.size := fun b hb => by
    have hlt := sz b hb
    refine ⟨⟨?_, (f2 b hb).2⟩, by rw [h3, Heap.size_push]; exact Nat.lt_succ_of_lt hlt⟩
    rw [upd_ne (by rw [← hD]; exact Nat.ne_of_lt hlt)]
    exact (f2 b hb).1
  have st3 : tn 0 s3.heap := T.keep _ _ _ st2 fun b _ o e => by rw [h3]; exact Heap.get?_push_of_some _ e
  have P3 := I3.pin p (List.mem_append_left _ hpm)
  have npf : ∀ b ∈ fp, p.1 ≠ b := fun b hb => (f3 b hb).1.2.2.2.2.2 p (List.mem_append_left _ hpm)
  have npC : p.1 ≠ s3.heap.objs.size := Nat.ne_of_lt (Heap.lt_size P3.1)
  have nps : p.1 ∉ frs X.stack := fun hm => (List.mem_cons.mp (I3.stkSub p.1 hm)).elim P3.2.2.1 P3.2.2.2.1
  have I4' := block_start I3 ok hN f3
  have I4 := inv_blkH (p := p) I4' ⟨pushCells_keeps _ _ _ _ (Heap.get?_push_of_some _ P3.1), P3.2.1, npC, nps, P3.2.2.2.2⟩
  have pg := hg s3 (upd H2 D (.lst [])) s3.heap.objs.size (cellsFrom (s3.heap.objs.size + 1) scope.names (cloFrom X.env.cells scope.names [])) fp p hp1
  have pt := ht s3 (upd H2 D (.lst [])) s3.heap.objs.size (cellsFrom (s3.heap.objs.size + 1) scope.names (cloFrom X.env.cells scope.names [])) fp p hp1
  have pe := he s3 (upd H2 D (.lst [])) s3.heap.objs.size (cellsFrom (s3.heap.objs.size + 1) scope.names (cloFrom X.env.cells scope.names [])) fp p hp1
  show codeAny _ _ (.compStart (.ListComp elt [⟨tg, iter, ifs, 0⟩] scope pos) 0 (.ref it) (.ref D) (compEnvC scope (cellsFrom (s3.heap.objs.size + 1) scope.names (cloFrom X.env.cells scope.names [])) s3.heap.objs.size X.env)) (compPost (model X.prog X.w) X.A X.xe none (EP X pins σ Q) (.ref D) s3.heap.objs.size) { s3 with heap := pushCells (s3.heap.push { cls := .type "dict", data := .dict #[] }) scope.names }
  have nfp : ∀ b ∈ fp, (upd H2 D (.lst [])) b = none := fun b hb => (f3 b hb).1.1
  clear I4'
  generalize hce : compEnvC scope (cellsFrom (s3.heap.objs.size + 1) scope.names (cloFrom X.env.cells scope.names [])) s3.heap.objs.size X.env = ce at I4 pg pt pe ⊢
  have cL : ce.locals = s3.heap.objs.size := by subst hce; rfl
  generalize hH3 : upd H2 D (.lst []) = H3 at I3 I4 pg pt pe w0 nfp f3
  generalize hs4 : ({ s3 with heap := pushCells (s3.heap.push { cls := .type "dict", data := .dict #[] }) scope.names } : Shared) = s4 at I4 ⊢
  have st4 : tn 0 s4.heap := T.keep _ _ _ st3 fun b _ o e => by rw [← hs4]; exact pushCells_keeps _ _ _ _ (Heap.get?_push_of_some _ e)
  have hotB : L2H.HotC (blkH X s3 H3 scope ce fp p) := hot_blk hp1
  have stat : ∀ {σ' : L2.St} {H' : Hp} {s' : Shared}, Inv (blkH X s3 H3 scope ce fp p) [] σ' H' s' → (∀ b ∈ fp, H' b = none) → ∀ b ∈ fp, FpOk (blkH X s3 H3 scope ce fp p) [] H' b := fun {σ' H' s'} I' hn b hb =>
    ⟨hn b hb, (I'.ok.exf b hb).1, I'.ok.exfs b hb, .inl hb, fun x c e => (I'.ok.exf b hb).2 x c e, fun q hq => by
      have e : q = p := by simpa using (show q ∈ [p] ++ ([] : List (Addr × Obj)) from hq)
      rw [e]
      exact npf b hb⟩
  have loop : codeAny (model X.prog X.w) X.A (.compLoop (.ListComp elt [⟨tg, iter, ifs, 0⟩] scope pos) 0 (.ref it) (.ref D) ce) (compPost (model X.prog X.w) X.A X.xe none (EP X pins σ Q) (.ref D) s3.heap.objs.size) s4 := by
    refine compLoop_any (fun n s' => ∃ i H', Inv (blkH X s3 H3 scope ce fp p) [] (wipe σ (own.map (·.2))) H' s' ∧ tn i s'.heap ∧ (∀ b ∈ fp, H' b = none) ∧ W i n H') ?_ m0 ⟨0, H3, I4, st4, nfp, w0⟩
    rintro n s5 ⟨i, H5, I5, st5, n5, w5⟩
    rcases turn i n H5 w5 with ⟨stop, qq⟩ | ⟨go, Nx, hNx, step⟩
    · have td := T.done (blkH X s3 H3 scope ce fp p) rfl rfl rfl hotB i [] s5 _ H5 (fun _ _ => False) I5 (stat I5 n5) st5 stop
      refine thnF td fun r s6 ⟨hr, I6⟩ => ?_
      subst hr
      have I7 : Inv X pins σ H5 s6 := I3.call' (ch := fp) I6.os I6.base I6.hok I6.bare fun b hb => ⟨(f3 b hb).1.2.2.2.1, (f3 b hb).1.2.1, (f3 b hb).1.2.2.2.2.1, (f3 b hb).1.2.2.2.2.2⟩
      have nC : H5 s3.heap.objs.size = none := by
        have z : H5 ce.locals = none := I6.free
        rw [cL] at z
        exact z
      obtain ⟨m, hn, _⟩ := I6.loc
      have hn : s6.heap.Ns ce.locals m := hn
      rw [cL] at hn
      refine ⟨m, hn, fun h'' sb => ?_⟩
      obtain ⟨f0, f1, f2, f3, f4, f5⟩ := I3.fpOk (H' := H5) (Nat.le_refl _) nC
      exact ⟨.ref D, H5, I7.turned (t' := s6.toks) (fun b o hb e => (sb.2 b hb).trans e) f0 f1 f3 f4 f5, rfl, qq⟩
    · have ti := T.item (blkH X s3 H3 scope ce fp p) rfl rfl rfl hotB i [] s5 _ H5 (fun _ _ => False) I5 (stat I5 n5) st5 go
      refine thnF ti fun r s6 ⟨u, hr, h6⟩ => ?_
      subst hr
      refine thnF h6 fun _ s7 ⟨x, H7, I7, r7, y7, st7, n7⟩ => ?_
      have I7' := I7.pinned (stat I7 n7) (T.obj _ _ st7)
      refine thnF (pg.run _ s7 _ H7 x u _ I7' r7 (step x H7 y7)) fun _ s8 ⟨σ8, H8, I8, hw8, q8⟩ => ?_
      refine thnF (pt.run _ s8 σ8 H8 _ I8 q8) fun b s9 ⟨H9, I9, q9⟩ => ?_
      have fin : ∀ {s' : Shared} {H' : Hp}, Inv (blkH X s3 H3 scope ce fp p) ([] ++ pinsAt fp s7.heap) σ8 H' s' → Nx H' → ∃ m, m < n ∧ ∃ i H', Inv (blkH X s3 H3 scope ce fp p) [] (wipe σ (own.map (·.2))) H' s' ∧ tn i s'.heap ∧ (∀ b ∈ fp, H' b = none) ∧ W i m H' := fun {s' H'} I' nx => by
        obtain ⟨m', hm, w'⟩ := hNx H' nx
        have pin' : ∀ b ∈ fp, ∀ o, s7.heap.get? b = some o → s'.heap.get? b = some o ∧ H' b = none := fun b hb o e =>
          let z := I'.pin (b, o) (List.mem_append_right _ (List.mem_append_right _ (mem_pinsAt hb e)))
          ⟨z.1, z.2.1⟩
        have hl : (wipe σ (own.map (·.2))).length = σ8.length := by rw [← hw8, wipe_length]
        refine ⟨m', hm, i + 1, H', (I'.unpinned (pins := [])).weak hl (fun j v e => ?_), T.keep _ _ _ st7 fun b hb o e => (pin' b hb o e).1, fun b hb => ?_, w'⟩
        · rw [← hw8] at e
          exact (wipe_some e).1
        · obtain ⟨o, e, _⟩ := T.obj _ _ st7 b hb
          exact (pin' b hb o e).2
      cases b with
      | false =>
        simp only [Bool.false_eq_true, if_false] at q9 ⊢
        exact fin I9 q9
      | true =>
        simp only [if_true] at q9 ⊢
        refine thnF (pe.run _ s9 σ8 H9 _ I9 q9) fun z s10 ⟨yv, H10, I10, r10, acc, hD10, hz10, nx⟩ => ?_
        exact app_ok (X := blkH X s3 H3 scope ce fp p) I10 hD10 hz10 r10 fun s11 I11 => fin I11 nx
  exact codeAny_compStart_list loop (T.self X.A 0 _ _ _ st4 loop)
end
end Cb
/-! ### try: body, several clauses, each with the same name behind as -/
namespace Cb
open PySem PySem.Spec PyProof.Rows L2
/-- the clauses, one after the other -/
def wAsM (K : PySem.W.Frag) (i : Nat) (Wout : WX) (D : Ends) : List (Value × (Addr → Value → Option Addr → TS)) → WX
  | [] => Wout
  | (c, ts) :: r => fun cls d σ H => ∃ b, PySem.W.exmOne K cls c = some b ∧ (b = true → ∀ a, H a = none → ts a cls d { nx := fun σ' H' => D.nx (σ'.set i none) H', rt := D.rt, bk := fun σ' H' => D.bk (σ'.set i none) H', ct := fun σ' H' => D.ct (σ'.set i none) H' } (σ.set i (some (.ref a))) H) ∧
    (b = false → wAsM K i Wout D r cls d σ H)
inductive HdsAs (X : Cx) (n : Str) : List ExceptHandler → List (Value × (Addr → Value → Option Addr → TS)) → Prop
  | nil : HdsAs X n [] []
  | cons {x : Str} {c : Value} {ts : Addr → Value → Option Addr → TS} {b₀ : Stmt} {suite : List Stmt} {np pos' : Pos} {hds : List ExceptHandler} {l : List (Value × (Addr → Value → Option Addr → TS))} (hc : Names X x c)
      (hsu : ∀ (a : Addr) (oe : Obj) (cls : Value) (d : Option Addr) (pn : List (Addr × Obj)), L2N.Zn cls d oe → (∃ vs, oe.data = .fields vs) → PSs (X.suite a ((a, oe) :: pn)) (b₀ :: suite) (ts a cls d)) (r : HdsAs X n hds l) :
      HdsAs X n (.ExceptHandler (some (.Name x np)) (some n) (b₀ :: suite) pos' :: hds) ((c, ts) :: l)
section
variable {X : Cx} {n : Str} {i : Nat} {body : List Stmt} {h₀ : ExceptHandler} {hds : List ExceptHandler} {l : List (Value × (Addr → Value → Option Addr → TS))} {pos : Pos} {tb : WX → TS} {Wout : WX}
theorem ps_try_asM (hs : X.stack = X.env :: X.outer) (hf : X.env.frame = some X.env.locals) (hN : X.N.Nodup) (hi : X.N[i]? = some n) (hln : X.env.kindOf n = some .local) (tk : L2N.Takes X Wout)
    (hb : ∀ (W : WX) (pn : List (Addr × Obj)) (xe : Value → Shared → Prop), L2N.Takes (X.tr pn xe) W → PassesOwn (model X.prog X.w) X.A X.env xe → PSs (X.tr pn xe) body (tb W))
    (hh : HdsAs X n (h₀ :: hds) l) : PS X (.Try body (h₀ :: hds) [] [] pos) (fun D σ H => tb (wAsM X.K i Wout D l) D σ H) := by
  refine ⟨fun pins s σ H D I h => ?_⟩
  have ok := I.ok
  have hfr : X.A.frames = some (X.env :: X.outer) := by rw [ok.frames, hs]
  have hloc : Loc X.env.scope n := .inl hln
  refine wpAny_Try_except ?_
  refine wpAny_mono ((hb (wAsM X.K i Wout D l) (X.pn ++ pins) (fun e s₁ => wpAny (model X.prog X.w) X.A (noteFrame e X.env) (fun _ s₂ => wpAny (model X.prog X.w) X.A (setFlight e none) (fun _ s₃ =>
    wpAny (model X.prog X.w) X.A (handleBy e X.env (h₀ :: hds)) (SP X pins D) X.xe s₃) X.xe s₂) X.xe s₁) (fun u s' xx => ?_) PassesOwn.looking).run [] s σ H D (I.toTry _) h) (fun f s1 hsp => ?_) (fun e s1 he => he)
  · -- the catch
    obtain ⟨a, B, sI, pins', σ', H', cls, d, rfl, J', nb, up, sky, na, os, ag, w⟩ := xx
    have J : Inv X pins σ' H' sI := J'.ofTry ok
    have sky' : Sky B (X.env :: X.outer) a (L2N.Zn cls d) X.env.locals s'.heap := by rw [← hs]; exact sky
    show wpAny (model X.prog X.w) X.A (noteFrame (.ref a) X.env) _ _ _
    refine L2N.Sky.land L2N.Zn.steady hfr hf sky' fun h3 fl3 up3 => ?_
    have J3 : Inv X pins σ' H' { s' with heap := h3 } := J.landed nb fl3.1 (up.trans up3) os ag
    obtain ⟨oe3, vs3, he3, hz3, hd3⟩ := fl3.there
    have notFr : ∀ {h : Heap} {o : Obj} {vs : Array Value}, h.FunFrames B (X.env :: X.outer) → h.get? a = some o → o.data = .fields vs → a ∉ frs (X.env :: X.outer) := fun {h o vs} ff e dd hm => by
      obtain ⟨_, o', e', hnf⟩ := ff.mem hm
      rw [e] at e'; cases e'
      exact hnf _ dd
    have nfr := notFr fl3.2.2.1 he3 hd3
    have nL : a ≠ X.env.locals := fun z => nfr (List.mem_filterMap.mpr ⟨X.env, List.mem_cons_self, by rw [hf, z]⟩)
    have nF : a ∉ X.fs := fun hm => by
      obtain ⟨e, he, q⟩ := List.mem_filterMap.mp hm
      exact nfr (List.mem_filterMap.mpr ⟨e, List.mem_cons_of_mem _ he, q⟩)
    have S3 := J3.suite he3 hd3 na nL nF
    have go : ∀ {hds' : List ExceptHandler} {l' : List (Value × (Addr → Value → Option Addr → TS))}, HdsAs X n hds' l' → wAsM X.K i Wout D l' cls d σ' H' →
        wpAny (model X.prog X.w) X.A (handleBy (.ref a) X.env hds') (SP X pins D) X.xe { s' with heap := h3 } := by
      intro hds' l' hk
      induction hk with
      | nil =>
        intro w
        refine wpAny_handleBy_nil ?_
        obtain ⟨k1, k2, k3, oe, vs, T, oT, ts', he, hz, hd, h1, hr⟩ := id fl3
        unfold PySem.passOn
        refine wpAny_bind (wpAny_field he hd h1 ?_)
        rw [if_neg (show ¬ ((Value.ref T == Value.none) = true) from by simp)]
        have fin : wpAny (model X.prog X.w) X.A (setFlight (.ref a) X.env.frame) (fun _ s4 => wpAny (model X.prog X.w) X.A (throw (.ref a) : Sem Flow) (SP X pins D) X.xe s4) X.xe { s' with heap := h3 } := by
          rw [hf]
          refine HandSPX.setFlight_upZ fl3 fun h4 hh4 up4 => wpAny_throw (tk _ _ ?_)
          exact ⟨a, B, sI, pins, σ', H', cls, d, rfl, J, nb, (up.trans up3).trans up4, .inr (.inr (by rw [hs]; exact hh4)), na, os, ag, w⟩
        first
          | exact wpAny_bind (wpAny_pure (wpAny_bind fin))
          | exact wpAny_bind fin
      | @cons x c ts b₀ suite np pos' hds2 l2 hc hsu r ih =>
        intro w
        obtain ⟨b, hb1, hyes, hno⟩ := w
        refine wpAny_handleBy_cons (codeAny_handlers_test ?_) (by intro q; cases q)
        have LT : PySem.W.Looks (model X.prog X.w) h3 (typeOf (.ref a)) cls := fun A Q E s k q => wpAny_typeOf_ref (k _ _ he3) (by rw [hz3.1]; exact q)
        have LM := PySem.W.exm_one (M := model X.prog X.w) (J3.kIn) LT hb1
        have test : ∀ {Q : Value → Shared → Prop} {E : Value → Shared → Prop}, Q c { s' with heap := h3 } → wpAny (model X.prog X.w) (X.A.mark (some (.ref a))) (eval (.Name x np) X.env) Q E { s' with heap := h3 } := fun {Q E} q => by
          obtain ⟨hg, hdbg, hm | ⟨hm, hv, hnn⟩⟩ := hc
          · exact ld_glob (X := X.suite a ((a, oe3) :: (X.pn ++ pins))) S3 hg hm q hdbg
          · exact ld_blt (X := X.suite a ((a, oe3) :: (X.pn ++ pins))) S3 hg hm hv q hnn hdbg
        refine test (LM.here ?_)
        cases b with
        | true =>
          refine codeAny_handlers_suite_as ?_
          refine HandSPX.lands_againZ fl3 fun h4 fl4 up4 => ?_
          have J4 : Inv X pins σ' H' { s' with heap := h4 } := J.landed nb fl4.1 ((up.trans up3).trans up4) os ag
          obtain ⟨oe4, vs4, he4, hz4, hd4⟩ := fl4.there
          have S4 := J4.suite he4 hd4 na nL nF
          refine store_ok (X := X.suite a ((a, oe4) :: (X.pn ++ pins))) (v := .ref a) S4 hN hi hloc rfl (fun s5 S5 => ?_) (.inr hln)
          refine wpAny_mono ((hsu a oe4 cls d (X.pn ++ pins) hz4 ⟨_, hd4⟩).run [] s5 _ H' _ S5 (hyes rfl a na)) (fun f s6 hsp => ?_) (fun _ _ z => False.elim z)
          have end_ : ∀ {σ6 : L2.St} {H6 : Hp} {Q : Shared → Prop}, Inv (X.suite a ((a, oe4) :: (X.pn ++ pins))) [] σ6 H6 s6 → (∀ s7, Inv X pins (σ6.set i none) H6 s7 → Q s7) →
              wpAny (model X.prog X.w) X.A (do bindName X.env n .none; unbindBehindTheSuite X.env n pos') (fun _ s7 => Q s7) X.xe s6 := fun {σ6 H6 Q} S6 hq => gone_ok (S6.unsuite ok) hN hi hln hq
          cases f with
          | next =>
            obtain ⟨σ6, H6, S6, q6⟩ := hsp
            exact end_ S6 fun s7 J7 => ⟨_, _, J7, q6⟩
          | brk =>
            obtain ⟨σ6, H6, S6, q6⟩ := hsp
            exact end_ S6 fun s7 J7 => ⟨_, _, J7, q6⟩
          | cont =>
            obtain ⟨σ6, H6, S6, q6⟩ := hsp
            exact end_ S6 fun s7 J7 => ⟨_, _, J7, q6⟩
          | ret u =>
            obtain ⟨v6, σ6, H6, S6, r6, q6⟩ := hsp
            exact end_ S6 fun s7 J7 => ⟨_, _, _, J7, r6, q6⟩
        | false =>
          show wpAny _ X.A (handleBy (.ref a) X.env hds2) _ _ _
          exact ih (hno rfl)
    exact go hh w
  · cases f with
    | next =>
      obtain ⟨σ', H', J', q⟩ := hsp
      exact wpAny_execs_nil ⟨σ', H', J'.ofTry ok, q⟩
    | brk =>
      obtain ⟨σ', H', J', q⟩ := hsp
      exact ⟨σ', H', J'.ofTry ok, q⟩
    | cont =>
      obtain ⟨σ', H', J', q⟩ := hsp
      exact ⟨σ', H', J'.ofTry ok, q⟩
    | ret u =>
      obtain ⟨v, σ', H', J', r, q⟩ := hsp
      exact ⟨v, σ', H', J'.ofTry ok, r, q⟩
end
/-! ### C(.., k = v, ..) that may raise, the caller's slots known -/
def tMakeKS (C : Addr) (n m : Nat) (sp : Sp) (gV : List V → List V → List V) (E : L2.St → XK) (t tk : TA) : TE := fun σ H Q => t σ H fun vs H1 => tk σ H1 fun zs H2 => vs.length = n ∧ zs.length = m ∧ ∀ x dx, H2 x = none → H2 dx = none → dx ≠ x →
  sp (gV (.ref x :: vs) zs) (upd (upd H2 dx (.own x)) x (.ins C dx [])) (fun v H3 => v = .non ∧ Q (.ref x) H3) (E σ)
def tMakeS (C : Addr) (sp : Sp) (dvs : List V) (E : L2.St → XK) (t : TA) : TE := fun σ H Q => t σ H fun vs H1 => ∀ x dx, H1 x = none → H1 dx = none → dx ≠ x →
  sp (.ref x :: (vs ++ dvs)) (upd (upd H1 dx (.own x)) x (.ins C dx [])) (fun v H2 => v = .non ∧ Q (.ref x) H2) (E σ)
section
variable {X : Cx} {CX : CXT} {k n : Nat} {f C : Addr} {fd : FuncData} {ps ks : List Str} {sp : Sp} {E : L2.St → XK} {x : Str} {p pos : Pos} {e : Expr} {es : List Expr} {kws : List Keyword} {t tk : TA} {g : List Value → List Value → List Value} {gV : List V → List V → List V} {dvs : List V} {ds : List Value}
theorem run_makeKS {pins : List (Addr × Obj)} {σ : L2.St} {H : Hp} {s : Shared} {Q : VK} {us ws : List Value} {vs zs : List V} (M : Mk X.K C f) (F : FnOk X.prog X.w X.K X.mg X.base CX k f fd ps sp) (hr : Room (k + 1) X.A) (hb : KBn X.K fd ps (n + 1) ks g gV) (hx : PassesAt CX X σ (E σ))
    (I : Inv X pins σ H s) (r : Vals vs us) (rz : Vals zs ws) (l1 : vs.length = n) (l2 : zs.length = ks.length)
    (h : ∀ x dx, H x = none → H dx = none → dx ≠ x → sp (gV (.ref x :: vs) zs) (upd (upd H dx (.own x)) x (.ins C dx [])) (fun v H2 => v = .non ∧ Q (.ref x) H2) (E σ)) :
    wpAny (model X.prog X.w) X.A (call (.ref C) us (ks.zip ws)) (EP X pins σ Q) X.xe s := by
  have hq := h (s.heap.objs.size + 1) s.heap.objs.size (I.hok.fresh (Nat.le_succ _)) (I.hok.fresh (Nat.le_refl _)) (Nat.ne_of_lt (Nat.lt_succ_self _))
  have I2 := Inv.made (C := C) I
  have r1 : Vals (V.ref (s.heap.objs.size + 1) :: vs) (Value.ref (s.heap.objs.size + 1) :: us) := .cons rfl r
  have r2 := hb.rel r1 rz
  have n1 : (Value.ref (s.heap.objs.size + 1) :: us).length = n + 1 := by
    rw [List.length_cons, ← r.length, l1]
  refine wpAny_call (make_map (f := f) I.kIn M.makes M.init (beq_iff_eq.mp M.fn) (codeAny_mono (F.run _ X.stack _ _ ⟨Value.ref (s.heap.objs.size + 1) :: us, ks.zip ws⟩ (g (Value.ref (s.heap.objs.size + 1) :: us) ws) _ _ (E σ) (hr.make C us (ks.zip ws))
    (I2.env0.make C us (ks.zip ws)) (hb.to _ (Value.ref (s.heap.objs.size + 1) :: us) ws I2.kIn n1 (rz.length.symm.trans l2)) r2 hq) fun r s' hq' => ?_))
  cases r with
  | error e => exact hx pins _ _ e s' I2 hq'
  | ok fl =>
    cases fl with
    | ret u =>
      obtain ⟨v, H', I3, rv, ev, q3⟩ := I2.after hq'
      subst ev
      exact ⟨rv, ⟨V.ref (s.heap.objs.size + 1), H', I3, rfl, q3⟩⟩
    | next => exact False.elim hq'
    | brk => exact False.elim hq'
    | cont => exact False.elim hq'
theorem pe_makeKS (M : Mk X.K C f) (F : FnOk X.prog X.w X.K X.mg X.base CX k f fd ps sp) (hr : Room (k + 1) X.A) (hg : Gl X x) (hm : X.mg x = some (.ref C)) (hb : KBn X.K fd ps (n + 1) ks g gV) (hx : ∀ σ, PassesAt CX X σ (E σ)) (ha : PA X (e :: es) t) (hkw : PK X kws tk)
    (hall : (backToKw pos (keywordEach kws X.env)).all (·.1.isSome) = true := by rfl) (hks : (backToKw pos (keywordEach kws X.env)).filterMap (·.1) = ks := by rfl) (hdb : (x == ("__debug__" : Str)) = false := by decide)
    (he : starEach (e :: es) X.env = (false, eval e X.env) :: starEach es X.env := by rfl) (hpl : ((backTo pos (starEach (e :: es) X.env)).any (·.1) || (backToKw pos (keywordEach kws X.env)).any (·.1.isNone)) = false := by rfl) :
    PE X (.Call (.Name x p) (e :: es) kws pos) (tMakeKS C n ks.length sp gV E t tk) := by
  refine ⟨fun pins s σ H Q I h => ?_⟩
  refine wpAny_Call_Name_kw (ld_glob I hg hm ?_ hdb)
  refine PySem.W.callWith_KW (h₀ := X.base) I.ok.mod.kin M.kp hall (thn (ha.run pos pins s σ H _ I h) fun us s1 ⟨vs, H1, I1, r, q⟩ => ?_) hpl he
  refine thn (hkw.run pos pins s1 σ H1 _ I1 q) fun ws s2 ⟨zs, H2, I2, rz, l1, l2, q2⟩ => ⟨I2.kIn, ?_⟩
  rw [hks]
  exact run_makeKS M F hr hb (hx σ) I2 r rz l1 l2 q2
end
end Cb
/-! ### sum(t) of a tuple of ints -/
namespace Cb
open PySem PySem.Spec PyProof.Rows L2
theorem sum_tupRaw {prog : Program} {w : World} {A : Around} {E : Value → Shared → Prop} {s : Shared} {t : Addr} {its : List Value} {ns : List Int} {Q : Value → Shared → Prop} (hh : A.handled = none) (hl : IsTup s.heap t its.toArray) (hi : IntsAre its ns)
    (h : ∀ h' tk t', (∀ b o, s.heap.get? b = some o → h'.get? b = some o) → Q (.int ns.sum t') { s with heap := h', toks := tk }) : wpAny (model prog w) A (call (.builtin "sum") [.ref t]) Q E s := by
  obtain ⟨xs, e⟩ := hi.allInts.items
  have hn : numsOf (intItems xs).toList = ns := by rw [← e]; exact hi.numsOf
  rw [nums_intItems] at hn
  rw [e] at hl
  have ht' : s.heap.IsTuple t (intItems xs) := hl
  have hlt : t < s.heap.objs.size := by obtain ⟨_, e, _⟩ := hl; exact Heap.lt_size e
  refine PySem.call_sum_walkG (wpAny_pyIter_tuple ht' ?_)
  refine ⟨_, _, _, _, _, _, numAt xs, rfl, Walks.tuple (A := A.in1) hh _ t (Nat.ne_of_lt hlt) (intItems xs), ⟨⟨_, Heap.get?_push_size _ rfl, rfl, rfl⟩, ht'.at fun o e => Heap.get?_push_of_some _ e⟩, fun b hb => ?_, (fun _ _ => intItems_at), fun h' tk t' hk => ?_⟩
  · show b < (s.heap.push _).objs.size
    rw [Heap.size_push]
    rcases List.mem_cons.mp hb with e | hb
    · rw [e]; exact Nat.lt_succ_self _
    · rw [List.mem_singleton.mp hb]; exact Nat.lt_succ_of_lt hlt
  · have := h h' tk t' fun b o e => hk b o (fun hm => by
      have e' : b = s.heap.objs.size := by simpa using hm
      exact absurd (Heap.lt_size e) (by rw [e']; exact Nat.lt_irrefl _)) (Heap.get?_push_of_some _ e)
    have e2 : (intItems xs).size = xs.size := by simp [intItems]
    rw [e2, preSum_eq, List.take_of_length_le (by simp), hn]
    exact this
def rSumT (K : PySem.W.Frag) : List V → Hp → VK → Prop := fun vs H Q => ∃ (a : Addr) (ns : List Int), vs = [V.ref a] ∧ SqT K H a (ns.map V.int) ∧ Q (.int ns.sum) H
theorem cr_sumT {X : Cx} (hc : X.calm = true) : CallR X (.builtin "sum") (rSumT X.K) := by
  intro pins s σ H vs us Q I r h
  obtain ⟨a, ns, rfl, hs, q⟩ := h
  obtain ⟨its, rv, hl, _⟩ := I.tuple hs
  rw [Vals.ref1 r]
  exact sum_tupRaw (I.ok.hd hc) hl rv.ints fun h' tk t' hk => ⟨.int _, H, I.kept hk, ⟨_, rfl⟩, q⟩
theorem x_sumT {K : PySem.W.Frag} {H : Hp} {Q : VK} {p : Addr} {ns : List Int} (s : SqT K H p (ns.map V.int)) (h : Q (.int ns.sum) H) : rSumT K [.ref p] H Q := ⟨p, ns, rfl, s, h⟩
end Cb
/-! ### the executor: one step by the head of the goal; hl: an object at an address; sd: a side goal -/
local macro_rules | `(tactic| walk_at "hl") => `(tactic| ((repeat' (first
  | (show _ = some _; assumption)
  | (show L2.SqL _ _ _ _; assumption)
  | (show L2.SqT _ _ _ _; assumption)
  | exact L2.upd_same
  | (refine' Cb.upd_old (by assumption) ?_)
  | (refine' Cb.Same.get (by assumption) ?_)
  | (refine' Cb.upd_oth (by first | assumption | exact Ne.symm (by assumption)) ?_)
  | (refine' Cb.Kp.get (by assumption) (by first | assumption | exact Ne.symm (by assumption)) ?_)
  | (refine' L2.SqL.of ?_)
  | (refine' Cb.Same.sql (by assumption) ?_)
  | (refine' Cb.Kp.sql (by assumption) (by first | assumption | exact Ne.symm (by assumption)) ?_)
  | (refine' Cb.Kq.get (by assumption) (by first | assumption | exact Ne.symm (by assumption)) (by first | assumption | exact Ne.symm (by assumption)) ?_)
  | (refine' L2.SqT.of ?_)
  | (refine' Cb.Same.sqt (by assumption) ?_)))))
local macro_rules | `(tactic| walk_at "sd") => `(tactic| first
  | assumption
  | rfl
  | omega
  | decide
  | exact ⟨by omega, by omega⟩
  | exact Or.inl ⟨by omega, by omega⟩
  | exact Or.inr ⟨by omega, by omega⟩
  | exact ⟨by omega, by omega, by omega⟩)
local macro_rules | `(tactic| walk_at "go") => `(tactic| repeat (first
  | with_reducible refine Cb.x_seq ?_
  | ((with_reducible apply Cb.x_var); (· exact rfl))
  | with_reducible refine Cb.x_c ?_
  | with_reducible refine Cb.x_op ?_
  | with_reducible refine Cb.x_rI0 ?_
  | ((with_reducible apply Cb.x_rI); (· walk_at "sd"))
  | with_reducible refine Cb.x_asg ?_
  | with_reducible refine Cb.x_gname ?_
  | with_reducible refine Cb.x_eqI ?_
  | with_reducible refine Cb.x_neI ?_
  | with_reducible refine Cb.x_test ?_
  | with_reducible refine Cb.x_tB ?_
  | with_reducible refine Cb.x_bl ?_
  | with_reducible refine Cb.x_ifs ?_
  | with_reducible refine Cb.x_cons ?_
  | with_reducible refine Cb.x_nil ?_
  | with_reducible refine Cb.x_call ?_
  | with_reducible refine Cb.x_callN ?_
  | with_reducible refine Cb.x_cb ?_
  | with_reducible refine Cb.x_int1 ?_
  | with_reducible refine Cb.x_int ?_
  | with_reducible refine Cb.x_ret ?_
  | with_reducible refine Cb.x_retN ?_
  | with_reducible refine Cb.x_drop ?_
  | with_reducible refine Cb.x_next ?_
  | with_reducible refine Cb.x_brk ?_
  | with_reducible refine Cb.x_cont ?_
  | ((with_reducible apply Cb.x_aug); (· exact rfl))
  | with_reducible refine Cb.x_ipI ?_
  | with_reducible refine Cb.x_rU ?_
  | with_reducible refine Cb.x_un ?_
  | with_reducible refine Cb.x_if ?_
  | with_reducible refine Cb.x_and ?_
  | with_reducible refine Cb.x_or ?_
  | with_reducible refine Cb.x_not ?_
  | with_reducible refine Cb.x_andV ?_
  | with_reducible refine Cb.x_orV ?_
  | with_reducible refine Cb.x_notV ?_
  | with_reducible refine Cb.x_chain ?_
  | with_reducible refine Cb.x_chain3 ?_
  | with_reducible refine Cb.x_ch2 ?_
  | with_reducible refine Cb.x_par ?_
  | with_reducible refine Cb.x_par2 ?_
  | with_reducible refine Cb.x_lst ?_
  | with_reducible refine Cb.x_tup ?_
  | with_reducible refine Cb.x_sub ?_
  | with_reducible refine Cb.x_sl ?_
  | with_reducible refine Cb.x_nopart ?_
  | with_reducible refine Cb.x_part ?_
  | with_reducible refine Cb.x_bm ?_
  | with_reducible refine Cb.x_bm0 ?_
  | with_reducible refine Cb.x_iteT ?_
  | with_reducible refine Cb.x_iteF ?_
  | with_reducible refine Cb.x_iteNT ?_
  | with_reducible refine Cb.x_iteNF ?_
  | with_reducible refine Cb.x_iteS ?_
  | with_reducible refine Cb.x_iteO ?_
  | with_reducible refine Cb.x_iteNS ?_
  | with_reducible refine Cb.x_iteNO ?_
  | with_reducible refine Cb.x_tYes ?_
  | with_reducible refine Cb.x_forL ?_
  | with_reducible refine Cb.x_forT ?_
  | with_reducible refine Cb.x_forR1 ?_
  | with_reducible refine Cb.x_forR2 ?_
  | with_reducible refine Cb.x_lcL ?_
  | with_reducible refine Cb.x_lcT ?_
  | with_reducible refine Cb.x_lcR1 ?_
  | with_reducible refine Cb.x_lcR2 ?_
  | with_reducible refine Cb.x_dget ?_
  | with_reducible refine Cb.x_din ?_
  | with_reducible refine Cb.x_dni ?_
  | with_reducible refine Cb.x_dput ?_
  | with_reducible refine Cb.x_dnew ?_
  | with_reducible refine Cb.x_dget2 ?_
  | with_reducible refine Cb.x_fldR ?_
  | ((with_reducible apply Cb.x_fldI); (· walk_at "hl"); (· assumption); (· assumption); (· exact rfl))
  | with_reducible refine Cb.x_sfld ?_
  | with_reducible refine Cb.x_meth ?_
  | ((with_reducible apply Cb.x_methI); (· walk_at "hl"); (· exact rfl))
  | with_reducible refine Cb.x_make ?_
  | ((with_reducible apply Cb.x_gtup); (· walk_at "hl"); (· exact rfl))
  | ((with_reducible apply Cb.x_gunl); (· walk_at "hl"); (· exact rfl))
  | with_reducible refine Cb.x_gcons ?_
  | with_reducible refine Cb.x_gnil ?_
  | with_reducible refine Cb.x_listVals ?_
  | with_reducible refine Cb.x_tM1 ?_
  | with_reducible refine Cb.x_isS ?_
  | ((with_reducible apply Cb.x_vals); (· walk_at "hl"))
  | with_reducible refine Cb.x_gcd ?_
  | with_reducible refine Cb.x_maxTwo ?_
  | with_reducible refine Cb.x_minTwo ?_
  | with_reducible refine Cb.x_inSg ?_
  | with_reducible refine Cb.x_niSg ?_
  | with_reducible refine Cb.x_isNn ?_
  | with_reducible refine Cb.x_noNn ?_
  | with_reducible refine Cb.x_eqS ?_
  | with_reducible refine Cb.x_neS ?_
  | with_reducible refine Cb.x_eqB ?_
  | with_reducible refine Cb.x_neB ?_
  | with_reducible refine Cb.x_pstar ?_
  | with_reducible refine Cb.x_forS ?_
  | with_reducible refine Cb.x_lcStr ?_
  | with_reducible refine Cb.x_forE ?_
  | with_reducible refine Cb.x_dcT ?_
  | ((with_reducible apply Cb.x_strN); (· walk_at "sd"))
  | with_reducible refine Cb.x_isII ?_
  | with_reducible refine Cb.x_isIB ?_
  | with_reducible refine Cb.x_isIL ?_
  | with_reducible refine Cb.x_isIT ?_
  | with_reducible refine Cb.x_isID ?_
  | with_reducible refine Cb.x_isIS ?_
  | with_reducible refine Cb.x_isSS ?_
  | ((with_reducible apply Cb.x_dictOf); (· walk_at "hl"))
  | with_reducible refine Cb.x_abs ?_
  | with_reducible refine Cb.x_augS ?_
  | with_reducible refine Cb.x_forEL ?_
  | with_reducible refine Cb.x_revL ?_
  | ((with_reducible apply Cb.x_revLI); (· walk_at "hl"))
  | with_reducible refine Cb.x_bits ?_
  | with_reducible refine Cb.x_truI ?_
  | ((with_reducible apply Cb.x_ixL); (· walk_at "hl"); (· first | exact rfl | assumption))
  | ((with_reducible apply Cb.x_ixT); (· walk_at "hl"); (· first | exact rfl | assumption))
  | ((with_reducible apply Cb.x_setL); (· walk_at "hl"); (· first | exact rfl | assumption))
  | ((with_reducible apply Cb.x_lenL); (· walk_at "hl"))
  | ((with_reducible apply Cb.x_tyL); (· walk_at "hl"))))
namespace Cb
open PySem PySem.Spec PyProof.Rows L2
/-! ### the law's source of draws (six places) -/
/-- a bag stands at b, its cells at l -/
structure BagAt (H : Hp) (b l : Addr) : Prop where
  ex : ∃ (ns : List Int) (i : Nat) (g e x c : Int), H b = some (.lst [.ref l, .int i, .int g, .int e, .int x, .int c]) ∧ H l = some (.lst (ns.map V.int)) ∧ ns.length ≤ 63 ∧ 0 ≤ g ∧ 0 ≤ x ∧ x < 2147483549
theorem BagAt.ne {H : Hp} {b l : Addr} (B : BagAt H b l) : l ≠ b := by
  obtain ⟨ns, i, g, e, x, c, h1, h2, _⟩ := B.ex
  intro z
  rw [z, h1] at h2
  cases ns <;> simp at h2
theorem BagAt.same {H H' : Hp} {b l : Addr} (B : BagAt H b l) (s : Same H H') : BagAt H' b l := by
  obtain ⟨ns, i, g, e, x, c, h1, h2, h3⟩ := B.ex
  exact ⟨ns, i, g, e, x, c, s _ _ h1, s _ _ h2, h3⟩
theorem BagAt.upd {H : Hp} {b l p : Addr} {o : HO} (B : BagAt H b l) (n1 : p ≠ b) (n2 : p ≠ l) : BagAt (upd H p o) b l := by
  obtain ⟨ns, i, g, e, x, c, h1, h2, h3⟩ := B.ex
  exact ⟨ns, i, g, e, x, c, by rw [upd_ne n1.symm]; exact h1, by rw [upd_ne n2.symm]; exact h2, h3⟩
theorem BagAt.b_some {H : Hp} {b l : Addr} (B : BagAt H b l) : H b ≠ none := by
  obtain ⟨ns, i, g, e, x, c, h1, _⟩ := B.ex
  rw [h1]
  intro z
  cases z
theorem BagAt.l_some {H : Hp} {b l : Addr} (B : BagAt H b l) : H l ≠ none := by
  obtain ⟨ns, i, g, e, x, c, _, h1, _⟩ := B.ex
  rw [h1]
  intro z
  cases z
theorem BagAt.new {H : Hp} {b l p : Addr} {o : HO} (B : BagAt H b l) (hp : H p = none) : BagAt (L2.upd H p o) b l := B.same (Same.new hp)
theorem BagAt.kp {H H' : Hp} {b l c : Addr} (B : BagAt H b l) (s : Kp c H H') (n1 : b ≠ c) (n2 : l ≠ c) : BagAt H' b l := by
  obtain ⟨ns, i, g, e, x, c, h1, h2, h3⟩ := B.ex
  exact ⟨ns, i, g, e, x, c, s _ _ n1 h1, s _ _ n2 h2, h3⟩
theorem BagAt.kq {H H' : Hp} {b l c d : Addr} (B : BagAt H b l) (s : Kq c d H H') (n1 : b ≠ c) (m1 : b ≠ d) (n2 : l ≠ c) (m2 : l ≠ d) : BagAt H' b l := by
  obtain ⟨ns, i, g, e, x, c, h1, h2, h3⟩ := B.ex
  exact ⟨ns, i, g, e, x, c, s _ _ n1 m1 h1, s _ _ n2 m2 h2, h3⟩
theorem Kp.upd {b : Addr} {H H' : Hp} {o : HO} (k : Kp b H H') : Kp b H (upd H' b o) := fun a u n e => by
  rw [upd_ne n]
  exact k a u n e
end Cb
namespace Cb
open PySem PySem.Spec PyProof.Rows L2
/-! ### the head's look, with imported built-ins beside -/
def bltB (K : PySem.W.Frag) (q : Str × String) : Bool := match PySem.W.nsIn K mainGlobals q.1 with
  | some (some (.builtin i)) => decide (i = q.2)
  | _ => false
theorem bltB_ok {K : PySem.W.Frag} {h : Heap} {mg : Str → Option Value} (X : K.In h) (G : h.Ns mainGlobals mg) {q : Str × String} (c : bltB K q = true) : mg q.1 = some (.builtin q.2) := by
  unfold bltB at c
  split at c
  · rename_i i e
    have e2 : i = q.2 := of_decide_eq_true c
    rw [e2] at e
    exact PySem.W.mg_of X G e
  · cases c
abbrev AlY : Type := He.AlD × Bool
def obsY (fa : List He.Fa) (fn : List He.DefD) (ex : List (Str × String)) (K : PySem.W.Frag) : AlY := (He.obsD fa fn K, ex.all (bltB K))
def obsYG (n : Nat) (fa : List He.Fa) (fn : List He.DefD) (ex : List (Str × String)) (g : Addr → Option Obj) : AlY := obsY fa fn ex (He.frG g (He.asD g n))
structure SaysY (fa : List He.Fa) (fn : List He.DefD) (ex : List (Str × String)) (K : PySem.W.Frag) : Prop where
  eq : obsY fa fn ex K = (He.valD fn, true)
theorem SaysY.d {fa : List He.Fa} {fn : List He.DefD} {ex : List (Str × String)} {K : PySem.W.Frag} (c : SaysY fa fn ex K) : He.SaysD fa fn K := congrArg (fun z : AlY => z.1) c.eq
theorem SaysY.e {fa : List He.Fa} {fn : List He.DefD} {ex : List (Str × String)} {K : PySem.W.Frag} (c : SaysY fa fn ex K) : ex.all (bltB K) = true := congrArg (fun z : AlY => z.2) c.eq
def hookY (n : Nat) (fa : List He.Fa) (fn : List He.DefD) (ex : List (Str × String)) : PySem.W.Hook where
  α := AlY
  obs := fun s => obsYG n fa fn ex s.heap.get?
  val := fun _ => (He.valD fn, true)
  says := fun _ h => ∃ K : PySem.W.Frag, K.In h ∧ SaysY fa fn ex K
  of := fun _ _ e => ⟨_, He.frG_in, ⟨e⟩⟩
  keeps := fun _ _ _ ⟨K, hK, c⟩ k => ⟨K, PySem.W.Frag.In.keeps hK k, c⟩
theorem obsYG_eq {n : Nat} {fa : List He.Fa} {fn : List He.DefD} {ex : List (Str × String)} {g : Addr → Option Obj} {s : Shared} (h : ∀ a, g a = s.heap.get? a) : obsYG n fa fn ex g = (hookY n fa fn ex).obs s := by
  have e : g = s.heap.get? := funext h
  rw [e] <;> rfl
theorem kbn_of {K : PySem.W.Frag} {x qual : Str} {params : Arguments} {body : List Stmt} {scope : Scope} {kws : List (Str × V)} {f : Addr} {fd : FuncData} {ps ks : List Str} {n : Nat} {g : List Value → List Value → List Value} {gV : List V → List V → List V} (F : FunD K x qual params body scope [] kws f fd)
    (h : ∀ (kV doc pm : Value) (an : Option Addr) (cdv ct : Value) (us ws : List Value), us.length = n → ws.length = ks.length → bindArgs (PySem.W.fnOf x qual params body scope .none kV doc pm an cdv ct) ⟨us, ks.zip ws⟩ = pure (ps.zip (g us ws))) (hr : ∀ {vs zs : List V} {us ws : List Value}, Vals vs us → Vals zs ws → Vals (gV vs zs) (g us ws)) : KBn K fd ps n ks g gV := by
  refine ⟨fun s us ws X l1 l2 => ?_, fun r1 r2 => hr r1 r2⟩
  obtain ⟨oc, od, dV, kV, doc, pm, an, cdv, ct, osl, rfl, lk, hcd, hD, hK⟩ := F.ex
  rcases hD with ⟨_, rfl⟩ | ⟨e, _⟩
  · exact .of_eq (h kV doc pm an cdv ct us ws l1 l2)
  · exact absurd rfl e
end Cb
namespace Cb
open PySem PySem.Spec PyProof.Rows L2
/-! ### the head's look, with errors beside -/
/-- a class of errors with its __init__: the name, the built-in base, the text -/
structure ErD where
  cn : Str
  B : String
  newId : String
  i : String
  bmB : List Value
  qual : Str
  msg : Str
  file : Str
  params : Arguments
  nms : List (Str × NameKind)
  z : SupP
  fs : List (Str × SupQ)
def ErD.body (d : ErD) : List Stmt := supE d.msg d.z :: d.fs.map fun p => supA p.1 p.2
abbrev ErW : Type := Option (Str × Str × Arguments × FuncBody × Scope × Addr × Addr)
def ErD.fa (d : ErD) (K : PySem.W.Frag) : Addr := He.fAd K (d.cn, some "__init__")
def ErD.w (K : PySem.W.Frag) (d : ErD) : ErW := match K.lookup (d.fa K) with
  | some ⟨_, _, .func fd, _⟩ => some (fd.name, fd.qualname, fd.params, fd.body, fd.scope, fd.globals, fd.builtins)
  | _ => none
def ErD.v (d : ErD) : ErW := some ("__init__", d.qual, d.params, .stmts d.body, supS d.nms, mainGlobals, builtinsNs)
/-- the function's own part: its cell, its code -/
def ErD.fnB (d : ErD) (K : PySem.W.Frag) : Bool := match K.lookup (d.fa K) with
  | some ⟨_, _, .func fd, _⟩ => (match fd.closure, fd.code, fd.defaults, fd.kwdefaults with
    | [(n, cc)], .ref cda, .none, .none => decide (n = ("__class__" : Str)) && (PySem.W.codeIn K (.ref cda) d.qual && ((match K.lookup cda with
        | some ⟨_, _, .fields vs, _⟩ => (match (vs[2]? : Option Value) with
          | some (Value.str file _) => d.file == file
          | _ => false)
        | _ => false) && (match K.lookup cc with
        | some ⟨_, _, .cell (some (.ref D)), _⟩ => decide (D = He.ga K d.cn)
        | _ => false)))
    | _, _, _, _ => false)
  | _ => false
/-- the class says what isinstance and its fields' reading ask -/
def excB (K : PySem.W.Frag) (C : Addr) : Bool := [decide (PySem.W.findIn K (.ref C) "__getattribute__" = some (some (.builtin "BaseException.__getattribute__"))), decide (PySem.W.findIn K (.ref C) "__getattr__" = some none),
  decide (PySem.W.subIn K (.ref C) (.type "BaseException") = some true), PySem.W.hasDictIn K C, decide (PySem.W.findIn K (.ref C) "__class__" = some (some (.builtin "object.__class__"))),
  decide (PySem.W.specialIn K (.builtin "object.__class__") "__get__" = some (some (.builtin "getset_descriptor.__get__"))), decide (PySem.W.takesIn K (.builtin "object.__class__") = some true), decide (PySem.W.mroIn K C (.type "object") = some true)].all id
theorem excB_ok {K : PySem.W.Frag} {C : Addr} (h : excB K C = true) : ExcC K C := by
  have g : ∀ (i : Nat) (b : Bool), ([decide (PySem.W.findIn K (.ref C) "__getattribute__" = some (some (.builtin "BaseException.__getattribute__"))), decide (PySem.W.findIn K (.ref C) "__getattr__" = some none),
    decide (PySem.W.subIn K (.ref C) (.type "BaseException") = some true), PySem.W.hasDictIn K C, decide (PySem.W.findIn K (.ref C) "__class__" = some (some (.builtin "object.__class__"))),
    decide (PySem.W.specialIn K (.builtin "object.__class__") "__get__" = some (some (.builtin "getset_descriptor.__get__"))), decide (PySem.W.takesIn K (.builtin "object.__class__") = some true), decide (PySem.W.mroIn K C (.type "object") = some true)] : List Bool)[i]? = some b → b = true :=
    fun i b e => List.all_eq_true.mp (show List.all _ id = true from h) b (List.mem_of_getElem? e)
  exact ⟨of_decide_eq_true (g 0 _ rfl), of_decide_eq_true (g 1 _ rfl), of_decide_eq_true (g 2 _ rfl), g 3 _ rfl, of_decide_eq_true (g 4 _ rfl), of_decide_eq_true (g 5 _ rfl), of_decide_eq_true (g 6 _ rfl), of_decide_eq_true (g 7 _ rfl)⟩
def ErD.ok (d : ErD) (K : PySem.W.Frag) : Bool :=
  let C := He.ga K d.cn
  [PySem.W.excInitIn K C d.bmB d.newId, PySem.W.excOver K C d.bmB, PySem.W.hasDictIn K C, decide (PySem.W.findIn K (.ref C) "__setattr__" = some (some (.builtin "object.__setattr__"))),
    PySem.W.keepIn K (.ref C), decide (PySem.W.subIn K (.ref C) (.type "BaseException") = some true), decide (PySem.W.subIn K (.ref C) (.type d.B) = some true), decide (PySem.W.typeIn K (.ref C) = some (.type "type")),
    decide (PySem.W.nsIn K cStatics "thirdparty.any" = some none), decide (PySem.W.mroIn K C (.ref C) = some true), decide (PySem.W.ks_superIn K C C "__init__" = some (some (.builtin d.i))),
    excB K C, d.fs.all fun p => decide (PySem.W.takerIn K C p.1 = some none) && decide (PySem.W.findIn K (.ref C) p.1 = some none), decide (PySem.W.nsIn K mainGlobals d.cn = some (some (.ref C))), decide (PySem.W.nsIn K mainGlobals "super" = some none),
    decide (PySem.W.findIn K (.ref C) "__init__" = some (some (.ref (d.fa K)))), decide (PySem.W.typeIn K (.ref (d.fa K)) = some (.type "function")), d.fnB K].all id
theorem ErD.get {d : ErD} {K : PySem.W.Frag} (h : d.ok K = true) (i : Nat) {b : Bool} (e : ([PySem.W.excInitIn K (He.ga K d.cn) d.bmB d.newId, PySem.W.excOver K (He.ga K d.cn) d.bmB, PySem.W.hasDictIn K (He.ga K d.cn), decide (PySem.W.findIn K (.ref (He.ga K d.cn)) "__setattr__" = some (some (.builtin "object.__setattr__"))),
    PySem.W.keepIn K (.ref (He.ga K d.cn)), decide (PySem.W.subIn K (.ref (He.ga K d.cn)) (.type "BaseException") = some true), decide (PySem.W.subIn K (.ref (He.ga K d.cn)) (.type d.B) = some true), decide (PySem.W.typeIn K (.ref (He.ga K d.cn)) = some (.type "type")),
    decide (PySem.W.nsIn K cStatics "thirdparty.any" = some none), decide (PySem.W.mroIn K (He.ga K d.cn) (.ref (He.ga K d.cn)) = some true), decide (PySem.W.ks_superIn K (He.ga K d.cn) (He.ga K d.cn) "__init__" = some (some (.builtin d.i))),
    excB K (He.ga K d.cn), d.fs.all fun p => decide (PySem.W.takerIn K (He.ga K d.cn) p.1 = some none) && decide (PySem.W.findIn K (.ref (He.ga K d.cn)) p.1 = some none), decide (PySem.W.nsIn K mainGlobals d.cn = some (some (.ref (He.ga K d.cn)))), decide (PySem.W.nsIn K mainGlobals "super" = some none),
    decide (PySem.W.findIn K (.ref (He.ga K d.cn)) "__init__" = some (some (.ref (d.fa K)))), decide (PySem.W.typeIn K (.ref (d.fa K)) = some (.type "function")), d.fnB K] : List Bool)[i]? = some b) : b = true := by
  have h' : List.all _ id = true := h
  exact List.all_eq_true.mp h' b (List.mem_of_getElem? e)
/-- what the program's own frame must say -/
structure ErP (P : Program) (file : Str) : Prop where
  file : ((P.main.file : Str) == file) = true
  top : (P.main.scope.names.lookup ("super" : Str)).isSome = false
section
variable {P : Program} {K : PySem.W.Frag} {h : Heap} {mg : Str → Option Value} {d : ErD}
theorem ErD.erC (X : K.In h) (G : h.Ns mainGlobals mg) (c : d.ok K = true) : ErC K mg d.cn (He.ga K d.cn) where
  g := PySem.W.mg_of X G (of_decide_eq_true (ErD.get c 13 rfl))
  gs := PySem.W.mg_none_of X G (of_decide_eq_true (ErD.get c 14 rfl))
  kC := ErD.get c 4 rfl
  exC := of_decide_eq_true (ErD.get c 5 rfl)
  tyC := of_decide_eq_true (ErD.get c 7 rfl)
  ec := excB_ok (ErD.get c 11 rfl)
theorem ErD.supC (FB : ExcBaseFacts d.B d.newId d.i d.bmB) (SF : StoreFacts d.B d.bmB "object.__setattr__" "object") (KF : PySem.W.KxsFacts d.B d.i) (c : d.ok K = true) : SupC K d.B d.newId d.i d.bmB (He.ga K d.cn) where
  FB := FB
  SF := SF
  KF := KF
  exI := ErD.get c 0 rfl
  ov := ErD.get c 1 rfl
  hdC := ErD.get c 2 rfl
  sa := of_decide_eq_true (ErD.get c 3 rfl)
  kC := ErD.get c 4 rfl
  exC := of_decide_eq_true (ErD.get c 5 rfl)
  subB := of_decide_eq_true (ErD.get c 6 rfl)
  tyC := of_decide_eq_true (ErD.get c 7 rfl)
  tp := of_decide_eq_true (ErD.get c 8 rfl)
  mroC := of_decide_eq_true (ErD.get c 9 rfl)
  supI := of_decide_eq_true (ErD.get c 10 rfl)
theorem ErD.supF (hP : ErP P d.file) (c : d.ok K = true) (e : d.w K = d.v) : SupF P K (He.ga K d.cn) (d.fa K) d.qual d.params d.body (supS d.nms) where
  iC := of_decide_eq_true (ErD.get c 15 rfl)
  tI := of_decide_eq_true (ErD.get c 16 rfl)
  top := hP.top
  fn := by
    have f := ErD.get c 17 rfl
    unfold ErD.fnB at f
    unfold ErD.w at e
    cases q : K.lookup (d.fa K) with
    | none => rw [q] at f; cases f
    | some o =>
      obtain ⟨oc, od, dt, osl⟩ := o
      rw [q] at f e
      cases dt with
      | func fd =>
        obtain ⟨n1, n2, n3, n4, n5, n6, n7, n8, n9, n10, n11, n12, n13, n14, n15⟩ := fd
        have e2 : (some (n1, n2, n3, n4, n5, n6, n15) : ErW) = some (("__init__" : Str), d.qual, d.params, FuncBody.stmts d.body, supS d.nms, mainGlobals, builtinsNs) := e
        simp only [Option.some.injEq, Prod.mk.injEq] at e2
        obtain ⟨h1, h2, h3, h4, h5, h6, h7⟩ := e2
        subst h1 h2 h3 h4 h5 h6 h7
        dsimp only at f
        split at f
        · rename_i n cc cda
          obtain ⟨f1, f2⟩ := Bool.and_eq_true_iff.mp f
          obtain ⟨f2, f3⟩ := Bool.and_eq_true_iff.mp f2
          obtain ⟨f3, f4⟩ := Bool.and_eq_true_iff.mp f3
          have en := of_decide_eq_true f1
          subst en
          split at f3
          · rename_i ccl cdd vs ccs q2
            split at f3
            · rename_i file tf q3
              split at f4
              · rename_i cl cld D csl q4
                have eD := of_decide_eq_true f4
                subst eD
                have ef : d.file = file := eq_of_beq f3
                exact ⟨oc, od, _, _, _, cda, _, cc, osl, ⟨rfl, f2⟩, ⟨ccl, cdd, vs, ccs, file, tf, q2, q3, ef ▸ hP.file⟩, cl, cld, csl, q4⟩
              · cases f4
            · cases f3
          · cases f3
        · cases f
      | _ => cases f
theorem ErD.er1 {f : Str} {z1 : SupQ} (X : K.In h) (G : h.Ns mainGlobals mg) (hP : ErP P d.file) (c : d.ok K = true) (e : d.w K = d.v) (hf : d.fs = [(f, z1)]) (FB : ExcBaseFacts d.B d.newId d.i d.bmB) (SF : StoreFacts d.B d.bmB "object.__setattr__" "object") (KF : PySem.W.KxsFacts d.B d.i)
    (TS : SupS1 d.qual d.msg f d.params d.nms d.z z1) : Er1 P K mg d.cn (He.ga K d.cn) f := by
  have b := ErD.supF hP c e
  have t := ErD.get c 12 rfl
  unfold ErD.body at b
  rw [hf] at b t
  have t1 := List.all_eq_true.mp t (f, z1) (List.mem_cons_self ..)
  obtain ⟨t1, t2⟩ := Bool.and_eq_true_iff.mp t1
  exact { ErD.erC X G c with ex := ⟨_, _, _, _, _, _, _, _, _, _, _, ErD.supC FB SF KF c, b, TS⟩, tf := of_decide_eq_true t1, nof := of_decide_eq_true t2 }
theorem ErD.er2 {f f' : Str} {z1 z2 : SupQ} (X : K.In h) (G : h.Ns mainGlobals mg) (hP : ErP P d.file) (c : d.ok K = true) (e : d.w K = d.v) (hf : d.fs = [(f, z1), (f', z2)]) (FB : ExcBaseFacts d.B d.newId d.i d.bmB) (SF : StoreFacts d.B d.bmB "object.__setattr__" "object") (KF : PySem.W.KxsFacts d.B d.i)
    (TS : SupS2 d.qual d.msg f f' d.params d.nms d.z z1 z2) : Er2 P K mg d.cn (He.ga K d.cn) f f' := by
  have b := ErD.supF hP c e
  have t := ErD.get c 12 rfl
  unfold ErD.body at b
  rw [hf] at b t
  have t1 := List.all_eq_true.mp t (f, z1) (List.mem_cons_self ..)
  have t2 := List.all_eq_true.mp t (f', z2) (List.mem_cons_of_mem _ (List.mem_cons_self ..))
  obtain ⟨t1, u1⟩ := Bool.and_eq_true_iff.mp t1
  obtain ⟨t2, u2⟩ := Bool.and_eq_true_iff.mp t2
  exact { ErD.erC X G c with ex := ⟨_, _, _, _, _, _, _, _, _, _, _, _, ErD.supC FB SF KF c, b, TS⟩, tf := of_decide_eq_true t1, tg := of_decide_eq_true t2, nof := of_decide_eq_true u1, nog := of_decide_eq_true u2 }
end
/-! ### the hook -/
abbrev AlZ : Type := AlY × (Bool × List ErW)
def asZ (g : Addr → Option Obj) (n : Nat) : List Addr := He.asD g n ++ [cStatics]
def obsZ (fa : List He.Fa) (fn : List He.DefD) (ex : List (Str × String)) (er : List ErD) (xb : PySem.W.Frag → Bool) (K : PySem.W.Frag) : AlZ := (obsY fa fn ex K, (er.all (fun d => d.ok K) && xb K, er.map fun d => d.w K))
def valZ (fn : List He.DefD) (er : List ErD) : AlZ := ((He.valD fn, true), (true, er.map ErD.v))
def obsZG (n : Nat) (fa : List He.Fa) (fn : List He.DefD) (ex : List (Str × String)) (er : List ErD) (xb : PySem.W.Frag → Bool) (g : Addr → Option Obj) : AlZ := obsZ fa fn ex er xb (He.frG g (asZ g n))
structure SaysZ (fa : List He.Fa) (fn : List He.DefD) (ex : List (Str × String)) (er : List ErD) (xb : PySem.W.Frag → Bool) (K : PySem.W.Frag) : Prop where
  eq : obsZ fa fn ex er xb K = valZ fn er
section
variable {fa : List He.Fa} {fn : List He.DefD} {ex : List (Str × String)} {er : List ErD} {xb : PySem.W.Frag → Bool} {K : PySem.W.Frag}
theorem SaysZ.y (c : SaysZ fa fn ex er xb K) : SaysY fa fn ex K := ⟨congrArg (fun z : AlZ => z.1) c.eq⟩
theorem SaysZ.ok (c : SaysZ fa fn ex er xb K) (i : Nat) {d : ErD} (h : er[i]? = some d := by rfl) : d.ok K = true := by
  have z : (er.all (fun d => d.ok K) && xb K) = true := congrArg (fun z : AlZ => z.2.1) c.eq
  exact List.all_eq_true.mp (Bool.and_eq_true_iff.mp z).1 d (List.mem_of_getElem? h)
theorem SaysZ.xok (c : SaysZ fa fn ex er xb K) : xb K = true := by
  have z : (er.all (fun d => d.ok K) && xb K) = true := congrArg (fun z : AlZ => z.2.1) c.eq
  exact (Bool.and_eq_true_iff.mp z).2
theorem SaysZ.wv (c : SaysZ fa fn ex er xb K) (i : Nat) {d : ErD} (h : er[i]? = some d := by rfl) : d.w K = d.v := by
  have z : er.map (fun d => d.w K) = er.map ErD.v := congrArg (fun z : AlZ => z.2.2) c.eq
  have e2 : (er.map fun d => d.w K)[i]? = (er.map ErD.v)[i]? := by rw [z]
  rw [List.getElem?_map, List.getElem?_map, h] at e2
  exact Option.some.inj e2
end
def hookZ (n : Nat) (fa : List He.Fa) (fn : List He.DefD) (ex : List (Str × String)) (er : List ErD) (xb : PySem.W.Frag → Bool) : PySem.W.Hook where
  α := AlZ
  obs := fun s => obsZG n fa fn ex er xb s.heap.get?
  val := fun _ => valZ fn er
  says := fun _ h => ∃ K : PySem.W.Frag, K.In h ∧ SaysZ fa fn ex er xb K
  of := fun _ _ e => ⟨_, He.frG_in, ⟨e⟩⟩
  keeps := fun _ _ _ ⟨K, hK, c⟩ k => ⟨K, PySem.W.Frag.In.keeps hK k, c⟩
theorem obsZG_eq {n : Nat} {fa : List He.Fa} {fn : List He.DefD} {ex : List (Str × String)} {er : List ErD} {xb : PySem.W.Frag → Bool} {g : Addr → Option Obj} {s : Shared} (h : ∀ a, g a = s.heap.get? a) : obsZG n fa fn ex er xb g = (hookZ n fa fn ex er xb).obs s := by
  have e : g = s.heap.get? := funext h
  rw [e] <;> rfl
end Cb
namespace Cb
open PySem PySem.Spec PyProof.Rows L2
def top (i : Nat) : Stmt := PySem.Challenge.pw_combed_k29_whole_conditions_broken.main.body.getD i (.Pass ⟨0, 0, 0, 0⟩)
abbrev FnP (K : PySem.W.Frag) (x : Str) (st : Stmt) (f : Addr) (fd : FuncData) : Prop := FunD K x x (defArgs st) (defBody st) (defScope st) [] [] f fd
abbrev FnM (K : PySem.W.Frag) (x q : Str) (st : Stmt) (dvs : List V) (f : Addr) (fd : FuncData) : Prop := FunD K x q (defArgs st) (defBody st) (defScope st) dvs [] f fd
/-- what the globals stand for -/
structure Bi (K : PySem.W.Frag) (mg : Str → Option Value) : Prop where
  len : mg "len" = none
  int : mg "int" = none
  list : mg "list" = none
  range : mg "range" = none
  abs : mg "abs" = none
  isinstance : mg "isinstance" = none
  bool : mg "bool" = none
  str : mg "str" = none
  dict : mg "dict" = none
  tuple : mg "tuple" = none
  all : mg "all" = none
  any : mg "any" = none
  sum : mg "sum" = none
  sorted : mg "sorted" = none
  c_MOST_ARMS : ∃ u, mg "MOST_ARMS" = some u ∧ RelV (.int 12) u
  c_MOST_MODULUS : ∃ u, mg "MOST_MODULUS" = some u ∧ RelV (.int 24) u
  cls_Book : Cls K (He.ga K "Book")
  na_Book_arms : NoAttr K (He.ga K "Book") "arms"
  na_Book_modulus : NoAttr K (He.ga K "Book") "modulus"
  cls_Kind : Cls K (He.ga K "Kind")
  na_Kind_book : NoAttr K (He.ga K "Kind") "book"
  na_Kind_handles : NoAttr K (He.ga K "Kind") "handles"
  na_Kind_rims : NoAttr K (He.ga K "Kind") "rims"
  na_Kind_measure : NoAttr K (He.ga K "Kind") "measure"
  na_Kind_share : NoAttr K (He.ga K "Kind") "share"
  na_Kind_balance : NoAttr K (He.ga K "Kind") "balance"
abbrev st_is_number : Stmt := top 7
theorem sc_is_number : FnScope ["value"] ["value"] (defScope st_is_number) := ⟨rfl, rfl, rfl, by decide +kernel, rfl, by decide +kernel, by decide +kernel⟩
abbrev st_Book_init : Stmt := inClass (top 11) 0
theorem sc_Book_init : FnScope ["self", "arms", "modulus"] ["self", "arms", "modulus"] (defScope st_Book_init) := ⟨rfl, rfl, rfl, by decide +kernel, rfl, by decide +kernel, by decide +kernel⟩
abbrev st_divides : Stmt := top 13
theorem sc_divides : FnScope ["part", "whole"] ["part", "whole"] (defScope st_divides) := ⟨rfl, rfl, rfl, by decide +kernel, rfl, by decide +kernel, by decide +kernel⟩
abbrev st_has_balance : Stmt := top 14
theorem sc_has_balance : FnScope ["book", "share"] ["book", "share"] (defScope st_has_balance) := ⟨rfl, rfl, rfl, by decide +kernel, rfl, by decide +kernel, by decide +kernel⟩
abbrev st_some_odd_rim : Stmt := top 15
theorem sc_some_odd_rim : FnScope ["book", "rims", "share", "rim"] ["book", "rims", "share"] (defScope st_some_odd_rim) := ⟨rfl, rfl, rfl, by decide +kernel, rfl, by decide +kernel, by decide +kernel⟩
abbrev st_rims_stand : Stmt := top 16
theorem sc_rims_stand : FnScope ["book", "rims", "at"] ["book", "rims"] (defScope st_rims_stand) := ⟨rfl, rfl, rfl, by decide +kernel, rfl, by decide +kernel, by decide +kernel⟩
abbrev st_due_sum : Stmt := top 17
theorem sc_due_sum : FnScope ["book", "handles", "many"] ["book", "handles", "many"] (defScope st_due_sum) := ⟨rfl, rfl, rfl, by decide +kernel, rfl, by decide +kernel, by decide +kernel⟩
abbrev st_sum_stands : Stmt := top 18
theorem sc_sum_stands : FnScope ["book", "handles", "rims"] ["book", "handles", "rims"] (defScope st_sum_stands) := ⟨rfl, rfl, rfl, by decide +kernel, rfl, by decide +kernel, by decide +kernel⟩
abbrev st_measure_stands : Stmt := top 19
theorem sc_measure_stands : FnScope ["book", "rims", "measure", "rim"] ["book", "rims", "measure"] (defScope st_measure_stands) := ⟨rfl, rfl, rfl, by decide +kernel, rfl, by decide +kernel, by decide +kernel⟩
abbrev st_share_stands : Stmt := top 20
theorem sc_share_stands : FnScope ["book", "rims", "share", "rim"] ["book", "rims", "share"] (defScope st_share_stands) := ⟨rfl, rfl, rfl, by decide +kernel, rfl, by decide +kernel, by decide +kernel⟩
abbrev st_balance_stands : Stmt := top 21
theorem sc_balance_stands : FnScope ["book", "rims", "share", "balance"] ["book", "rims", "share", "balance"] (defScope st_balance_stands) := ⟨rfl, rfl, rfl, by decide +kernel, rfl, by decide +kernel, by decide +kernel⟩
abbrev st_broken_count : Stmt := top 22
theorem sc_broken_count : FnScope ["book", "handles", "rims", "measure", "share", "balance"] ["book", "handles", "rims", "measure", "share", "balance"] (defScope st_broken_count) := ⟨rfl, rfl, rfl, by decide +kernel, rfl, by decide +kernel, by decide +kernel⟩
abbrev st_ill_formed : Stmt := top 40
theorem sc_ill_formed : FnScope ["handles", "measure", "share", "balance"] ["handles", "measure", "share", "balance"] (defScope st_ill_formed) := ⟨rfl, rfl, rfl, by decide +kernel, rfl, by decide +kernel, by decide +kernel⟩
abbrev st_Kind_init : Stmt := inClass (top 41) 0
theorem sc_Kind_init : FnScope ["self", "book", "handles", "rims", "measure", "share", "balance", "why", "broken"] ["self", "book", "handles", "rims", "measure", "share", "balance"] (defScope st_Kind_init) := ⟨rfl, rfl, rfl, by decide +kernel, rfl, by decide +kernel, by decide +kernel⟩
abbrev st_l_bag : Stmt := top 43
theorem sc_l_bag : FnScope ["script", "state", "cell"] ["script"] (defScope st_l_bag) := ⟨rfl, rfl, rfl, by decide +kernel, rfl, by decide +kernel, by decide +kernel⟩
abbrev st_l_draw : Stmt := top 44
theorem sc_l_draw : FnScope ["bag", "many", "cell", "digit"] ["bag", "many"] (defScope st_l_draw) := ⟨rfl, rfl, rfl, by decide +kernel, rfl, by decide +kernel, by decide +kernel⟩
abbrev st_l_of : Stmt := top 45
theorem sc_l_of : FnScope ["bag", "things"] ["bag", "things"] (defScope st_l_of) := ⟨rfl, rfl, rfl, by decide +kernel, rfl, by decide +kernel, by decide +kernel⟩
abbrev st_l_like : Stmt := top 46
theorem sc_l_like : FnScope ["told", "due", "k", "key"] ["told", "due"] (defScope st_l_like) := ⟨rfl, rfl, rfl, by decide +kernel, rfl, by decide +kernel, by decide +kernel⟩
abbrev st_l_red : Stmt := top 47
theorem sc_l_red : FnScope ["mod", "num"] ["mod", "num"] (defScope st_l_red) := ⟨rfl, rfl, rfl, by decide +kernel, rfl, by decide +kernel, by decide +kernel⟩
abbrev st_l_divisor : Stmt := top 48
theorem sc_l_divisor : FnScope ["nums", "found", "num", "one", "two", "turn", "rest"] ["nums"] (defScope st_l_divisor) := ⟨rfl, rfl, rfl, by decide +kernel, rfl, by decide +kernel, by decide +kernel⟩
abbrev st_l_divisors : Stmt := top 49
theorem sc_l_divisors : FnScope ["num", "k"] ["num"] (defScope st_l_divisors) := ⟨rfl, rfl, rfl, by decide +kernel, rfl, by decide +kernel, by decide +kernel⟩
abbrev st_l_arms : Stmt := top 50
theorem sc_l_arms : FnScope ["bag", "arm"] ["bag"] (defScope st_l_arms) := ⟨rfl, rfl, rfl, by decide +kernel, rfl, by decide +kernel, by decide +kernel⟩
abbrev st_l_formed : Stmt := top 55
theorem sc_l_formed : FnScope ["counts", "hands", "edges", "meas", "part", "sign"] ["counts"] (defScope st_l_formed) := ⟨rfl, rfl, rfl, by decide +kernel, rfl, by decide +kernel, by decide +kernel⟩
abbrev st_l_broken : Stmt := top 51
theorem sc_l_broken : FnScope ["arm", "mod", "counts", "hands", "edges", "meas", "part", "sign", "things", "wrong", "zero", "num"] ["arm", "mod", "counts"] (defScope st_l_broken) := ⟨rfl, rfl, rfl, by decide +kernel, rfl, by decide +kernel, by decide +kernel⟩
abbrev st_l_right : Stmt := top 52
theorem sc_l_right : FnScope ["bag", "arm", "mod", "hands", "many", "unit", "step", "edges", "most", "part", "k", "num", "sign"] ["bag", "arm", "mod", "hands", "many"] (defScope st_l_right) := ⟨rfl, rfl, rfl, by decide +kernel, rfl, by decide +kernel, by decide +kernel⟩
abbrev st_l_is_kind : Stmt := top 54
theorem sc_l_is_kind : FnScope ["told", "arm", "mod", "counts"] ["told", "arm", "mod", "counts"] (defScope st_l_is_kind) := ⟨rfl, rfl, rfl, by decide +kernel, rfl, by decide +kernel, by decide +kernel⟩
abbrev st_l_kind_made : Stmt := top 53
theorem sc_l_kind_made : FnScope ["arm", "mod", "counts", "hands", "edges", "meas", "part", "sign"] ["arm", "mod", "counts"] (defScope st_l_kind_made) := ⟨rfl, rfl, rfl, by decide +kernel, rfl, by decide +kernel, by decide +kernel⟩
abbrev st_l_kept : Stmt := top 56
theorem sc_l_kept : FnScope ["arm", "mod", "counts", "due", "handed", "told", "e"] ["arm", "mod", "counts"] (defScope st_l_kept) := ⟨rfl, rfl, rfl, by decide +kernel, rfl, by decide +kernel, by decide +kernel⟩
abbrev st_l_edged : Stmt := top 57
theorem sc_l_edged : FnScope ["bag", "mod", "counts", "edges", "spot", "pick"] ["bag", "mod", "counts"] (defScope st_l_edged) := ⟨rfl, rfl, rfl, by decide +kernel, rfl, by decide +kernel, by decide +kernel⟩
abbrev st_l_bent : Stmt := top 58
theorem sc_l_bent : FnScope ["bag", "arm", "mod", "counts", "found", "pick", "most", "num"] ["bag", "arm", "mod", "counts"] (defScope st_l_bent) := ⟨rfl, rfl, rfl, by decide +kernel, rfl, by decide +kernel, by decide +kernel⟩
abbrev st_l_odd : Stmt := top 59
theorem sc_l_odd : FnScope ["bag", "counts", "hands", "edges", "meas", "part", "sign", "pick"] ["bag", "counts"] (defScope st_l_odd) := ⟨rfl, rfl, rfl, by decide +kernel, rfl, by decide +kernel, by decide +kernel⟩
abbrev st_l_short : Stmt := top 60
theorem sc_l_short : FnScope ["arm", "mod", "counts", "told", "e"] ["arm", "mod", "counts"] (defScope st_l_short) := ⟨rfl, rfl, rfl, by decide +kernel, rfl, by decide +kernel, by decide +kernel⟩
abbrev st_law : Stmt := top 61
theorem sc_law : FnScope ["script", "bag", "arm", "mod", "counts", "turn", "bent", "odd"] ["script"] (defScope st_law) := ⟨rfl, rfl, rfl, by decide +kernel, rfl, by decide +kernel, by decide +kernel⟩
/-! ### the head: facts by names, the run -/
def d_is_number : He.DefD := ⟨("is_number", none), "is_number", "is_number", defArgs st_is_number, defBody st_is_number, defScope st_is_number, [], []⟩
def d_Book_init : He.DefD := ⟨("Book", some "__init__"), "__init__", "Book.__init__", defArgs st_Book_init, defBody st_Book_init, defScope st_Book_init, [.int 0], []⟩
def d_divides : He.DefD := ⟨("divides", none), "divides", "divides", defArgs st_divides, defBody st_divides, defScope st_divides, [], []⟩
def d_has_balance : He.DefD := ⟨("has_balance", none), "has_balance", "has_balance", defArgs st_has_balance, defBody st_has_balance, defScope st_has_balance, [], []⟩
def d_some_odd_rim : He.DefD := ⟨("some_odd_rim", none), "some_odd_rim", "some_odd_rim", defArgs st_some_odd_rim, defBody st_some_odd_rim, defScope st_some_odd_rim, [], []⟩
def d_rims_stand : He.DefD := ⟨("rims_stand", none), "rims_stand", "rims_stand", defArgs st_rims_stand, defBody st_rims_stand, defScope st_rims_stand, [], []⟩
def d_due_sum : He.DefD := ⟨("due_sum", none), "due_sum", "due_sum", defArgs st_due_sum, defBody st_due_sum, defScope st_due_sum, [], []⟩
def d_sum_stands : He.DefD := ⟨("sum_stands", none), "sum_stands", "sum_stands", defArgs st_sum_stands, defBody st_sum_stands, defScope st_sum_stands, [], []⟩
def d_measure_stands : He.DefD := ⟨("measure_stands", none), "measure_stands", "measure_stands", defArgs st_measure_stands, defBody st_measure_stands, defScope st_measure_stands, [], []⟩
def d_share_stands : He.DefD := ⟨("share_stands", none), "share_stands", "share_stands", defArgs st_share_stands, defBody st_share_stands, defScope st_share_stands, [], []⟩
def d_balance_stands : He.DefD := ⟨("balance_stands", none), "balance_stands", "balance_stands", defArgs st_balance_stands, defBody st_balance_stands, defScope st_balance_stands, [], []⟩
def d_broken_count : He.DefD := ⟨("broken_count", none), "broken_count", "broken_count", defArgs st_broken_count, defBody st_broken_count, defScope st_broken_count, [], []⟩
def d_ill_formed : He.DefD := ⟨("ill_formed", none), "ill_formed", "ill_formed", defArgs st_ill_formed, defBody st_ill_formed, defScope st_ill_formed, [], []⟩
def d_Kind_init : He.DefD := ⟨("Kind", some "__init__"), "__init__", "Kind.__init__", defArgs st_Kind_init, defBody st_Kind_init, defScope st_Kind_init, [], [("measure", .non), ("share", .non), ("balance", .non)]⟩
def d_l_bag : He.DefD := ⟨("_law_bag", none), "_law_bag", "_law_bag", defArgs st_l_bag, defBody st_l_bag, defScope st_l_bag, [], []⟩
def d_l_draw : He.DefD := ⟨("_law_draw", none), "_law_draw", "_law_draw", defArgs st_l_draw, defBody st_l_draw, defScope st_l_draw, [], []⟩
def d_l_of : He.DefD := ⟨("_law_of", none), "_law_of", "_law_of", defArgs st_l_of, defBody st_l_of, defScope st_l_of, [], []⟩
def d_l_like : He.DefD := ⟨("_law_like", none), "_law_like", "_law_like", defArgs st_l_like, defBody st_l_like, defScope st_l_like, [], []⟩
def d_l_red : He.DefD := ⟨("_law_red", none), "_law_red", "_law_red", defArgs st_l_red, defBody st_l_red, defScope st_l_red, [], []⟩
def d_l_divisor : He.DefD := ⟨("_law_divisor", none), "_law_divisor", "_law_divisor", defArgs st_l_divisor, defBody st_l_divisor, defScope st_l_divisor, [], []⟩
def d_l_divisors : He.DefD := ⟨("_law_divisors", none), "_law_divisors", "_law_divisors", defArgs st_l_divisors, defBody st_l_divisors, defScope st_l_divisors, [], []⟩
def d_l_arms : He.DefD := ⟨("_law_arms", none), "_law_arms", "_law_arms", defArgs st_l_arms, defBody st_l_arms, defScope st_l_arms, [], []⟩
def d_l_formed : He.DefD := ⟨("_law_formed", none), "_law_formed", "_law_formed", defArgs st_l_formed, defBody st_l_formed, defScope st_l_formed, [], []⟩
def d_l_broken : He.DefD := ⟨("_law_broken", none), "_law_broken", "_law_broken", defArgs st_l_broken, defBody st_l_broken, defScope st_l_broken, [], []⟩
def d_l_right : He.DefD := ⟨("_law_right", none), "_law_right", "_law_right", defArgs st_l_right, defBody st_l_right, defScope st_l_right, [], []⟩
def d_l_is_kind : He.DefD := ⟨("_law_is_kind", none), "_law_is_kind", "_law_is_kind", defArgs st_l_is_kind, defBody st_l_is_kind, defScope st_l_is_kind, [], []⟩
def d_l_kind_made : He.DefD := ⟨("_law_kind_made", none), "_law_kind_made", "_law_kind_made", defArgs st_l_kind_made, defBody st_l_kind_made, defScope st_l_kind_made, [], []⟩
def d_l_kept : He.DefD := ⟨("_law_kept", none), "_law_kept", "_law_kept", defArgs st_l_kept, defBody st_l_kept, defScope st_l_kept, [], []⟩
def d_l_edged : He.DefD := ⟨("_law_edged", none), "_law_edged", "_law_edged", defArgs st_l_edged, defBody st_l_edged, defScope st_l_edged, [], []⟩
def d_l_bent : He.DefD := ⟨("_law_bent", none), "_law_bent", "_law_bent", defArgs st_l_bent, defBody st_l_bent, defScope st_l_bent, [], []⟩
def d_l_odd : He.DefD := ⟨("_law_odd", none), "_law_odd", "_law_odd", defArgs st_l_odd, defBody st_l_odd, defScope st_l_odd, [], []⟩
def d_l_short : He.DefD := ⟨("_law_short", none), "_law_short", "_law_short", defArgs st_l_short, defBody st_l_short, defScope st_l_short, [], []⟩
def d_law : He.DefD := ⟨("law", none), "law", "law", defArgs st_law, defBody st_law, defScope st_law, [], []⟩
def fn : List He.DefD := [d_is_number, d_Book_init, d_divides, d_has_balance, d_some_odd_rim, d_rims_stand, d_due_sum, d_sum_stands, d_measure_stands, d_share_stands, d_balance_stands, d_broken_count, d_ill_formed, d_Kind_init, d_l_bag, d_l_draw, d_l_of, d_l_like, d_l_red, d_l_divisor, d_l_divisors, d_l_arms, d_l_formed, d_l_broken, d_l_right, d_l_is_kind, d_l_kind_made, d_l_kept, d_l_edged, d_l_bent, d_l_odd, d_l_short, d_law]
def fa : List He.Fa := [.glo "is_number", .glo "divides", .glo "has_balance", .glo "some_odd_rim", .glo "rims_stand", .glo "due_sum", .glo "sum_stands", .glo "measure_stands", .glo "share_stands", .glo "balance_stands", .glo "broken_count", .glo "ill_formed", .glo "_law_bag", .glo "_law_draw", .glo "_law_of", .glo "_law_like", .glo "_law_red", .glo "_law_divisor", .glo "_law_divisors", .glo "_law_arms", .glo "_law_formed", .glo "_law_broken", .glo "_law_right", .glo "_law_is_kind", .glo "_law_kind_made", .glo "_law_kept", .glo "_law_edged", .glo "_law_bent", .glo "_law_odd", .glo "_law_short", .glo "law", .glo "Book", .glo "Kind", .glo "CombedError", .free "len", .free "int", .free "list", .free "range", .free "abs", .free "isinstance", .free "bool", .free "str", .free "dict", .free "tuple", .free "all", .free "any", .free "sum", .free "sorted", .int "MOST_ARMS" 12, .int "MOST_MODULUS" 24, .cls "Book", .noat "Book" "arms", .noat "Book" "modulus", .cls "Kind", .noat "Kind" "book", .noat "Kind" "handles", .noat "Kind" "rims", .noat "Kind" "measure", .noat "Kind" "share", .noat "Kind" "balance", .mkr "Book", .mkr "Kind"]
def ex : List (Str × String) := []
abbrev st_BadKind_init : Stmt := inClass (top 2) 0
def er_BadKind : ErD := { cn := "BadKind", B := "ValueError", newId := "ValueError.__new__", i := "ValueError.__init__", bmB := [.type "ValueError", .type "Exception", .type "BaseException", .type "object"], qual := "BadKind.__init__", msg := "this is no kind", file := "/claim/cut.py", params := defArgs st_BadKind_init, nms := (defScope st_BadKind_init).names, z := ⟨⟨7, 8, 7, 13⟩, ⟨7, 8, 7, 15⟩, ⟨7, 8, 7, 24⟩, ⟨7, 25, 7, 42⟩, ⟨7, 8, 7, 43⟩, ⟨7, 8, 7, 43⟩, 0⟩, fs := [("line", ⟨⟨8, 8, 8, 12⟩, ⟨8, 8, 8, 17⟩, ⟨8, 20, 8, 24⟩, ⟨8, 8, 8, 24⟩⟩), ("why", ⟨⟨9, 8, 9, 12⟩, ⟨9, 8, 9, 16⟩, ⟨9, 19, 9, 22⟩, ⟨9, 8, 9, 22⟩⟩)] }
theorem su_BadKind : SupS2 er_BadKind.qual er_BadKind.msg "line" "why" er_BadKind.params er_BadKind.nms er_BadKind.z (er_BadKind.fs.getD 0 ("", ⟨⟨0, 0, 0, 0⟩, ⟨0, 0, 0, 0⟩, ⟨0, 0, 0, 0⟩, ⟨0, 0, 0, 0⟩⟩)).2 (er_BadKind.fs.getD 1 ("", ⟨⟨0, 0, 0, 0⟩, ⟨0, 0, 0, 0⟩, ⟨0, 0, 0, 0⟩, ⟨0, 0, 0, 0⟩⟩)).2 where
  bind := fun _ _ _ _ _ _ _ _ _ _ => .of_eq (by first | rfl | with_unfolding_all rfl)
  hp := ⟨_, rfl, rfl⟩
  hcl := by decide
  hks := by decide +kernel
  hkc := by decide +kernel
  hka := by decide +kernel
  hkf := by decide +kernel
  hkg := by decide +kernel
  hf1 := by decide +kernel
  hf2 := by decide +kernel
  hg1 := by decide +kernel
  hg2 := by decide +kernel
  hfg := by decide +kernel
  hpos := by decide +kernel
abbrev st_NotOne_init : Stmt := inClass (top 3) 0
def er_NotOne : ErD := { cn := "NotOne", B := "ValueError", newId := "ValueError.__new__", i := "ValueError.__init__", bmB := [.type "ValueError", .type "Exception", .type "BaseException", .type "object"], qual := "NotOne.__init__", msg := "no sheet has these counts", file := "/claim/cut.py", params := defArgs st_NotOne_init, nms := (defScope st_NotOne_init).names, z := ⟨⟨13, 8, 13, 13⟩, ⟨13, 8, 13, 15⟩, ⟨13, 8, 13, 24⟩, ⟨13, 25, 13, 52⟩, ⟨13, 8, 13, 53⟩, ⟨13, 8, 13, 53⟩, 0⟩, fs := [("count", ⟨⟨14, 8, 14, 12⟩, ⟨14, 8, 14, 18⟩, ⟨14, 21, 14, 26⟩, ⟨14, 8, 14, 26⟩⟩)] }
theorem su_NotOne : SupS1 er_NotOne.qual er_NotOne.msg "count" er_NotOne.params er_NotOne.nms er_NotOne.z (er_NotOne.fs.getD 0 ("", ⟨⟨0, 0, 0, 0⟩, ⟨0, 0, 0, 0⟩, ⟨0, 0, 0, 0⟩, ⟨0, 0, 0, 0⟩⟩)).2 where
  bind := fun _ _ _ _ _ _ _ _ _ => .of_eq (by first | rfl | with_unfolding_all rfl)
  hp := ⟨_, rfl, rfl⟩
  hcl := by decide
  hks := by decide +kernel
  hkc := by decide +kernel
  hka := by decide +kernel
  hkf := by decide +kernel
  hf1 := by decide +kernel
  hf2 := by decide +kernel
  hpos := by decide +kernel
def er : List ErD := [er_BadKind, er_NotOne]
def xl (K : PySem.W.Frag) : List Bool := [decide (PySem.W.kitOne K (.ref (He.ga K "BadKind")) (.ref (He.ga K "CombedError")) = some true), decide (PySem.W.kitOne K (.ref (He.ga K "BadKind")) (.ref (He.ga K "NotOne")) = some false), decide (PySem.W.kitOne K (.ref (He.ga K "NotOne")) (.ref (He.ga K "CombedError")) = some true), decide (PySem.W.kitOne K (.ref (He.ga K "NotOne")) (.ref (He.ga K "BadKind")) = some false), decide (PySem.W.exmOne K (.ref (He.ga K "BadKind")) (.ref (He.ga K "BadKind")) = some true), decide (PySem.W.exmOne K (.ref (He.ga K "NotOne")) (.ref (He.ga K "BadKind")) = some false), decide (PySem.W.exmOne K (.ref (He.ga K "NotOne")) (.ref (He.ga K "NotOne")) = some true), decide (PySem.W.findIn K (.ref (He.ga K "Kind")) "__class__" = some (some (.builtin "object.__class__"))), decide (PySem.W.specialIn K (.builtin "object.__class__") "__get__" = some (some (.builtin "getset_descriptor.__get__"))), decide (PySem.W.takesIn K (.builtin "object.__class__") = some true), decide (PySem.W.mroIn K (He.ga K "Kind") (.type "object") = some true), decide (PySem.W.kitOne K (.ref (He.ga K "Kind")) (.ref (He.ga K "Kind")) = some true), decide (PySem.W.findIn K (.ref (He.ga K "Book")) "__class__" = some (some (.builtin "object.__class__"))), decide (PySem.W.specialIn K (.builtin "object.__class__") "__get__" = some (some (.builtin "getset_descriptor.__get__"))), decide (PySem.W.takesIn K (.builtin "object.__class__") = some true), decide (PySem.W.mroIn K (He.ga K "Book") (.type "object") = some true), decide (PySem.W.kitOne K (.ref (He.ga K "Book")) (.ref (He.ga K "Book")) = some true)]
theorem xl_get {l : List Bool} (h : l.all id = true) (i : Nat) {b : Bool} (e : l[i]? = some b) : b = true := List.all_eq_true.mp h b (List.mem_of_getElem? e)
def xb (K : PySem.W.Frag) : Bool := (xl K).all id
abbrev R : PySem.W.OpenRow := PySem.W.OpenLaw.row PySem.Challenge.rw_combed_k29_whole_conditions_broken
abbrev hk : PySem.W.Hook := hookZ 4 fa fn ex er xb
def ob (s : PySem.W.SharedT) : AlZ := obsZG 4 fa fn ex er xb (HandSHeadRun.getT s)
theorem ob_eq (s : PySem.W.SharedT) : ob s = hk.obs s.abs := obsZG_eq (HandSHeadRun.getT_eq s)
def names : List PySem.Str := (["CombedError", "BadKind", "NotOne", "BadNumber", "TooMany", "is_number", "MOST_ARMS", "MOST_MODULUS", "Book", "divides", "has_balance", "some_odd_rim", "rims_stand", "due_sum", "sum_stands", "measure_stands", "share_stands", "balance_stands", "broken_count", "TEXT_LIMIT", "ARMS_LIMIT", "MODULUS_LIMIT", "HANDLES_LIMIT", "RIMS_LIMIT", "RIM_LIMIT", "DIGITS", "number_in", "balance_word", "balance_in", "KindLines"] : List PySem.Str) ++ (["read_book_numbers", "read_rims", "read_counts", "kind_text", "ill_formed", "Kind", "_law_bag", "_law_draw", "_law_of", "_law_like", "_law_red", "_law_divisor", "_law_divisors", "_law_arms", "_law_broken", "_law_right", "_law_kind_made", "_law_is_kind", "_law_formed", "_law_kept", "_law_edged", "_law_bent", "_law_odd", "_law_short"] : List PySem.Str)
theorem run (w : World) : HandSHeadRun.RunEq R (PySem.W.view R.prog [61]) hk ob 5000 names w := by
  intro os
  kernel_rfl
/-! ### small dicts with texts as keys -/
section
variable {α : Type}
def aGet (l : List (Str × α)) (k : Str) : Option α := (l.find? fun p => decide (p.1 = k)).map (·.2)
def aPut (l : List (Str × α)) (k : Str) (v : α) : List (Str × α) := if l.any (fun p => decide (p.1 = k)) then l.map (fun p => if p.1 = k then (p.1, v) else p) else l ++ [(k, v)]
def dD (f : α → V) (l : List (Str × α)) : List (Key × V) := l.map fun p => (.inr p.1, f p.2)
theorem dD_len (f : α → V) (l : List (Str × α)) : (dD f l).length = l.length := List.length_map _
theorem inr_eq {a b : Str} : (decide ((Sum.inr a : Key) = Sum.inr b)) = decide (a = b) := by
  by_cases e : a = b
  · subst e; simp
  · rw [decide_eq_false e, decide_eq_false (fun q => e (Sum.inr.inj q))]
theorem valV_dD (f : α → V) (l : List (Str × α)) (k : Str) : valV (dD f l) (.inr k) = (aGet l k).map f := by
  induction l with
  | nil => rfl
  | cons p l ih =>
    by_cases e : p.1 = k
    · have e1 : valV (dD f (p :: l)) (.inr k) = some (f p.2) := valV_pos (congrArg Sum.inr e)
      rw [e1]
      unfold aGet
      rw [List.find?_cons_of_pos (by simp [e])]
      rfl
    · have e1 : valV (dD f (p :: l)) (.inr k) = valV (dD f l) (.inr k) := valV_neg (fun q => e (Sum.inr.inj q))
      rw [e1, ih]
      unfold aGet
      rw [List.find?_cons_of_neg (by simp [e])]
theorem any_dD (f : α → V) (l : List (Str × α)) (k : Str) : (dD f l).any (fun kv => decide (kv.1 = Sum.inr k)) = l.any fun p => decide (p.1 = k) := by
  unfold dD
  rw [List.any_map]
  exact congrArg (fun g => l.any g) (funext fun p => inr_eq)
theorem putK_dD (f : α → V) (l : List (Str × α)) (k : Str) (v : α) : putK (dD f l) (.inr k) (f v) = dD f (aPut l k v) := by
  unfold putK aPut
  rw [any_dD]
  split
  · unfold dD
    rw [List.map_map, List.map_map]
    refine List.map_congr_left fun p _ => ?_
    show (if (Sum.inr p.1 : Key) = Sum.inr k then ((Sum.inr p.1 : Key), f v) else (Sum.inr p.1, f p.2)) = (Sum.inr (if p.1 = k then (p.1, v) else p).1, f (if p.1 = k then (p.1, v) else p).2)
    by_cases e : p.1 = k
    · rw [if_pos e, if_pos (by rw [e])]
    · rw [if_neg e, if_neg (fun q => e (Sum.inr.inj q))]
  · unfold dD
    rw [List.map_append]
    rfl
theorem aGet_nil (k : Str) : aGet ([] : List (Str × α)) k = none := rfl
theorem aGet_cons (p : Str × α) (l : List (Str × α)) (k : Str) : aGet (p :: l) k = if p.1 = k then some p.2 else aGet l k := by
  unfold aGet
  by_cases e : p.1 = k
  · rw [if_pos e, List.find?_cons_of_pos (by simp [e])]; rfl
  · rw [if_neg e, List.find?_cons_of_neg (by simp [e])]
theorem aGet_isSome {l : List (Str × α)} {k : Str} : (aGet l k).isSome = true ↔ k ∈ l.map (·.1) := by
  induction l with
  | nil => simp [aGet_nil]
  | cons p l ih =>
    rw [aGet_cons]
    by_cases e : p.1 = k
    · rw [if_pos e]; simp [e]
    · rw [if_neg e, ih]; simp [Ne.symm e]
theorem aGet_of_mem {l : List (Str × α)} {k : Str} (h : k ∈ l.map (·.1)) : ∃ v, aGet l k = some v ∧ (k, v) ∈ l := by
  induction l with
  | nil => simp at h
  | cons p l ih =>
    rw [aGet_cons]
    by_cases e : p.1 = k
    · exact ⟨p.2, by rw [if_pos e], by rw [← e]; exact List.mem_cons_self ..⟩
    · rw [if_neg e]
      have h' : k ∈ l.map (·.1) := by simpa [Ne.symm e] using h
      obtain ⟨v, h1, h2⟩ := ih h'
      exact ⟨v, h1, List.mem_cons_of_mem _ h2⟩
theorem aGet_mem {l : List (Str × α)} {k : Str} {v : α} (h : aGet l k = some v) : (k, v) ∈ l := by
  obtain ⟨w, h1, h2⟩ := aGet_of_mem (aGet_isSome.mp (by rw [h]; rfl))
  rw [h] at h1
  rw [Option.some.inj h1]
  exact h2
theorem aGet_none {l : List (Str × α)} {k : Str} (h : k ∉ l.map (·.1)) : aGet l k = none := by
  cases e : aGet l k with
  | none => rfl
  | some v => exact absurd (aGet_isSome.mp (by rw [e]; rfl)) h
theorem any_keys {l : List (Str × α)} {k : Str} : (l.any fun p => decide (p.1 = k)) = true ↔ k ∈ l.map (·.1) := by
  simp [List.any_eq_true]
theorem keys_put (l : List (Str × α)) (k : Str) (v : α) : (aPut l k v).map (·.1) = if k ∈ l.map (·.1) then l.map (·.1) else l.map (·.1) ++ [k] := by
  unfold aPut
  by_cases h : k ∈ l.map (·.1)
  · rw [if_pos h, if_pos (any_keys.mpr h), List.map_map]
    refine List.map_congr_left fun p _ => ?_
    show (if p.1 = k then (p.1, v) else p).1 = p.1
    split <;> rfl
  · rw [if_neg h, if_neg (fun q => h (any_keys.mp q)), List.map_append]
    rfl
theorem aGet_app {l m : List (Str × α)} {k : Str} : aGet (l ++ m) k = if k ∈ l.map (·.1) then aGet l k else aGet m k := by
  induction l with
  | nil => rfl
  | cons p l ih =>
    rw [List.cons_append, aGet_cons, aGet_cons, ih]
    by_cases e : p.1 = k
    · rw [if_pos e, if_pos (by simp [e]), if_pos e]
    · rw [if_neg e, if_neg e]
      by_cases h : k ∈ l.map (·.1)
      · rw [if_pos h, if_pos (by rw [List.map_cons]; exact List.mem_cons_of_mem _ h)]
      · rw [if_neg h, if_neg (by rw [List.map_cons, List.mem_cons]; rintro (q | q); exact e q.symm; exact h q)]
theorem aGet_map (l : List (Str × α)) (k j : Str) (v : α) : aGet (l.map fun p => if p.1 = k then (p.1, v) else p) j = if j = k then (if k ∈ l.map (·.1) then some v else none) else aGet l j := by
  induction l with
  | nil =>
    by_cases e : j = k
    · rw [if_pos e]; rfl
    · rw [if_neg e]; rfl
  | cons p l ih =>
    rw [List.map_cons, aGet_cons, ih, aGet_cons]
    by_cases e : p.1 = k
    · rw [if_pos e]
      show (if p.1 = j then some v else _) = _
      by_cases e2 : j = k
      · rw [if_pos (e.trans e2.symm), if_pos e2, if_pos (by rw [List.map_cons, e]; exact List.mem_cons_self ..)]
      · rw [if_neg (fun q => e2 (q.symm.trans e)), if_neg e2, if_neg e2, if_neg (fun q => e2 (q.symm.trans e))]
    · rw [if_neg e]
      by_cases e2 : j = k
      · rw [if_pos e2, if_neg (fun q => e (q.trans e2)), if_pos e2]
        by_cases h : k ∈ l.map (·.1)
        · rw [if_pos h, if_pos (by rw [List.map_cons]; exact List.mem_cons_of_mem _ h)]
        · rw [if_neg h, if_neg (by rw [List.map_cons, List.mem_cons]; rintro (q | q); exact e q.symm; exact h q)]
      · rw [if_neg e2, if_neg e2]
theorem aGet_put (l : List (Str × α)) (k j : Str) (v : α) : aGet (aPut l k v) j = if j = k then some v else aGet l j := by
  unfold aPut
  by_cases h : k ∈ l.map (·.1)
  · rw [if_pos (any_keys.mpr h), aGet_map, if_pos h]
  · rw [if_neg (fun q => h (any_keys.mp q)), aGet_app]
    by_cases e : j = k
    · rw [if_pos e, if_neg (by rw [e]; exact h), aGet_cons, if_pos e.symm]
    · rw [if_neg e]
      by_cases h2 : j ∈ l.map (·.1)
      · rw [if_pos h2]
      · rw [if_neg h2, aGet_cons, if_neg (Ne.symm e), aGet_nil, aGet_none h2]
theorem nodup_put {l : List (Str × α)} {k : Str} {v : α} (h : (l.map (·.1)).Nodup) : ((aPut l k v).map (·.1)).Nodup := by
  rw [keys_put]
  split
  · exact h
  · rename_i hk
    rw [List.nodup_append]
    refine ⟨h, by simp, fun a ha b hb => ?_⟩
    rw [List.mem_singleton.mp hb]
    intro e
    exact hk (e ▸ ha)
theorem aGet_nodup {l : List (Str × α)} (h : (l.map (·.1)).Nodup) {p : Str × α} (hp : p ∈ l) : aGet l p.1 = some p.2 := by
  induction l with
  | nil => simp at hp
  | cons q l ih =>
    rw [List.map_cons, List.nodup_cons] at h
    rw [aGet_cons]
    rcases List.mem_cons.mp hp with e | hp
    · subst e; rw [if_pos rfl]
    · rw [if_neg (fun e => h.1 (by rw [e]; exact List.mem_map_of_mem hp)), ih h.2 hp]
theorem mem_put {l : List (Str × α)} {k : Str} {v : α} {p : Str × α} (hp : p ∈ aPut l k v) : p = (k, v) ∨ (p ∈ l ∧ p.1 ≠ k) := by
  unfold aPut at hp
  by_cases h : k ∈ l.map (·.1)
  · rw [if_pos (any_keys.mpr h)] at hp
    obtain ⟨q, hq, e⟩ := List.mem_map.mp hp
    by_cases eq : q.1 = k
    · rw [if_pos eq] at e; left; rw [← e, eq]
    · rw [if_neg eq] at e; right; rw [← e]; exact ⟨hq, eq⟩
  · rw [if_neg (fun q => h (any_keys.mp q))] at hp
    rcases List.mem_append.mp hp with q | q
    · exact .inr ⟨q, fun e => h (e ▸ List.mem_map_of_mem q)⟩
    · exact .inl (List.mem_singleton.mp q)
theorem put_mem (l : List (Str × α)) (k : Str) (v : α) : (k, v) ∈ aPut l k v := aGet_mem (by rw [aGet_put, if_pos rfl])
theorem put_old {l : List (Str × α)} {k : Str} {v : α} {p : Str × α} (hp : p ∈ l) (h : p.1 ≠ k) : p ∈ aPut l k v := by
  unfold aPut
  split
  · exact List.mem_map.mpr ⟨p, hp, by rw [if_neg h]⟩
  · exact List.mem_append_left _ hp
theorem len_put (l : List (Str × α)) (k : Str) (v : α) : (aPut l k v).length ≤ l.length + 1 := by
  unfold aPut
  split
  · rw [List.length_map]; omega
  · rw [List.length_append]; simp
theorem len_put_in {l : List (Str × α)} {k : Str} (v : α) (h : k ∈ l.map (·.1)) : (aPut l k v).length = l.length := by
  unfold aPut
  rw [if_pos (any_keys.mpr h), List.length_map]
end
/-! ### names -/
/-- a name: a letter, at most two digits behind it -/
def IsName (s : Str) : Prop := ∃ (c : Nat) (ds : List Nat), s = SX.S (c :: ds) ∧ 97 ≤ c ∧ c ≤ 122 ∧ ds.length ≤ 2 ∧ ∀ d ∈ ds, 48 ≤ d ∧ d ≤ 57
/-- a word of feet: each name stands exactly twice -/
structure IsWord (feet : List Str) : Prop where
  two : ∀ n ∈ feet, feet.count n = 2
  nm : ∀ n ∈ feet, IsName n
/-- the bands, in the order of their first feet -/
def bandsOf (feet : List Str) : List Str := feet.foldl (fun acc n => if n ∈ acc then acc else acc ++ [n]) []
def redN (mod : Nat) (n : Int) : Int := if mod = 0 then n else n % (mod : Int)
/-- what the sheet holds of its numbers -/
def toldOf (mod : Nat) (bands : List Str) (nums : List (Str × Int)) : List (Str × Int) := bands.map fun b => (b, redN mod ((aGet nums b).getD 0))
def cntM (l : List Str) : List (Str × Int) := l.foldl (fun M n => aPut M n ((aGet M n).getD 0 + 1)) []
theorem cntM_snoc (l : List Str) (x : Str) : cntM (l ++ [x]) = aPut (cntM l) x ((aGet (cntM l) x).getD 0 + 1) := by
  unfold cntM
  rw [List.foldl_append]
  rfl
theorem snoc_ind {α : Type} {P : List α → Prop} (h0 : P []) (h1 : ∀ l x, P l → P (l ++ [x])) (l : List α) : P l := by
  have : ∀ m : List α, P m.reverse := fun m => by
    induction m with
    | nil => exact h0
    | cons x m ih =>
      rw [List.reverse_cons]
      exact h1 _ _ ih
  have h := this l.reverse
  rwa [List.reverse_reverse] at h
theorem cntM_get (l : List Str) (n : Str) : aGet (cntM l) n = if n ∈ l then some (l.count n : Int) else none := by
  induction l using snoc_ind with
  | h0 => rfl
  | h1 l x ih =>
    rw [cntM_snoc, aGet_put]
    by_cases e : n = x
    · subst e
      rw [if_pos rfl, if_pos (by simp), ih, List.count_append]
      by_cases h : n ∈ l
      · rw [if_pos h]
        simp
      · rw [if_neg h, List.count_eq_zero_of_not_mem h]
        simp
    · rw [if_neg e, ih, List.count_append]
      by_cases h : n ∈ l
      · rw [if_pos h, if_pos (List.mem_append_left _ h)]
        have : List.count n [x] = 0 := List.count_eq_zero_of_not_mem (by simpa using e)
        rw [this]
        simp
      · rw [if_neg h, if_neg (by simp [h, e])]
theorem cntM_len (l : List Str) : (cntM l).length ≤ l.length := by
  induction l using snoc_ind with
  | h0 => exact Nat.le_refl _
  | h1 l x ih =>
    rw [cntM_snoc, List.length_append, List.length_singleton]
    exact Nat.le_trans (len_put _ _ _) (by omega)
theorem bandsOf_snoc (l : List Str) (x : Str) : bandsOf (l ++ [x]) = if x ∈ bandsOf l then bandsOf l else bandsOf l ++ [x] := by
  unfold bandsOf
  rw [List.foldl_append]
  rfl
theorem mem_bandsOf (l : List Str) (n : Str) : n ∈ bandsOf l ↔ n ∈ l := by
  induction l using snoc_ind with
  | h0 => simp [bandsOf]
  | h1 l x ih =>
    rw [bandsOf_snoc]
    split
    · rename_i h
      rw [ih, List.mem_append, List.mem_singleton]
      constructor
      · exact Or.inl
      · rintro (q | q)
        · exact q
        · rw [q]
          rw [← q] at h ⊢
          exact ih.mp h
    · rw [List.mem_append, List.mem_append, ih]
theorem nodup_bandsOf (l : List Str) : (bandsOf l).Nodup := by
  induction l using snoc_ind with
  | h0 => exact List.nodup_nil
  | h1 l x ih =>
    rw [bandsOf_snoc]
    split
    · exact ih
    · rename_i h
      rw [List.nodup_append]
      refine ⟨ih, by simp, fun a ha b hb => ?_⟩
      rw [List.mem_singleton.mp hb]
      intro e
      exact h (e ▸ ha)
theorem bandsOf_len (l : List Str) : (bandsOf l).length ≤ l.length := by
  induction l using snoc_ind with
  | h0 => exact Nat.le_refl _
  | h1 l x ih =>
    rw [bandsOf_snoc, List.length_append, List.length_singleton]
    split
    · omega
    · rw [List.length_append, List.length_singleton]; omega
/-- the places of a band's two feet among these -/
def PlOf (l : List Str) (n : Str) (i j : Nat) : Prop := l[i]? = some n ∧ l[j]? = some n ∧ ∀ k, l[k]? = some n → i ≤ k ∧ k ≤ j
theorem PlOf.snoc {l : List Str} {n x : Str} {i j : Nat} (h : PlOf l n i j) (e : n ≠ x) : PlOf (l ++ [x]) n i j := by
  obtain ⟨h1, h2, h3⟩ := h
  have a1 := (List.getElem?_eq_some_iff.mp h1).1
  have a2 := (List.getElem?_eq_some_iff.mp h2).1
  refine ⟨by rw [List.getElem?_append_left a1]; exact h1, by rw [List.getElem?_append_left a2]; exact h2, fun k hk => ?_⟩
  by_cases hl : k < l.length
  · rw [List.getElem?_append_left hl] at hk
    exact h3 k hk
  · rw [List.getElem?_append_right (by omega)] at hk
    have := List.mem_singleton.mp (List.mem_of_getElem? hk)
    exact absurd this e
theorem PlOf.new {l : List Str} {x : Str} (h : x ∉ l) : PlOf (l ++ [x]) x l.length l.length := by
  have e : (l ++ [x])[l.length]? = some x := by rw [List.getElem?_append_right (Nat.le_refl _), Nat.sub_self]; rfl
  refine ⟨e, e, fun k hk => ?_⟩
  by_cases hl : k < l.length
  · rw [List.getElem?_append_left hl] at hk
    exact absurd (List.mem_of_getElem? hk) h
  · have := (List.getElem?_eq_some_iff.mp hk).1
    rw [List.length_append, List.length_singleton] at this
    exact ⟨by omega, by omega⟩
theorem PlOf.again {l : List Str} {x : Str} {i j : Nat} (h : PlOf l x i j) : PlOf (l ++ [x]) x i l.length := by
  obtain ⟨h1, h2, h3⟩ := h
  have a1 := (List.getElem?_eq_some_iff.mp h1).1
  refine ⟨by rw [List.getElem?_append_left a1]; exact h1, by rw [List.getElem?_append_right (Nat.le_refl _), Nat.sub_self]; rfl, fun k hk => ?_⟩
  by_cases hl : k < l.length
  · rw [List.getElem?_append_left hl] at hk
    exact ⟨(h3 k hk).1, by omega⟩
  · have := (List.getElem?_eq_some_iff.mp hk).1
    rw [List.length_append, List.length_singleton] at this
    exact ⟨by omega, by omega⟩
def gcdZ (ns : List Int) : Nat := ns.foldl (fun g z => Nat.gcd g z.natAbs) 0
theorem gcdZ_take {ns : List Int} {i : Nat} {z : Int} (h : ns[i]? = some z) : gcdZ (ns.take (i + 1)) = Nat.gcd (gcdZ (ns.take i)) z.natAbs := by
  unfold gcdZ
  have e : ns.take (i + 1) = ns.take i ++ [z] := by
    rw [List.take_succ, h]
    rfl
  rw [e, List.foldl_append]
  rfl
theorem dvd_foldl_gcd (d : Nat) : ∀ (ns : List Int) (g : Nat), d ∣ ns.foldl (fun g z => Nat.gcd g z.natAbs) g ↔ d ∣ g ∧ ∀ z ∈ ns, (d : Int) ∣ z
  | [], g => by simp
  | z :: ns, g => by
    rw [List.foldl_cons, dvd_foldl_gcd d ns, Nat.dvd_gcd_iff]
    constructor
    · rintro ⟨⟨h1, h2⟩, h3⟩
      exact ⟨h1, fun y hy => (List.mem_cons.mp hy).elim (fun e => by rw [e]; exact Int.ofNat_dvd_left.mpr h2) (h3 y)⟩
    · rintro ⟨h1, h2⟩
      exact ⟨⟨h1, Int.ofNat_dvd_left.mp (h2 z (List.mem_cons_self ..))⟩, fun y hy => h2 y (List.mem_cons_of_mem _ hy)⟩
theorem dvd_gcdZ (d : Nat) (ns : List Int) : d ∣ gcdZ ns ↔ ∀ z ∈ ns, (d : Int) ∣ z := by
  unfold gcdZ
  rw [dvd_foldl_gcd]
  simp
theorem gcdZ_ext {ns ms : List Int} (h : ∀ d : Nat, (∀ z ∈ ns, (d : Int) ∣ z) ↔ ∀ z ∈ ms, (d : Int) ∣ z) : gcdZ ns = gcdZ ms :=
  Nat.dvd_antisymm ((dvd_gcdZ _ _).mpr ((h _).mp ((dvd_gcdZ _ _).mp (Nat.dvd_refl _)))) ((dvd_gcdZ _ _).mpr ((h _).mpr ((dvd_gcdZ _ _).mp (Nat.dvd_refl _))))
theorem str_at {xs : List Str} {i : Nat} {y : V} (h : (xs.map V.str)[i]? = some y) : ∃ z, y = V.str z ∧ xs[i]? = some z := by
  rw [List.getElem?_map] at h
  cases e : xs[i]? with
  | none => rw [e] at h; cases h
  | some z => rw [e] at h; exact ⟨z, (Option.some.inj h).symm, rfl⟩
theorem take_snoc {α : Type} {xs : List α} {i : Nat} {x : α} (h : xs[i]? = some x) : xs.take (i + 1) = xs.take i ++ [x] := by
  rw [List.take_succ, h]
  rfl
theorem nodup_inj {α : Type} {l : List α} (h : l.Nodup) {i j : Nat} {x : α} (hi : l[i]? = some x) (hj : l[j]? = some x) : i = j := by
  induction l generalizing i j with
  | nil => simp at hi
  | cons a l ih =>
    rw [List.nodup_cons] at h
    match i, j with
    | 0, 0 => rfl
    | 0, j + 1 =>
      have e1 : a = x := by simpa using hi
      have e2 : l[j]? = some x := by simpa using hj
      exact absurd (by rw [e1]; exact List.mem_of_getElem? e2) h.1
    | i + 1, 0 =>
      have e1 : a = x := by simpa using hj
      have e2 : l[i]? = some x := by simpa using hi
      exact absurd (by rw [e1]; exact List.mem_of_getElem? e2) h.1
    | i + 1, j + 1 =>
      have e1 : l[i]? = some x := by simpa using hi
      have e2 : l[j]? = some x := by simpa using hj
      rw [ih h.2 e1 e2]
def shareZ (arm mod : Nat) (told : List (Str × Int)) : Nat := gcdZ ((arm : Int) :: (mod : Int) :: told.map (·.2))
/-! ### what kinds must keep to -/
def RimsOk (mod : Nat) (es : List Int) : Prop := es ≠ [] ∧ es.Pairwise (· ≤ ·) ∧ (0 < mod → ∀ e ∈ es, 0 ≤ e ∧ e < (mod : Int))
def SumOk (arm mod : Nat) (h : Int) (es : List Int) : Prop := (mod : Int) ∣ es.sum - (arm : Int) * (2 - 2 * h - (es.length : Int))
def MeasOk (arm mod : Nat) (es : List Int) (m : Int) : Prop := 0 ≤ m ∧ m ∣ (mod : Int) ∧ ∀ e ∈ es, m ∣ e + (arm : Int)
def ShareOk (arm mod : Nat) (es : List Int) (p : Int) : Prop := 1 ≤ p ∧ p ∣ (arm : Int) ∧ p ∣ (mod : Int) ∧ ∀ e ∈ es, p ∣ e
def HasBal (arm mod : Nat) (p : Int) : Prop := (arm : Int) / p % 2 = 1 ∧ (mod : Int) / p % 2 = 0
def OddRim (arm : Nat) (es : List Int) (p : Int) : Prop := ∃ e ∈ es, (e + (arm : Int)) / p % 2 = 1
def BalOk (arm mod : Nat) (es : List Int) (p : Int) (s : Option Int) : Prop := (HasBal arm mod p ∧ ∃ z, s = some z ∧ (z = 0 ↔ OddRim arm es p)) ∨ (¬HasBal arm mod p ∧ s = none)
def Formed (h : Int) (m p s : Option Int) : Prop := 0 ≤ h ∧ (m.isSome = true ↔ h = 1) ∧ (p.isSome = true ↔ 2 ≤ h) ∧ (s = none ∨ (2 ≤ h ∧ (s = some 1 ∨ s = some 0 ∨ s = some (-1))))
open Classical in
/-- the first condition that is broken -/
noncomputable def brk (arm mod : Nat) (h : Int) (es : List Int) (m p s : Option Int) : Str :=
  if ¬RimsOk mod es then "rims" else if ¬SumOk arm mod h es then "sum" else if h = 1 then (if MeasOk arm mod es (m.getD 0) then "" else "measure") else if h < 2 then "" else if ¬ShareOk arm mod es (p.getD 0) then "share" else if BalOk arm mod es (p.getD 0) s then "" else "balance"
theorem dvd_emod {a b : Int} (h : 0 < a) : (b % a = 0) ↔ a ∣ b := ⟨Int.dvd_of_emod_eq_zero, Int.emod_eq_zero_of_dvd⟩
theorem red_zero {mod : Nat} {x : Int} : redN mod x = 0 ↔ (mod : Int) ∣ x := by
  unfold redN
  by_cases h : mod = 0
  · rw [if_pos h, h]
    exact Int.zero_dvd.symm
  · rw [if_neg h]
    exact dvd_emod (by omega)
section
variable {arm mod : Nat} {h : Int} {es : List Int} {m p s : Option Int}
theorem brk_1 (a : ¬RimsOk mod es) : brk arm mod h es m p s = "rims" := by unfold brk; rw [if_pos a]
theorem brk_2 (a : RimsOk mod es) (b : ¬SumOk arm mod h es) : brk arm mod h es m p s = "sum" := by unfold brk; rw [if_neg (fun z => z a), if_pos b]
theorem brk_3 (a : RimsOk mod es) (b : SumOk arm mod h es) (c : h = 1) (d : MeasOk arm mod es (m.getD 0)) : brk arm mod h es m p s = "" := by unfold brk; rw [if_neg (fun z => z a), if_neg (fun z => z b), if_pos c, if_pos d]
theorem brk_3n (a : RimsOk mod es) (b : SumOk arm mod h es) (c : h = 1) (d : ¬MeasOk arm mod es (m.getD 0)) : brk arm mod h es m p s = "measure" := by unfold brk; rw [if_neg (fun z => z a), if_neg (fun z => z b), if_pos c, if_neg d]
theorem brk_4 (a : RimsOk mod es) (b : SumOk arm mod h es) (c : h < 1) : brk arm mod h es m p s = "" := by unfold brk; rw [if_neg (fun z => z a), if_neg (fun z => z b), if_neg (by omega), if_pos (by omega)]
theorem brk_5 (a : RimsOk mod es) (b : SumOk arm mod h es) (c : 2 ≤ h) (d : ¬ShareOk arm mod es (p.getD 0)) : brk arm mod h es m p s = "share" := by unfold brk; rw [if_neg (fun z => z a), if_neg (fun z => z b), if_neg (by omega), if_neg (by omega), if_pos d]
theorem brk_6 (a : RimsOk mod es) (b : SumOk arm mod h es) (c : 2 ≤ h) (d : ShareOk arm mod es (p.getD 0)) (e : BalOk arm mod es (p.getD 0) s) : brk arm mod h es m p s = "" := by unfold brk; rw [if_neg (fun z => z a), if_neg (fun z => z b), if_neg (by omega), if_neg (by omega), if_neg (fun z => z d), if_pos e]
theorem brk_6n (a : RimsOk mod es) (b : SumOk arm mod h es) (c : 2 ≤ h) (d : ShareOk arm mod es (p.getD 0)) (e : ¬BalOk arm mod es (p.getD 0) s) : brk arm mod h es m p s = "balance" := by unfold brk; rw [if_neg (fun z => z a), if_neg (fun z => z b), if_neg (by omega), if_neg (by omega), if_neg (fun z => z d), if_neg e]
end
theorem filt_ne {es : List Int} {P : Int → Bool} : es.filter P ≠ [] ↔ ∃ e ∈ es, P e = true := by
  rw [Ne, List.filter_eq_nil_iff]
  constructor
  · exact fun h => Classical.byContradiction fun z => h fun e he hp => z ⟨e, he, hp⟩
  · exact fun ⟨e, he, hp⟩ h => h e he hp
section
variable {P : Program} {w : World} {K : PySem.W.Frag} {mg : Str → Option Value} {base : Heap} {f : Addr} {fd : FuncData}
/-! ### the bag: made, drawn from -/
def spBag (K : PySem.W.Frag) : Sp := fun vs H Q _ => ∃ (a : Addr) (ns : List Int), vs = [.ref a] ∧ SqL K H a (ns.map V.int) ∧ ns.length ≤ 63 ∧ ∀ b l H', H b = none → H l = none → BagAt H' b l → Same H H' → Q (.ref b) H'
def spDraw : Sp := fun vs H Q _ => ∃ (b l : Addr) (n : Int), vs = [.ref b, .int n] ∧ BagAt H b l ∧ 0 < n ∧ n < 1073741824 ∧ ∀ (r : Nat) H', (r : Int) < n → BagAt H' b l → Kp b H H' → Q (.int (r : Nat)) H'
def spOf : Sp := fun vs H Q _ => ∃ (b l p : Addr) (xs : List V), vs = [.ref b, .ref p] ∧ BagAt H b l ∧ p ≠ b ∧ H p = some (.lst xs) ∧ 0 < xs.length ∧ xs.length < 1073741824 ∧ ∀ (i : Nat) (v : V) H', xs[i]? = some v → BagAt H' b l → Kp b H H' → Q v H'
theorem cut63 {ns : List Int} (h : ns.length ≤ 63) : cutV (ns.map V.int) none (some 63) = ns.map V.int := by
  unfold cutV
  have e1 : HT.sIx (ns.map V.int).length 0 none = 0 := rfl
  have e2 : HT.sIx (ns.map V.int).length (ns.map V.int).length (some 63) = ns.length := by
    rw [List.length_map]
    unfold HT.sIx
    simp
    omega
  rw [e1, e2, List.drop_zero]
  exact List.take_of_length_le (by rw [List.length_map]; omega)
theorem ok_bag (B : Bi K mg) (F : FnP K "_law_bag" st_l_bag f fd) : FnOk P w K mg base CX0 1 f fd ["script"] (spBag K) := by
  refine F.ok sc_l_bag (fun vs H Q E h => ?_) (fun cdv A outer s H vs Q E hr h => ?_)
  · obtain ⟨a, ns, rfl, _⟩ := h
    rfl
  · obtain ⟨a, ns, rfl, hS, hl, k⟩ := h
    have G := B
    refine ⟨_, PSs.nox ((pss_cons (ps_set (i := 1) sc_l_bag.nd rfl (Or.inl rfl) pe_int)
      (pss_cons (ps_for PassesOwn.never rfl (pi_list (pe_slice sl_list (pv 0) po_none (po_some pe_int))) (pg_name (i := 2) sc_l_bag.nd rfl (Or.inl rfl))
        (pss_one (ps_set (i := 1) sc_l_bag.nd rfl (Or.inl rfl) (pe_op op_mod (pe_callTy call_intI (by rfl) G.int (by decide +kernel) (pa_cons (pe_op op_add (pe_op op_add (pe_op op_mul (pv 1) pe_int) (pe_op op_mod (pe_callTy call_intI (by rfl) G.int (by decide +kernel) (pa_cons (pv 2) pa_nil)) pe_int)) pe_int) pa_nil)) pe_int))))
      (pss_one (ps_ret (pe_lst (pa_cons (pe_callTy callListS (by rfl) G.list (by decide +kernel) (pa_cons (pe_slice sl_list (pv 0) po_none (po_some pe_int)) pa_nil)) (pa_cons pe_int (pa_cons pe_int (pa_cons pe_int (pa_cons (pv 1) (pa_cons pe_int pa_nil)))))))))))), ?_⟩
    try dsimp only [cxOf]
    walk_at "go"
    refine x_slL hS fun p hp => ?_
    rw [cut63 hl]
    refine w_forL (xs := ns.map V.int) (SqL.of upd_same) (fun i σ H' => H' = upd H p (.lst (ns.map V.int)) ∧ ∃ (x : Int) (c : Option V), σ = [some (.ref a), some (.int x), c] ∧ 0 ≤ x ∧ x < 2147483549) ⟨rfl, _, none, rfl, by decide, by decide⟩ (fun i σ H' _ ⟨e, _⟩ => by rw [e]; exact SqL.of upd_same) ?_ ?_
    · rintro i y σ H' hi ⟨rfl, x, c, rfl, hx0, hx1⟩
      obtain ⟨z, rfl, _⟩ := int_at hi
      walk_at "go"
      exact ⟨rfl, _, some (.int z), rfl, Int.emod_nonneg _ (by decide), Int.emod_lt_of_pos _ (by decide)⟩
    · rintro σ H' ⟨rfl, x, c, rfl, hx0, hx1⟩
      walk_at "go"
      refine x_slL (Same.sql (Same.new hp) hS) fun q hq => ?_
      rw [cut63 hl]
      walk_at "go"
      refine x_listL (SqL.of upd_same) fun l hl' => ?_
      walk_at "go"
      refine ⟨by show 6 ≤ sizeLine; decide, fun b hb => ?_⟩
      have s2 : Same H (upd (upd (upd H p (.lst (ns.map V.int))) q (.lst (ns.map V.int))) l (.lst (ns.map V.int))) := Same.trans (Same.trans (Same.new hp) (Same.new hq)) (Same.new hl')
      have s3 := Same.trans s2 (Same.new (o := HO.lst [.ref l, .int 0, .int 0, .int 0, .int x, .int 0]) hb)
      refine k b l _ (Same.free s2 hb) (Same.free (Same.trans (Same.new hp) (Same.new hq)) hl') ⟨ns, 0, 0, 0, x, 0, upd_same, ?_, hl, by decide, hx0, hx1⟩ s3
      exact upd_old hb upd_same
theorem ok_draw (B : Bi K mg) (F : FnP K "_law_draw" st_l_draw f fd) : FnOk P w K mg base CX0 1 f fd ["bag", "many"] spDraw := by
  refine F.ok sc_l_draw (fun vs H Q E h => ?_) (fun cdv A outer s H vs Q E hr h => ?_)
  · obtain ⟨b, l, n, rfl, _⟩ := h
    rfl
  · obtain ⟨b, l, n, rfl, hB, hn0, hn1, k0⟩ := h
    have k : ∀ (r : Int) H', 0 ≤ r → r < n → BagAt H' b l → Kp b H H' → Q (.int r) H' := fun r H' h0 h1 hB hk => by
      obtain ⟨m, rfl⟩ := Int.eq_ofNat_of_zero_le h0
      exact k0 m H' h1 hB hk
    have G := B
    have nlb := hB.ne
    obtain ⟨ns, i, g, e, x, c, hb, hL, hlen, hg, hx0, hx1⟩ := hB.ex
    refine ⟨_, PSs.nox ((pss_cons (ps_asg (pe_op op_add (pe_ix ix_list (pv 0) pe_int (fun _ _ => rfl)) pe_int) (pg_sub (pv 0) pe_int set_list))
      (C8.pss_cut (ps_if (PW.pt (pw_and (pt_cmpR op_eq (pe_ix ix_list (pv 0) pe_int (fun _ _ => rfl)) pe_int (nomark _)) (pw_and1 (pt_cmpR op_lt (pe_ix ix_list (pv 0) pe_int (fun _ _ => rfl)) (pe_callB callLenS (by rfl) G.len PySem.boot_len (pa_cons (pe_ix ix_list (pv 0) pe_int (fun _ _ => rfl)) pa_nil)) (nomark _)))))
        (pss_cons (ps_set (i := 2) sc_l_draw.nd rfl (Or.inl rfl) (pe_ix ix_list (pe_ix ix_list (pv 0) pe_int (fun _ _ => rfl)) (pe_ix ix_list (pv 0) pe_int (fun _ _ => rfl)) (fun _ _ => rfl)))
        (pss_cons (ps_asg (pe_op op_add (pe_ix ix_list (pv 0) pe_int (fun _ _ => rfl)) pe_int) (pg_sub (pv 0) pe_int set_list))
        (pss_one (ps_if (pt_cmpR op_ge (pv 2) (pe_op op_pow pe_int pe_int) (nomark _))
          (pss_cons (ps_asg (pv 2) (pg_sub (pv 0) pe_int set_list))
          (pss_one (ps_asg pe_int (pg_sub (pv 0) pe_int set_list))))
          (pss_one (ps_asg (pe_op op_mod (pe_callTy call_intI (by rfl) G.int (by decide +kernel) (pa_cons (pe_op op_add (pe_op op_add (pe_op op_mul (pe_ix ix_list (pv 0) pe_int (fun _ _ => rfl)) pe_int) (pe_op op_mul (pe_op op_mod (pe_callTy call_intI (by rfl) G.int (by decide +kernel) (pa_cons (pv 2) pa_nil)) pe_int) pe_int)) pe_int) pa_nil)) pe_int) (pg_sub (pv 0) pe_int set_list)))))))
        pss_nil)
      (pss_cons (ps_if (pt_cmpR op_gt (pe_ix ix_list (pv 0) pe_int (fun _ _ => rfl)) pe_int (nomark _))
        (pss_cons (ps_set (i := 3) sc_l_draw.nd rfl (Or.inl rfl) (pe_op op_mod (pe_callTy call_intI (by rfl) G.int (by decide +kernel) (pa_cons (pe_ix ix_list (pv 0) pe_int (fun _ _ => rfl)) pa_nil)) (pv 1)))
        (pss_cons (ps_asg (pe_op op_sub (pe_ix ix_list (pv 0) pe_int (fun _ _ => rfl)) pe_int) (pg_sub (pv 0) pe_int set_list))
        (pss_cons (ps_asg (pe_ifExp (pt_cmpR op_gt (pe_ix ix_list (pv 0) pe_int (fun _ _ => rfl)) pe_int (nomark _)) (pe_op op_fdiv (pe_ix ix_list (pv 0) pe_int (fun _ _ => rfl)) (pv 1)) pe_int) (pg_sub (pv 0) pe_int set_list))
        (pss_one (ps_ret (pv 3))))))
        pss_nil)
      (pss_cons (ps_asg (pe_op op_mod (pe_callTy call_intI (by rfl) G.int (by decide +kernel) (pa_cons (pe_op op_add (pe_op op_add (pe_op op_pow (pe_ix ix_list (pv 0) pe_int (fun _ _ => rfl)) pe_int) (pe_op op_mul (pe_ix ix_list (pv 0) pe_int (fun _ _ => rfl)) pe_int)) pe_int) pa_nil)) pe_int) (pg_sub (pv 0) pe_int set_list))
      (pss_one (ps_ret (pe_op op_mod (pe_callTy call_intI (by rfl) G.int (by decide +kernel) (pa_cons (pe_op op_add (pe_op op_fdiv (pe_ix ix_list (pv 0) pe_int (fun _ _ => rfl)) pe_int) (pe_op op_mul (pe_op op_mod (pe_callTy call_intI (by rfl) G.int (by decide +kernel) (pa_cons (pe_ix ix_list (pv 0) pe_int (fun _ _ => rfl)) pa_nil)) pe_int) pe_int)) pa_nil)) (pv 1))))))))), ?_⟩
    have bump : ∀ y, (upd H b (.lst ([.ref l, .int i, .int g, .int e, .int x, .int c].set (Int.toNat 5) y))) = upd H b (.lst [.ref l, .int i, .int g, .int e, .int x, y]) := fun y => rfl
    try dsimp only [cxOf]
    walk_at "go"
    rw [bump]
    refine x_cut (fun σ H1 => ∃ (i1 : Nat) (g1 e1 x1 : Int) (u v : Option V), σ = [some (.ref b), some (.int n), u, v] ∧ Kp b H H1 ∧ H1 b = some (.lst [.ref l, .int i1, .int g1, .int e1, .int x1, .int (c + 1)]) ∧ H1 l = some (.lst (ns.map V.int)) ∧ 0 ≤ g1 ∧ 0 ≤ x1 ∧ x1 < 2147483549) ?_ ?_
    · walk_at "go"
      have bump1 : ∀ y z, ([V.ref l, .int i, .int g, .int e, .int x, y].set (Int.toNat 1) z) = [V.ref l, z, .int g, .int e, .int x, y] := fun y z => rfl
      have bump2 : ∀ y z u, ([V.ref l, u, .int g, .int e, .int x, y].set (Int.toNat 2) z) = [V.ref l, u, z, .int e, .int x, y] := fun y z u => rfl
      have bump3 : ∀ y z u t, ([V.ref l, u, t, .int e, .int x, y].set (Int.toNat 3) z) = [V.ref l, u, t, z, .int x, y] := fun y z u t => rfl
      have bump4 : ∀ y z u, ([V.ref l, u, .int g, .int e, .int x, y].set (Int.toNat 4) z) = [V.ref l, u, .int g, .int e, z, y] := fun y z u => rfl
      have kp0 : ∀ o, Kp b H (upd H b o) := fun o => Kp.upd Kp.refl
      have hL' : ∀ o, upd H b o l = some (.lst (ns.map V.int)) := fun o => upd_oth nlb hL
      have other : ∃ (i1 : Nat) (g1 e1 x1 : Int) (u v : Option V), L2.start ["bag", "many", "cell", "digit"] [V.ref b, V.int n] = [some (.ref b), some (.int n), u, v] ∧ Kp b H (upd H b (.lst [.ref l, .int i, .int g, .int e, .int x, .int (c + 1)])) ∧ (upd H b (.lst [.ref l, .int i, .int g, .int e, .int x, .int (c + 1)])) b = some (.lst [.ref l, .int i1, .int g1, .int e1, .int x1, .int (c + 1)]) ∧ (upd H b (.lst [.ref l, .int i, .int g, .int e, .int x, .int (c + 1)])) l = some (.lst (ns.map V.int)) ∧ 0 ≤ g1 ∧ 0 ≤ x1 ∧ x1 < 2147483549 :=
        ⟨i, g, e, x, none, none, rfl, kp0 _, upd_same, hL' _, hg, hx0, hx1⟩
      refine x_iteD (fun hg0 => ?_) (fun hg0 => ?_)
      · walk_at "go"
        refine x_iteD (fun hi => ?_) (fun hi => ?_)
        · rw [List.length_map] at hi
          obtain ⟨z, hz⟩ : ∃ z, (ns.map V.int)[i]? = some (.int z) := ⟨ns[i]'(by omega), by rw [List.getElem?_map, List.getElem?_eq_getElem (by omega)]; rfl⟩
          walk_at "go"
          refine x_ixL (hL' _ |> SqL.of) (atI_of rfl hz) ?_
          walk_at "go"
          rw [bump1, upd_upd]
          refine x_iteD (fun hc => ?_) (fun hc => ?_)
          · walk_at "go"
            rw [bump2, upd_upd]
            walk_at "go"
            rw [bump3, upd_upd]
            have hc' : (1000000000000000000 : Int) ≤ z := hc
            exact ⟨i + 1, z, 60, x, some (.int z), none, rfl, kp0 _, upd_same, hL' _, by omega, hx0, hx1⟩
          · walk_at "go"
            rw [bump4, upd_upd]
            exact ⟨i + 1, g, e, _, some (.int z), none, rfl, kp0 _, upd_same, hL' _, hg, Int.emod_nonneg _ (by decide), Int.emod_lt_of_pos _ (by decide)⟩
        · walk_at "go"
          exact other
      · walk_at "go"
        exact other
    · rintro σ H1 ⟨i1, g1, e1, x1, u, v, rfl, kp, hb1, hL1, hg1, hx1', hx2⟩
      have bump2 : ∀ z y, ([V.ref l, .int i1, .int g1, y, .int x1, .int (c + 1)].set (Int.toNat 2) z) = [V.ref l, .int i1, z, y, .int x1, .int (c + 1)] := fun z y => rfl
      have bump3 : ∀ z, ([V.ref l, .int i1, .int g1, .int e1, .int x1, .int (c + 1)].set (Int.toNat 3) z) = [V.ref l, .int i1, .int g1, z, .int x1, .int (c + 1)] := fun z => rfl
      have bump4 : ∀ z, ([V.ref l, .int i1, .int g1, .int e1, .int x1, .int (c + 1)].set (Int.toNat 4) z) = [V.ref l, .int i1, .int g1, .int e1, z, .int (c + 1)] := fun z => rfl
      have hL2 : ∀ o, upd H1 b o l = some (.lst (ns.map V.int)) := fun o => upd_oth nlb hL1
      walk_at "go"
      refine x_iteD (fun hg0 => ?_) (fun hg0 => ?_)
      · walk_at "go"
        rw [bump3]
        refine x_iteD (fun hd => ?_) (fun hd => ?_)
        · walk_at "go"
          rw [bump2, upd_upd]
          exact k _ _ (Int.emod_nonneg _ (by omega)) (Int.emod_lt_of_pos _ hn0) ⟨ns, i1, _, _, x1, c + 1, upd_same, hL2 _, hlen, Int.ediv_nonneg hg1 (by omega), hx1', hx2⟩ (Kp.upd kp)
        · walk_at "go"
          rw [bump2, upd_upd]
          exact k _ _ (Int.emod_nonneg _ (by omega)) (Int.emod_lt_of_pos _ hn0) ⟨ns, i1, _, _, x1, c + 1, upd_same, hL2 _, hlen, Int.le_refl _, hx1', hx2⟩ (Kp.upd kp)
      · walk_at "go"
        rw [bump4]
        exact k _ _ (Int.emod_nonneg _ (by omega)) (Int.emod_lt_of_pos _ hn0) ⟨ns, i1, g1, e1, _, c + 1, upd_same, hL2 _, hlen, hg1, Int.emod_nonneg _ (by decide), Int.emod_lt_of_pos _ (by decide)⟩ (Kp.upd kp)
theorem ok_of (B : Bi K mg) (c_l_draw : C8.Cal P w K mg base 1 "_law_draw" spDraw []) (F : FnP K "_law_of" st_l_of f fd) : FnOk P w K mg base CX0 2 f fd ["bag", "things"] spOf := by
  refine F.ok sc_l_of (fun vs H Q E h => ?_) (fun cdv A outer s H vs Q E hr h => ?_)
  · obtain ⟨b, l, p, xs, rfl, _⟩ := h
    rfl
  · obtain ⟨b, l, p, xs, rfl, hB, npb, hp, h0, h1, k⟩ := h
    have G := B
    refine ⟨_, PSs.nox ((pss_one (ps_ret (pe_ix ix_list (pv 1) (C8.pe_c c_l_draw hr (by decide) rfl (pa_cons (pv 0) (pa_cons (pe_callB callLenS (by rfl) G.len PySem.boot_len (pa_cons (pv 1) pa_nil)) pa_nil))) (fun _ _ => rfl))))), ?_⟩
    try dsimp only [cxOf]
    walk_at "go"
    refine ⟨b, l, (xs.length : Nat), rfl, hB, by omega, by omega, fun r H' hr1 hB' kp => ?_⟩
    have hp' := Kp.get kp npb hp
    obtain ⟨v, hv⟩ : ∃ v, xs[r]? = some v := ⟨xs[r]'(by omega), List.getElem?_eq_getElem (by omega)⟩
    refine x_ixL (SqL.of hp') (atI_of rfl hv) ?_
    exact k _ v H' hv hB' kp
def spIsNum : Sp := fun vs H Q _ => ∃ i : Int, vs = [.int i] ∧ Q (.bl true) H
theorem ok_isnum (B : Bi K mg) (F : FnP K "is_number" st_is_number f fd) : FnOk P w K mg base CX0 1 f fd ["value"] spIsNum := by
  refine F.ok sc_is_number (fun vs H Q E h => ?_) (fun cdv A outer s H vs Q E hr h => ?_)
  · obtain ⟨i, rfl, _⟩ := h
    rfl
  · obtain ⟨i, rfl, k⟩ := h
    have G := B
    refine ⟨_, PSs.nox ((pss_one (ps_ret (pe_and (pe_callB call_isi (by rfl) G.isinstance (by decide +kernel) (pa_cons (pv 0) (pa_cons (pe_bltn (v := .ty "int") (u := .type "int") (by rfl) G.int (by decide +kernel) rfl) pa_nil))) (pe_one (pe_not (pe_callB call_isi (by rfl) G.isinstance (by decide +kernel) (pa_cons (pv 0) (pa_cons (pe_bltn (v := .ty "bool") (u := .type "bool") (by rfl) G.bool (by decide +kernel) rfl) pa_nil))))))))), ?_⟩
    try dsimp only [cxOf]
    walk_at "go"
    exact k
def BookAt (K : PySem.W.Frag) (H : Hp) (a : Addr) (arm mod : Nat) : Prop := ∃ dx, H a = some (.ins (He.ga K "Book") dx [("arms", .int arm), ("modulus", .int mod)])
theorem BookAt.same {H H' : Hp} {a : Addr} {arm mod : Nat} (h : BookAt K H a arm mod) (s : Same H H') : BookAt K H' a arm mod := by
  obtain ⟨dx, h⟩ := h
  exact ⟨dx, s _ _ h⟩
def spBook (K : PySem.W.Frag) : Sp := fun vs H Q _ => ∃ (a dx : Addr) (arm mod : Nat), vs = [.ref a, .int arm, .int mod] ∧ H a = some (.ins (He.ga K "Book") dx []) ∧ 1 ≤ arm ∧ arm ≤ 12 ∧ mod ≠ 1 ∧ mod ≤ 24 ∧ Q .non (upd H a (.ins (He.ga K "Book") dx [("arms", .int arm), ("modulus", .int mod)]))
theorem ok_book (B : Bi K mg) (c_is_number : C8.Cal P w K mg base 1 "is_number" spIsNum []) (F : FnM K "__init__" "Book.__init__" st_Book_init [.int 0] f fd) : FnOk P w K mg base CX0 2 f fd ["self", "arms", "modulus"] (spBook K) := by
  refine F.ok sc_Book_init (fun vs H Q E h => ?_) (fun cdv A outer s H vs Q E hr h => ?_)
  · obtain ⟨a, dx, arm, mod, rfl, _⟩ := h
    rfl
  · obtain ⟨a, dx, arm, mod, rfl, ha, h1, h2, h3, h4, k⟩ := h
    have G := B
    have cB := G.cls_Book
    have n1 := G.na_Book_arms
    have n2 := G.na_Book_modulus
    refine ⟨_, PSs.nox ((pss_cons (ps_if (PW.pt (pw_or (pt_not (pt_val (C8.pe_c c_is_number hr (by decide) rfl (pa_cons (pv 1) pa_nil)))) (pw_or1 (pt_cmpR op_lt (pv 1) pe_int (nomark _)))))
        (pss_one ps_never)
        pss_nil)
      (pss_cons (ps_if (PW.pt (pw_or (pt_not (pt_val (C8.pe_c c_is_number hr (by decide) rfl (pa_cons (pv 2) pa_nil)))) (pw_or (pt_cmpR op_lt (pv 2) pe_int (nomark _)) (pw_or1 (pt_cmpR op_eq (pv 2) pe_int (nomark _))))))
        (pss_one ps_never)
        pss_nil)
      (pss_cons (ps_if (pt_cmpR op_gt (pv 1) (C8.pe_gc rfl G.c_MOST_ARMS) (nomark _))
        (pss_one ps_never)
        pss_nil)
      (pss_cons (ps_if (pt_cmpR op_gt (pv 2) (C8.pe_gc rfl G.c_MOST_MODULUS) (nomark _))
        (pss_one ps_never)
        pss_nil)
      (pss_cons (ps_fld (pv 0) (pv 1) rfl)
      (pss_one (ps_fld (pv 0) (pv 2) rfl)))))))), ?_⟩
    try dsimp only [cxOf]
    walk_at "go"
    refine ⟨arm, rfl, ?_⟩
    walk_at "go"
    refine x_iteDF (by omega) ?_
    walk_at "go"
    refine ⟨mod, rfl, ?_⟩
    walk_at "go"
    refine x_iteDF (by omega) ?_
    walk_at "go"
    refine x_iteDF (by omega) ?_
    walk_at "go"
    refine x_iteDF (by omega) ?_
    walk_at "go"
    refine x_iteDF (by omega) ?_
    walk_at "go"
    refine x_sfldI (fs' := [("arms", .int arm)]) ha cB n1 rfl (by decide) ?_
    walk_at "go"
    refine x_sfldI (fs' := [("arms", .int arm), ("modulus", .int mod)]) upd_same cB n2 rfl (by show 1 < 1000; decide) ?_
    rw [upd_upd]
    exact k
def spRed : Sp := fun vs H Q _ => ∃ (mod : Nat) (n : Int), vs = [.int mod, .int n] ∧ mod ≤ 1000 ∧ Q (.int (redN mod n)) H
theorem ok_red (B : Bi K mg) (F : FnP K "_law_red" st_l_red f fd) : FnOk P w K mg base CX0 1 f fd ["mod", "num"] spRed := by
  refine F.ok sc_l_red (fun vs H Q E h => ?_) (fun cdv A outer s H vs Q E hr h => ?_)
  · obtain ⟨i, j, rfl, _⟩ := h
    rfl
  · obtain ⟨mod, n, rfl, hm, k⟩ := h
    have G := B
    refine ⟨_, PSs.nox ((pss_one (ps_ret (pe_ifExp (pt_cmpR op_gt (pv 0) pe_int (nomark _)) (pe_op op_mod (pe_callTy call_intI (by rfl) G.int (by decide +kernel) (pa_cons (pv 1) pa_nil)) (pv 0)) (pv 1))))), ?_⟩
    try dsimp only [cxOf]
    unfold redN at k
    walk_at "go"
    refine x_iteD (fun h => ?_) (fun h => ?_)
    · rw [if_neg (by omega)] at k
      walk_at "go"
      exact k
    · rw [if_pos (by omega)] at k
      walk_at "go"
      exact k
def spLDiv (K : PySem.W.Frag) : Sp := fun vs H Q _ => ∃ (p : Addr) (ns : List Int), vs = [.ref p] ∧ SqL K H p (ns.map V.int) ∧ (∀ z ∈ ns, z.natAbs ≤ 1267650600228229401496703205376) ∧ Q (.int (gcdZ ns : Nat)) H
theorem gcdZ_le {ns : List Int} {b : Nat} (h : ∀ z ∈ ns, z.natAbs ≤ b) : gcdZ ns ≤ b := by
  have key : ∀ (ns : List Int) (g : Nat), g ≤ b → (∀ z ∈ ns, z.natAbs ≤ b) → ns.foldl (fun g z => Nat.gcd g z.natAbs) g ≤ b := by
    intro ns
    induction ns with
    | nil => intro g hg _; exact hg
    | cons z ns ih =>
      intro g hg hz
      refine ih _ ?_ (fun y hy => hz y (List.mem_cons_of_mem _ hy))
      rcases Nat.eq_zero_or_pos g with e | e
      · rw [e]
        show Nat.gcd 0 z.natAbs ≤ b
        rw [Nat.gcd_zero_left]
        exact hz z (List.mem_cons_self ..)
      · exact Nat.le_trans (Nat.gcd_le_left _ e) hg
  exact key ns 0 (Nat.zero_le _) h
/-- one turn of Euclid -/
theorem euclid_step {o t n i : Nat} (ht : 0 < t) (h : i = 0 ∧ o * t ≤ n ∨ (1 ≤ i ∧ t < o ∧ o * t * 2 ^ (i - 1) ≤ n)) (ho : i = 0 → o * t ≤ n) : o % t < t ∧ t * (o % t) * 2 ^ i ≤ n := by
  have h1 : o % t < t := Nat.mod_lt _ ht
  refine ⟨h1, ?_⟩
  rcases h with ⟨rfl, h2⟩ | ⟨hi, hlt, h3⟩
  · rw [Nat.pow_zero, Nat.mul_one]
    refine Nat.le_trans ?_ h2
    rw [Nat.mul_comm t]
    exact Nat.mul_le_mul_right t (Nat.mod_le o t)
  · have hq : 1 ≤ o / t := (Nat.le_div_iff_mul_le ht).mpr (by omega)
    have hd := Nat.div_add_mod o t
    have h4 : t + o % t ≤ o := by
      have : t * 1 ≤ t * (o / t) := Nat.mul_le_mul_left t hq
      omega
    have h5 : t * (o % t) * 2 ≤ o * t := by
      have : t * (o % t * 2) ≤ t * o := Nat.mul_le_mul_left t (by omega)
      rw [Nat.mul_assoc, Nat.mul_comm o t]
      exact this
    obtain ⟨m, rfl⟩ : ∃ m, i = m + 1 := ⟨i - 1, by omega⟩
    rw [Nat.add_sub_cancel] at h3
    calc t * (o % t) * 2 ^ (m + 1) = t * (o % t) * 2 * 2 ^ m := by rw [Nat.pow_succ, Nat.mul_comm (2 ^ m) 2, ← Nat.mul_assoc]
      _ ≤ o * t * 2 ^ m := Nat.mul_le_mul_right _ h5
      _ ≤ n := h3
theorem ok_ldiv (B : Bi K mg) (F : FnP K "_law_divisor" st_l_divisor f fd) : FnOk P w K mg base CX0 1 f fd ["nums"] (spLDiv K) := by
  refine F.ok sc_l_divisor (fun vs H Q E h => ?_) (fun cdv A outer s H vs Q E hr h => ?_)
  · obtain ⟨p, ns, rfl, _⟩ := h
    rfl
  · obtain ⟨p, ns, rfl, hS, hb, k⟩ := h
    have G := B
    refine ⟨_, PSs.nox ((pss_cons (ps_set (i := 1) sc_l_divisor.nd rfl (Or.inl rfl) pe_int)
      (pss_cons (ps_for PassesOwn.never rfl (pi_list (pv 0)) (pg_name (i := 2) sc_l_divisor.nd rfl (Or.inl rfl))
        (pss_cons (ps_set (i := 3) sc_l_divisor.nd rfl (Or.inl rfl) (pv 1))
        (pss_cons (ps_set (i := 4) sc_l_divisor.nd rfl (Or.inl rfl) (pe_callB callAbs (by rfl) G.abs (by decide +kernel) (pa_cons (pv 2) pa_nil)))
        (pss_cons (ps_for PassesOwn.never rfl (pi_range1 (by rfl) G.range (pa_cons pe_int pa_nil)) (pg_name (i := 5) sc_l_divisor.nd rfl (Or.inl rfl))
          (pss_cons (ps_if (pt_cmpR op_eq (pv 4) pe_int (nomark _))
            (pss_one ps_break)
            pss_nil)
          (pss_cons (ps_set (i := 6) sc_l_divisor.nd rfl (Or.inl rfl) (pe_op op_mod (pe_callTy call_intI (by rfl) G.int (by decide +kernel) (pa_cons (pv 3) pa_nil)) (pv 4)))
          (pss_cons (ps_set (i := 3) sc_l_divisor.nd rfl (Or.inl rfl) (pv 4))
          (pss_one (ps_set (i := 4) sc_l_divisor.nd rfl (Or.inl rfl) (pv 6)))))))
        (pss_one (ps_set (i := 1) sc_l_divisor.nd rfl (Or.inl rfl) (pv 3)))))))
      (pss_one (ps_ret (pv 1)))))), ?_⟩
    try dsimp only [cxOf]
    walk_at "go"
    refine w_forL hS (fun i σ H' => H' = H ∧ ∃ u v z t r : Option V, σ = [some (.ref p), some (.int (gcdZ (ns.take i) : Nat)), u, v, z, t, r]) ⟨rfl, none, none, none, none, none, rfl⟩ (fun i σ H' _ ⟨e, _⟩ => by rw [e]; exact hS) ?_ ?_
    · rintro i y σ H' hi ⟨rfl, u, v, z, t, r, rfl⟩
      obtain ⟨a, rfl, ha⟩ := int_at hi
      have eab : (if a < 0 then -a else a) = (a.natAbs : Int) := by
        by_cases h : a < 0
        · rw [if_pos h]; omega
        · rw [if_neg h]; omega
      have hg : gcdZ (ns.take i) ≤ 1267650600228229401496703205376 := gcdZ_le fun z hz => hb z (List.mem_of_mem_take hz)
      have hab : a.natAbs ≤ 1267650600228229401496703205376 := hb a (List.mem_of_getElem? ha)
      rw [gcdZ_take ha]
      generalize gcdZ (ns.take i) = g at hg ⊢
      generalize hn : a.natAbs = m at *
      have hN : g * m ≤ 1267650600228229401496703205376 * 1267650600228229401496703205376 := Nat.mul_le_mul hg hab
      walk_at "go"
      rw [eab]
      walk_at "go"
      refine w_forR1 (by decide) (by decide) (fun j σ H'' => H'' = H' ∧ ∃ (o t : Nat) (u v : Option V), σ = [some (.ref p), some (.int (g : Nat)), some (.int a), some (.int (o : Nat)), some (.int (t : Nat)), u, v] ∧ Nat.gcd o t = Nat.gcd g m ∧ (j = 0 ∧ o * t ≤ g * m ∨ (1 ≤ j ∧ t < o ∧ o * t * 2 ^ (j - 1) ≤ g * m)))
        ⟨rfl, g, m, _, _, rfl, rfl, .inl ⟨rfl, Nat.le_refl _⟩⟩ ?_ ?_
      · rintro j σ H'' hj ⟨rfl, o, t, u, v, rfl, hgd, hinv⟩
        walk_at "go"
        refine x_iteD (fun ht => ?_) (fun ht => ?_)
        · have ht : t = 0 := by omega
          subst ht
          rw [Nat.gcd_zero_right] at hgd
          rw [hgd]
          walk_at "go"
          exact ⟨rfl, _, _, _, _, _, rfl⟩
        · have ht : 0 < t := by omega
          obtain ⟨h1, h2⟩ := euclid_step ht hinv (fun e => by rcases hinv with ⟨_, h⟩ | ⟨h, _⟩; exact h; omega)
          walk_at "go"
          have e1 : (o : Int) % (t : Int) = ((o % t : Nat) : Int) := rfl
          rw [e1]
          refine ⟨rfl, t, o % t, _, _, rfl, ?_, .inr ⟨by omega, h1, by rw [Nat.add_sub_cancel]; exact h2⟩⟩
          rw [← hgd, Nat.gcd_comm o t, Nat.gcd_rec t o, Nat.gcd_comm]
      · rintro σ H'' ⟨rfl, o, t, u, v, rfl, hgd, hinv⟩
        have e900 : ((900 : Int).toNat) = 900 := rfl
        rw [e900] at hinv
        rcases hinv with ⟨h, _⟩ | ⟨_, hlt, hle⟩
        · cases h
        · have ht : t = 0 := by
            rcases Nat.eq_zero_or_pos t with e | e
            · exact e
            · exfalso
              have h1 : 1 * 2 ^ (900 - 1) ≤ o * t * 2 ^ (900 - 1) := Nat.mul_le_mul_right _ (Nat.mul_pos (by omega) e)
              have h2 : (1 : Nat) * 2 ^ (900 - 1) ≤ 1267650600228229401496703205376 * 1267650600228229401496703205376 := Nat.le_trans h1 (Nat.le_trans hle hN)
              exact absurd h2 (by decide +kernel)
          subst ht
          rw [Nat.gcd_zero_right] at hgd
          rw [hgd]
          walk_at "go"
          exact ⟨rfl, _, _, _, _, _, rfl⟩
    · rintro σ H' ⟨rfl, u, v, z, t, r, rfl⟩
      rw [List.length_map, List.take_length]
      walk_at "go"
      exact k
def spDivsD : Sp := fun vs H Q _ => ∃ (n : Nat), vs = [.int n] ∧ 1 ≤ n ∧ n ≤ 1000 ∧ ∀ p H', H p = none → Same H H' → (∃ ds : List Nat, H' p = some (.lst (ds.map fun d : Nat => V.int (d : Nat))) ∧ 1 ∈ ds ∧ (∀ d ∈ ds, 1 ≤ d ∧ d ≤ n ∧ d ∣ n) ∧ ds.length ≤ n) → Q (.ref p) H'
theorem ok_divsD (B : Bi K mg) (F : FnP K "_law_divisors" st_l_divisors f fd) : FnOk P w K mg base CX0 1 f fd ["num"] spDivsD := by
  refine F.ok sc_l_divisors (fun vs H Q E h => ?_) (fun cdv A outer s H vs Q E hr h => ?_)
  · obtain ⟨n, rfl, _⟩ := h
    rfl
  · obtain ⟨n, rfl, h1, h2, k⟩ := h
    have G := B
    refine ⟨_, PSs.nox ((pss_one (ps_ret (pe_lc (own := [("k", 1)]) rfl sc_l_divisors.nd (pi_range2 (by rfl) G.range (pa_cons pe_int (pa_cons (pe_op op_add (pv 0) pe_int) pa_nil))) (blkOk_by (own := [("k", 1)]) (N := ["num", "k"]) (sc := defScope st_l_divisors) (by decide +kernel)) (fun _ _ _ _ _ => (pg_name (i := 1) sc_l_divisors.nd rfl (Or.inl rfl))) (fun _ _ _ _ _ => (pts_one (pt_cmpR op_eq (pe_op op_mod (pe_callTy call_intI (by rfl) G.int (by decide +kernel) (pa_cons (pv 0) pa_nil)) (pv 1)) pe_int (nomark _)))) (fun _ _ _ _ _ => (pv 1)))))), ?_⟩
    try dsimp only [cxOf]
    walk_at "go"
    have en : ((n : Int) + 1 - 1).toNat = n := by omega
    refine w_lcR2 (by omega) (by rw [en]; exact Nat.lt_of_le_of_lt h2 (by decide)) (fun i acc => ∃ ds : List Nat, acc = ds.map (fun d : Nat => V.int (d : Nat)) ∧ (1 ≤ i → 1 ∈ ds) ∧ (∀ d ∈ ds, 1 ≤ d ∧ d ≤ i ∧ d ∣ n) ∧ ds.length ≤ i) ⟨[], rfl, fun h => absurd h (by decide), (fun d hd => by simp at hd), Nat.le_refl _⟩ ?_ ?_
    · rintro i H' acc hi s' ⟨ds, rfl, d1, d2, d3⟩ hai R S hR hS
      have e1 : (1 : Int) + (i : Int) = ((i + 1 : Nat) : Int) := by omega
      walk_at "go"
      refine ⟨rfl, ?_⟩
      rw [e1]
      walk_at "go"
      refine x_iteD (fun h => ?_) (fun h => ?_)
      · walk_at "go"
        refine hR _ _ (Same.refl _) ⟨ds ++ [i + 1], by rw [List.map_append]; rfl, fun _ => ?_, fun d hd => ?_, by rw [List.length_append, List.length_singleton]; omega⟩
        · rcases Nat.eq_zero_or_pos i with e | e
          · subst e; exact List.mem_append_right _ (List.mem_singleton.mpr rfl)
          · exact List.mem_append_left _ (d1 e)
        · rcases List.mem_append.mp hd with q | q
          · exact ⟨(d2 d q).1, by have := (d2 d q).2.1; omega, (d2 d q).2.2⟩
          · have e9 := List.mem_singleton.mp q
            subst e9
            exact ⟨by omega, by omega, Int.natCast_dvd_natCast.mp (Int.dvd_of_emod_eq_zero h)⟩
      · refine hS _ (Same.refl _) ⟨ds, rfl, fun _ => ?_, fun d hd => ⟨(d2 d hd).1, by have := (d2 d hd).2.1; omega, (d2 d hd).2.2⟩, by omega⟩
        rcases Nat.eq_zero_or_pos i with e | e
        · subst e
          exact absurd (by have : (n : Int) % ((0 + 1 : Nat) : Int) = 0 := Int.emod_one _; exact this) h
        · exact d1 e
    · rintro p H' acc hp s' hp' ⟨ds, rfl, d1, d2, d3⟩
      rw [en] at d1 d2 d3
      exact k p H' hp s' ⟨ds, hp', d1 h1, d2, d3⟩
def spArms : Sp := fun vs H Q _ => ∃ (b l : Addr), vs = [.ref b] ∧ BagAt H b l ∧ ∀ (arm mod : Nat) (p : Addr) H', 1 ≤ arm → arm ≤ 12 → mod ≠ 1 → mod ≤ 24 → H p = none → BagAt H' b l → Kp b H H' → H' p = some (.lst [.int arm, .int mod]) → Q (.ref p) H'
theorem ok_arms (B : Bi K mg) (c_l_draw : C8.Cal P w K mg base 1 "_law_draw" spDraw []) (F : FnP K "_law_arms" st_l_arms f fd) : FnOk P w K mg base CX0 2 f fd ["bag"] spArms := by
  refine F.ok sc_l_arms (fun vs H Q E h => ?_) (fun cdv A outer s H vs Q E hr h => ?_)
  · obtain ⟨b, l, rfl, _⟩ := h
    rfl
  · obtain ⟨b, l, rfl, hB, k⟩ := h
    have G := B
    refine ⟨_, PSs.nox ((C8.pss_cut (ps_set (i := 1) sc_l_arms.nd rfl (Or.inl rfl) (pe_op op_add pe_int (C8.pe_c c_l_draw hr (by decide) rfl (pa_cons (pv 0) (pa_cons (pe_ifExp (pt_cmpR op_eq (C8.pe_c c_l_draw hr (by decide) rfl (pa_cons (pv 0) (pa_cons pe_int pa_nil))) pe_int (nomark _)) pe_int pe_int) pa_nil)))))
      (pss_cons (ps_if (pt_cmpR op_eq (C8.pe_c c_l_draw hr (by decide) rfl (pa_cons (pv 0) (pa_cons pe_int pa_nil))) pe_int (nomark _))
        (pss_one (ps_ret (pe_lst (pa_cons (pv 1) (pa_cons pe_int pa_nil)))))
        pss_nil)
      (pss_one (ps_ret (pe_lst (pa_cons (pv 1) (pa_cons (pe_op op_add pe_int (C8.pe_c c_l_draw hr (by decide) rfl (pa_cons (pv 0) (pa_cons (pe_ifExp (pt_cmpR op_eq (C8.pe_c c_l_draw hr (by decide) rfl (pa_cons (pv 0) (pa_cons pe_int pa_nil))) pe_int (nomark _)) pe_int pe_int) pa_nil)))) pa_nil)))))))), ?_⟩
    try dsimp only [cxOf]
    refine x_cut (fun σ H1 => ∃ arm : Nat, σ = [some (.ref b), some (.int (arm : Nat))] ∧ 1 ≤ arm ∧ arm ≤ 12 ∧ BagAt H1 b l ∧ Kp b H H1) ?_ ?_
    · walk_at "go"
      refine ⟨b, l, 10, rfl, hB, by decide, by decide, fun r H1 h1 hB1 kp1 => ?_⟩
      walk_at "go"
      refine x_iteD (fun h => ?_) (fun h => ?_)
      · walk_at "go"
        refine ⟨b, l, 12, rfl, hB1, by decide, by decide, fun r2 H2 h2 hB2 kp2 => ?_⟩
        walk_at "go"
        exact ⟨1 + r2, by rw [Int.natCast_add]; rfl, by omega, by omega, hB2, Kp.trans kp1 kp2⟩
      · walk_at "go"
        refine ⟨b, l, 6, rfl, hB1, by decide, by decide, fun r2 H2 h2 hB2 kp2 => ?_⟩
        walk_at "go"
        exact ⟨1 + r2, by rw [Int.natCast_add]; rfl, by omega, by omega, hB2, Kp.trans kp1 kp2⟩
    · rintro σ H1 ⟨arm, rfl, a1, a2, hB1, kp1⟩
      walk_at "go"
      refine ⟨b, l, 2, rfl, hB1, by decide, by decide, fun r H2 h2 hB2 kp2 => ?_⟩
      walk_at "go"
      have kp12 := Kp.trans kp1 kp2
      refine x_iteD (fun h => ?_) (fun h => ?_)
      · walk_at "go"
        refine ⟨by show 2 ≤ sizeLine; decide, fun p hp => ?_⟩
        have npb : p ≠ b := fun e => hB2.b_some (by rw [← e]; exact hp)
        exact k arm 0 p _ a1 a2 (by decide) (by decide) (Kp.free kp12 npb hp) (hB2.new hp) (Kp.trans kp12 (Kp.of (Same.new hp))) upd_same
      · walk_at "go"
        refine ⟨b, l, 10, rfl, hB2, by decide, by decide, fun r3 H3 h3 hB3 kp3 => ?_⟩
        walk_at "go"
        have kp123 := Kp.trans kp12 kp3
        refine x_iteD (fun h => ?_) (fun h => ?_)
        · walk_at "go"
          refine ⟨b, l, 23, rfl, hB3, by decide, by decide, fun r4 H4 h4 hB4 kp4 => ?_⟩
          walk_at "go"
          refine ⟨by show 2 ≤ sizeLine; decide, fun p hp => ?_⟩
          have npb : p ≠ b := fun e => hB4.b_some (by rw [← e]; exact hp)
          exact k arm (2 + r4) p _ a1 a2 (by omega) (by omega) (Kp.free (Kp.trans kp123 kp4) npb hp) (hB4.new hp) (Kp.trans (Kp.trans kp123 kp4) (Kp.of (Same.new hp))) (by rw [upd_same, Int.natCast_add]; rfl)
        · walk_at "go"
          refine ⟨b, l, 7, rfl, hB3, by decide, by decide, fun r4 H4 h4 hB4 kp4 => ?_⟩
          walk_at "go"
          refine ⟨by show 2 ≤ sizeLine; decide, fun p hp => ?_⟩
          have npb : p ≠ b := fun e => hB4.b_some (by rw [← e]; exact hp)
          exact k arm (2 + r4) p _ a1 a2 (by omega) (by omega) (Kp.free (Kp.trans kp123 kp4) npb hp) (hB4.new hp) (Kp.trans (Kp.trans kp123 kp4) (Kp.of (Same.new hp))) (by rw [upd_same, Int.natCast_add]; rfl)
/-! ### defs that let errors out -/
theorem fun_ofD {K : PySem.W.Frag} {x qual : Str} {st : Stmt} {f : Addr} {fd : FuncData} {kws : List (Str × V)} (F : FunD K x qual (defArgs st) (defBody st) (defScope st) [] kws f fd) : Fun K x qual st f fd := by
  obtain ⟨c1, c2, c3, c4, c5, c6, c7, c8, c9, c10, q1, q2, q3, q4, _⟩ := F.ex
  rcases q4 with ⟨_, z⟩ | ⟨z, _⟩
  · subst z
    exact ⟨⟨c1, c2, c4, c5, c6, c7, c8, c9, c10, q1, q2, q3⟩, F.kp⟩
  · exact absurd rfl z
theorem x_raise1 {C : Addr} {g : Str} {W : WX} {ta : TA} {D : Ends} {σ : L2.St} {H : Hp} (h : ta σ H fun vs H1 => ∃ v, vs = [v] ∧ ∀ d, H1 d = none → W (.ref C) (some d) σ (upd H1 d (.xd [(g, v)]))) : tRaise1 C g W ta D σ H := h
/-- a def that lets errors out; their context is None -/
theorem ok_outN {K : PySem.W.Frag} {x qual : Str} {st : Stmt} {f : Addr} {fd : FuncData} {N ps : List Str} {k : Nat} {sp : Sp} {mg : Str → Option Value} {base : Heap} {P : Program} {w : World} (F : Fun K x qual st f fd) (S : FnScope N ps (defScope st)) (ln : ∀ vs H Q E, sp vs H Q E → vs.length = ps.length)
    (hb : ∀ (cdv : Value) (A : Around) (outer : List Env) (s : Shared) (H : Hp) (vs : List V) (Q : VK) (E : XK), Room k (A.deeper (envOfC qual (defScope st) s.heap.objs.size f cdv)) → sp vs H Q E →
      ∃ t, PSs (cxOf (L2N.CX P w) P w K mg base N qual (defScope st) f cdv A outer s H E) (defBody st) t ∧ t { nx := fun _ H' => Q .non H', rt := Q } (L2.start N vs) H) : FnOk P w K mg base (L2N.CX P w) (k + 1) f fd ps sp := by
  obtain ⟨c1, c2, c3, c4, c5, c6, c7, c8, c9, rfl, q1, q2⟩ := F.ex
  exact fn_of q1 q2 S ln fun A outer s H vs Q E hr hsp => hb c7 A outer s H vs Q E hr hsp
theorem x_isNn2 {K : PySem.W.Frag} {H : Hp} {Q : VK} (h : Q (.bl false) H) : rIsi K [.non, .ty "int"] H Q := x_isTy .non (kit_ty (by decide +kernel)) h
theorem x_isNb {K : PySem.W.Frag} {H : Hp} {Q : VK} (h : Q (.bl false) H) : rIsi K [.non, .ty "bool"] H Q := x_isTy .non (kit_ty (by decide +kernel)) h
theorem x_isNl {K : PySem.W.Frag} {H : Hp} {Q : VK} (h : Q (.bl false) H) : rIsi K [.non, .ty "list"] H Q := x_isTy .non (kit_ty (by decide +kernel)) h
theorem x_isNt {K : PySem.W.Frag} {H : Hp} {Q : VK} (h : Q (.bl false) H) : rIsi K [.non, .ty "tuple"] H Q := x_isTy .non (kit_ty (by decide +kernel)) h
theorem x_isNd {K : PySem.W.Frag} {H : Hp} {Q : VK} (h : Q (.bl false) H) : rIsi K [.non, .ty "dict"] H Q := x_isTy .non (kit_ty (by decide +kernel)) h
def oV : Option Int → V
  | none => .non
  | some i => .int i
def spLikeO : Sp := fun vs H Q _ => ∃ i j : Option Int, vs = [oV i, oV j] ∧ Q (.bl (decide (i = j))) H
theorem ok_likeO (B : Bi K mg) (F : FnP K "_law_like" st_l_like f fd) : FnOk P w K mg base CX0 1 f fd ["told", "due"] spLikeO := by
  refine F.ok sc_l_like (fun vs H Q E h => ?_) (fun cdv A outer s H vs Q E hr h => ?_)
  · obtain ⟨i, j, rfl, _⟩ := h
    rfl
  · obtain ⟨i, j, rfl, k⟩ := h
    have G := B
    refine ⟨_, PSs.nox ((pss_cons (ps_if (PW.pt (pw_or (pt_val (pe_callB call_isi (by rfl) G.isinstance (by decide +kernel) (pa_cons (pv 1) (pa_cons (pe_bltn (v := .ty "list") (u := .type "list") (by rfl) G.list (by decide +kernel) rfl) pa_nil)))) (pw_or1 (pt_val (pe_callB call_isi (by rfl) G.isinstance (by decide +kernel) (pa_cons (pv 1) (pa_cons (pe_bltn (v := .ty "tuple") (u := .type "tuple") (by rfl) G.tuple (by decide +kernel) rfl) pa_nil)))))))
        (pss_cons ps_never
        (pss_one ps_never))
        pss_nil)
      (pss_cons (ps_if (pt_val (pe_callB call_isi (by rfl) G.isinstance (by decide +kernel) (pa_cons (pv 1) (pa_cons (pe_bltn (v := .ty "dict") (u := .type "dict") (by rfl) G.dict (by decide +kernel) rfl) pa_nil))))
        (pss_cons ps_never
        (pss_one ps_never))
        pss_nil)
      (pss_cons (ps_if (PW.pt (pw_or (pt_cmpR op_ne (pe_callB call_isi (by rfl) G.isinstance (by decide +kernel) (pa_cons (pv 0) (pa_cons (pe_bltn (v := .ty "bool") (u := .type "bool") (by rfl) G.bool (by decide +kernel) rfl) pa_nil))) (pe_callB call_isi (by rfl) G.isinstance (by decide +kernel) (pa_cons (pv 1) (pa_cons (pe_bltn (v := .ty "bool") (u := .type "bool") (by rfl) G.bool (by decide +kernel) rfl) pa_nil))) (nomark _)) (pw_or1 (pt_cmpR op_ne (pe_callB call_isi (by rfl) G.isinstance (by decide +kernel) (pa_cons (pv 0) (pa_cons (pe_bltn (v := .ty "int") (u := .type "int") (by rfl) G.int (by decide +kernel) rfl) pa_nil))) (pe_callB call_isi (by rfl) G.isinstance (by decide +kernel) (pa_cons (pv 1) (pa_cons (pe_bltn (v := .ty "int") (u := .type "int") (by rfl) G.int (by decide +kernel) rfl) pa_nil))) (nomark _)))))
        (pss_one (ps_ret pe_bl))
        pss_nil)
      (pss_one (ps_ret (pe_ifExp (pt_cmpR op_isNn (pv 1) pe_non (nomark _)) (pe_cmpR op_isNn (pv 0) pe_non (nomark _)) (pe_and (pe_cmpR op_eq (pe_callB call_isi (by rfl) G.isinstance (by decide +kernel) (pa_cons (pv 0) (pa_cons (pe_bltn (v := .ty "str") (u := .type "str") (by rfl) G.str (by decide +kernel) rfl) pa_nil))) (pe_callB call_isi (by rfl) G.isinstance (by decide +kernel) (pa_cons (pv 1) (pa_cons (pe_bltn (v := .ty "str") (u := .type "str") (by rfl) G.str (by decide +kernel) rfl) pa_nil))) (nomark _)) (pe_one (pe_cmpR op_eq (pv 0) (pv 1) (nomark _))))))))))), ?_⟩
    try dsimp only [cxOf]
    cases j with
    | none =>
      cases i with
      | none =>
        rw [decide_eq_true rfl] at k
        dsimp only [oV]
        walk_at "go"
        refine x_isNl ?_
        walk_at "go"
        refine x_isNt ?_
        walk_at "go"
        refine x_isNd ?_
        walk_at "go"
        refine x_isNb ?_
        walk_at "go"
        refine x_isNb ?_
        walk_at "go"
        rw [decide_eq_true rfl]
        walk_at "go"
        refine x_isNn2 ?_
        walk_at "go"
        refine x_isNn2 ?_
        walk_at "go"
        rw [decide_eq_true rfl]
        walk_at "go"
        rw [decide_eq_true rfl]
        walk_at "go"
        rw [decide_eq_true rfl]
        exact k
      | some i =>
        rw [decide_eq_false (show ¬((some i : Option Int) = none) from fun z => by cases z)] at k
        dsimp only [oV]
        walk_at "go"
        refine x_isNl ?_
        walk_at "go"
        refine x_isNt ?_
        walk_at "go"
        refine x_isNd ?_
        walk_at "go"
        refine x_isNb ?_
        walk_at "go"
        rw [decide_eq_true rfl]
        walk_at "go"
        refine x_isNn2 ?_
        walk_at "go"
        rw [decide_eq_false (show ¬(true = false) from fun z => by cases z)]
        walk_at "go"
        exact k
    | some j =>
      cases i with
      | none =>
        rw [decide_eq_false (show ¬((none : Option Int) = some j) from fun z => by cases z)] at k
        dsimp only [oV]
        walk_at "go"
        refine x_isNb ?_
        walk_at "go"
        rw [decide_eq_true rfl]
        walk_at "go"
        refine x_isNn2 ?_
        walk_at "go"
        rw [decide_eq_false (show ¬(false = true) from fun z => by cases z)]
        walk_at "go"
        exact k
      | some i =>
        have e : decide ((some i : Option Int) = some j) = decide (i = j) := decide_eq_decide.mpr ⟨fun z => Option.some.inj z, fun z => by rw [z]⟩
        rw [e] at k
        dsimp only [oV]
        walk_at "go"
        rw [decide_eq_true rfl]
        walk_at "go"
        rw [decide_eq_true rfl]
        walk_at "go"
        rw [decide_eq_false (fun z => by cases z)]
        walk_at "go"
        rw [decide_eq_true rfl]
        walk_at "go"
        exact k
theorem x_any {K : PySem.W.Frag} {H : Hp} {Q : VK} {a : Addr} {bs : List Bool} (s : SqL K H a (bs.map V.bl)) (h : Q (.bl (bs.any id)) H) : rAny K [.ref a] H Q := ⟨a, bs, rfl, s, h⟩
theorem tru_tup {K : PySem.W.Frag} {H : Hp} {r : Addr} {xs : List V} (h : SqT K H r xs) : TruV K (.ref r) H (!xs.isEmpty) := Or.inr (Or.inl ⟨xs, h, rfl⟩)
/-- a truth that says whether P -/
abbrev Tells (P : Prop) (k : Bool → Prop) : Prop := ∀ b : Bool, (b = true ↔ P) → k b
def spDivides : Sp := fun vs H Q _ => ∃ (p x : Int), vs = [.int p, .int x] ∧ 0 ≤ p ∧ p < 1073741824 ∧ Tells (p ∣ x) fun b => Q (.bl b) H
theorem ok_divides (B : Bi K mg) (F : FnP K "divides" st_divides f fd) : FnOk P w K mg base CX0 1 f fd ["part", "whole"] spDivides := by
  refine F.ok sc_divides (fun vs H Q E h => ?_) (fun cdv A outer s H vs Q E hr h => ?_)
  · obtain ⟨p, x, rfl, _⟩ := h
    rfl
  · obtain ⟨p, x, rfl, h1, h2, k⟩ := h
    have G := B
    refine ⟨_, PSs.nox ((pss_one (ps_ret (pe_ifExp (pt_cmpR op_eq (pv 0) pe_int (nomark _)) (pe_cmpR op_eq (pv 1) pe_int (nomark _)) (pe_cmpR op_eq (pe_op op_mod (pv 1) (pv 0)) pe_int (nomark _)))))), ?_⟩
    try dsimp only [cxOf]
    walk_at "go"
    refine x_iteD (fun h => ?_) (fun h => ?_)
    · walk_at "go"
      refine k _ ?_
      rw [h, decide_eq_true_iff]
      exact Int.zero_dvd.symm
    · walk_at "go"
      refine k _ ?_
      rw [decide_eq_true_iff]
      exact dvd_emod (by omega)
def spHasBal (K : PySem.W.Frag) : Sp := fun vs H Q _ => ∃ (a : Addr) (arm mod : Nat) (p : Int), vs = [.ref a, .int p] ∧ BookAt K H a arm mod ∧ 1 ≤ p ∧ p < 1073741824 ∧ Tells (HasBal arm mod p) fun b => Q (.bl b) H
theorem ok_hasbal (B : Bi K mg) (F : FnP K "has_balance" st_has_balance f fd) : FnOk P w K mg base CX0 1 f fd ["book", "share"] (spHasBal K) := by
  refine F.ok sc_has_balance (fun vs H Q E h => ?_) (fun cdv A outer s H vs Q E hr h => ?_)
  · obtain ⟨a, arm, mod, p, rfl, _⟩ := h
    rfl
  · obtain ⟨a, arm, mod, p, rfl, ⟨dx, hB⟩, h1, h2, k⟩ := h
    have G := B
    have cB := G.cls_Book
    have n1 := G.na_Book_arms
    have n2 := G.na_Book_modulus
    refine ⟨_, PSs.nox ((pss_one (ps_ret (pe_and (pe_cmpR op_eq (pe_op op_mod (pe_op op_fdiv (pe_fld (pv 0) (by rfl)) (pv 1)) pe_int) pe_int (nomark _)) (pe_one (pe_cmpR op_eq (pe_op op_mod (pe_op op_fdiv (pe_fld (pv 0) (by rfl)) (pv 1)) pe_int) pe_int (nomark _))))))), ?_⟩
    try dsimp only [cxOf]
    walk_at "go"
    by_cases c1 : (arm : Int) / p % 2 = 1
    · rw [decide_eq_true c1]
      walk_at "go"
      refine k _ ?_
      rw [decide_eq_true_iff]
      exact ⟨fun h => ⟨c1, h⟩, fun h => h.2⟩
    · rw [decide_eq_false c1]
      walk_at "go"
      refine k _ ?_
      exact ⟨fun h => (by cases h), fun h => absurd h.1 c1⟩
def spOddRim (K : PySem.W.Frag) : Sp := fun vs H Q _ => ∃ (a r : Addr) (arm mod : Nat) (es : List Int) (p : Int), vs = [.ref a, .ref r, .int p] ∧ BookAt K H a arm mod ∧ SqT K H r (es.map V.int) ∧ es.length ≤ 900 ∧ 1 ≤ p ∧ p < 1073741824 ∧ ∀ H', Same H H' → Tells (OddRim arm es p) fun b => Q (.bl b) H'
theorem ok_oddrim (B : Bi K mg) (F : FnP K "some_odd_rim" st_some_odd_rim f fd) : FnOk P w K mg base CX0 1 f fd ["book", "rims", "share"] (spOddRim K) := by
  refine F.ok sc_some_odd_rim (fun vs H Q E h => ?_) (fun cdv A outer s H vs Q E hr h => ?_)
  · obtain ⟨a, r, arm, mod, es, p, rfl, _⟩ := h
    rfl
  · obtain ⟨a, r, arm, mod, es, p, rfl, hB, hR, hl, h1, h2, k⟩ := h
    have G := B
    have cB := G.cls_Book
    have n1 := G.na_Book_arms
    refine ⟨_, PSs.nox ((pss_one (ps_ret (pe_callB (cr_any rfl) (by rfl) G.any (by decide +kernel) (pa_cons (pe_lc (own := [("rim", 3)]) rfl sc_some_odd_rim.nd (pi_tup (pv 1)) (blkOk_by (own := [("rim", 3)]) (N := ["book", "rims", "share", "rim"]) (sc := defScope st_some_odd_rim) (by decide +kernel)) (fun _ _ _ _ _ => (pg_name (i := 3) sc_some_odd_rim.nd rfl (Or.inl rfl))) (fun _ _ _ _ _ => pts_nil) (fun _ _ _ _ _ => (pe_cmpR op_eq (pe_op op_mod (pe_op op_fdiv (pe_op op_add (pv 3) (pe_fldK (K := K) rfl (pv 0) (by rfl))) (pv 2)) pe_int) pe_int (nomark _)))) pa_nil))))), ?_⟩
    try dsimp only [cxOf]
    walk_at "go"
    refine w_lcT (xs := es.map V.int) hR (by rw [List.length_map]; exact Nat.lt_of_le_of_lt hl (by decide)) (fun i acc => acc = ((es.map fun e => decide ((e + (arm : Int)) / p % 2 = 1)).map V.bl).take i) rfl ?_ ?_
    · rintro i x H' acc hi s' rfl hai R S2 hR2 hS2
      obtain ⟨e, rfl, he⟩ := int_at hi
      obtain ⟨dx, hB'⟩ := hB.same s'
      walk_at "go"
      refine ⟨rfl, ?_⟩
      walk_at "go"
      refine hR2 _ _ (Same.refl _) ?_
      rw [take_snoc (show ((es.map fun e => decide ((e + (arm : Int)) / p % 2 = 1)).map V.bl)[i]? = some (.bl (decide ((e + (arm : Int)) / p % 2 = 1))) by rw [List.getElem?_map, List.getElem?_map, he]; rfl)]
    · rintro q H' acc hq s' hq' rfl
      rw [List.length_map, List.take_of_length_le (by rw [List.length_map, List.length_map]; exact Nat.le_refl _)] at hq'
      walk_at "go"
      refine x_any (SqL.of hq') ?_
      refine k H' s' _ ?_
      rw [List.any_map, List.any_eq_true]
      exact ⟨fun ⟨e, h1, h2⟩ => ⟨e, h1, of_decide_eq_true h2⟩, fun ⟨e, h1, h2⟩ => ⟨e, h1, decide_eq_true h2⟩⟩
def spRimsOk (K : PySem.W.Frag) : Sp := fun vs H Q _ => ∃ (a r : Addr) (arm mod : Nat) (es : List Int), vs = [.ref a, .ref r] ∧ BookAt K H a arm mod ∧ SqT K H r (es.map V.int) ∧ es.length ≤ 900 ∧ ∀ H', Same H H' → Tells (RimsOk mod es) fun b => Q (.bl b) H'
theorem pair_bad {es : List Int} : ((List.range (es.length - 1)).map fun i => decide (es.getD i 0 > es.getD (i + 1) 0)).any id = true ↔ ¬es.Pairwise (· ≤ ·) := by
  rw [List.any_map, List.any_eq_true]
  constructor
  · rintro ⟨i, hi, h⟩ hp
    have hi := List.mem_range.mp hi
    have h : es.getD i 0 > es.getD (i + 1) 0 := of_decide_eq_true h
    rw [List.pairwise_iff_getElem] at hp
    have := hp i (i + 1) (by omega) (by omega) (by omega)
    rw [List.getD_eq_getElem?_getD, List.getD_eq_getElem?_getD, List.getElem?_eq_getElem (by omega), List.getElem?_eq_getElem (by omega)] at h
    have h : es[i] > es[i + 1] := h
    omega
  · intro hp
    refine Classical.byContradiction fun hn => hp ?_
    have hs : ∀ i, i + 1 < es.length → es.getD i 0 ≤ es.getD (i + 1) 0 := fun i hi => Classical.byContradiction fun z => hn ⟨i, List.mem_range.mpr (by omega), decide_eq_true (by omega)⟩
    have key : ∀ k i, i + k < es.length → es.getD i 0 ≤ es.getD (i + k) 0 := fun k => by
      induction k with
      | zero => intro i _; exact Int.le_refl _
      | succ k ih => intro i hi; exact Int.le_trans (ih i (by omega)) (hs (i + k) (by omega))
    rw [List.pairwise_iff_getElem]
    intro i j hi hj hij
    have := key (j - i) i (by omega)
    rw [show i + (j - i) = j by omega, List.getD_eq_getElem?_getD, List.getD_eq_getElem?_getD, List.getElem?_eq_getElem hi, List.getElem?_eq_getElem hj] at this
    exact this
theorem sorted_ends {es : List Int} (h0 : es ≠ []) (hp : es.Pairwise (· ≤ ·)) (m : Int) : (∀ e ∈ es, 0 ≤ e ∧ e < m) ↔ (0 ≤ es.getD 0 0 ∧ es.getD (es.length - 1) 0 < m) := by
  have hl : 0 < es.length := List.length_pos_iff.mpr h0
  have g0 : es.getD 0 0 = es[0] := by rw [List.getD_eq_getElem?_getD, List.getElem?_eq_getElem hl]; rfl
  have g1 : es.getD (es.length - 1) 0 = es[es.length - 1] := by rw [List.getD_eq_getElem?_getD, List.getElem?_eq_getElem (by omega)]; rfl
  rw [g0, g1]
  rw [List.pairwise_iff_getElem] at hp
  constructor
  · exact fun h => ⟨(h _ (List.getElem_mem _)).1, (h _ (List.getElem_mem _)).2⟩
  · rintro ⟨h1, h2⟩ e he
    obtain ⟨i, hi, rfl⟩ := List.getElem_of_mem he
    constructor
    · by_cases c : i = 0
      · subst c; exact h1
      · exact Int.le_trans h1 (hp 0 i hl hi (by omega))
    · by_cases c : i = es.length - 1
      · subst c; exact h2
      · exact Int.lt_of_le_of_lt (hp i (es.length - 1) hi (by omega) (by omega)) h2
theorem ok_rimsok (B : Bi K mg) (F : FnP K "rims_stand" st_rims_stand f fd) : FnOk P w K mg base CX0 1 f fd ["book", "rims"] (spRimsOk K) := by
  refine F.ok sc_rims_stand (fun vs H Q E h => ?_) (fun cdv A outer s H vs Q E hr h => ?_)
  · obtain ⟨a, r, arm, mod, es, rfl, _⟩ := h
    rfl
  · obtain ⟨a, r, arm, mod, es, rfl, hB, hR, hl, k⟩ := h
    have G := B
    have cB := G.cls_Book
    have n2 := G.na_Book_modulus
    refine ⟨_, PSs.nox ((pss_cons (ps_if (pt_not (pt_truth (pv 1) (by intro _; rfl)))
        (pss_one (ps_ret pe_bl))
        pss_nil)
      (pss_cons (ps_if (pt_val (pe_callB (cr_any rfl) (by rfl) G.any (by decide +kernel) (pa_cons (pe_lc (own := [("at", 2)]) rfl sc_rims_stand.nd (pi_range1 (by rfl) G.range (pa_cons (pe_op op_sub (pe_callB callLenS (by rfl) G.len PySem.boot_len (pa_cons (pv 1) pa_nil)) pe_int) pa_nil)) (blkOk_by (own := [("at", 2)]) (N := ["book", "rims", "at"]) (sc := defScope st_rims_stand) (by decide +kernel)) (fun _ _ _ _ _ => (pg_name (i := 2) sc_rims_stand.nd rfl (Or.inl rfl))) (fun _ _ _ _ _ => pts_nil) (fun _ _ _ _ _ => (pe_cmpR op_gt (pe_ix (ix_tupK (K := K) rfl) (pv 1) (pv 2) (fun _ _ => rfl)) (pe_ix (ix_tupK (K := K) rfl) (pv 1) (pe_op op_add (pv 2) pe_int) (fun _ _ => rfl)) (nomark _)))) pa_nil)))
        (pss_one (ps_ret pe_bl))
        pss_nil)
      (pss_one (ps_ret (pe_or (pe_cmpR op_eq (pe_fld (pv 0) (by rfl)) pe_int (nomark _)) (pe_one (pe_and (pe_cmpR op_ge (pe_ix ix_tup (pv 1) pe_int (fun _ _ => rfl)) pe_int (nomark _)) (pe_one (pe_cmpR op_lt (pe_ix ix_tup (pv 1) (pe_un un_neg pe_int) (fun _ _ => rfl)) (pe_fld (pv 0) (by rfl)) (nomark _))))))))))), ?_⟩
    try dsimp only [cxOf]
    walk_at "go"
    refine ⟨!(es.map V.int).isEmpty, ?_, ?_⟩
    · exact tru_tup hR
    try dsimp only
    by_cases h0 : es = []
    · subst h0
      walk_at "go"
      exact k _ (Same.refl _) _ ⟨fun h => (by cases h), fun h => absurd rfl h.1⟩
    · have hne : (es.map V.int).isEmpty = false := by cases es with | nil => exact absurd rfl h0 | cons _ _ => rfl
      have hl0 : 0 < es.length := List.length_pos_iff.mpr h0
      rw [hne]
      refine x_iteF ?_
      walk_at "go"
      refine x_lenT hR ?_
      walk_at "go"
      rw [List.length_map]
      refine w_lcR1 (by omega) (by omega) (by exact Nat.lt_of_le_of_lt (show _ ≤ 900 by omega) (by decide)) (fun i acc => acc = (((List.range (es.length - 1)).map fun i => decide (es.getD i 0 > es.getD (i + 1) 0)).map V.bl).take i) rfl ?_ ?_
      · rintro i H' acc hi s' rfl hai R S2 hR2 hS2
        have hi : i < es.length - 1 := by omega
        have a1 : atI (es.map V.int) (0 + (i : Int)) = some (.int (es.getD i 0)) := atI_of (k := i) (by omega) (by rw [List.getElem?_map, List.getD_eq_getElem?_getD, List.getElem?_eq_getElem (by omega)]; rfl)
        have a2 : atI (es.map V.int) (0 + (i : Int) + 1) = some (.int (es.getD (i + 1) 0)) := atI_of (k := i + 1) (by omega) (by rw [List.getElem?_map, List.getD_eq_getElem?_getD, List.getElem?_eq_getElem (by omega)]; rfl)
        have hR' := Same.sqt s' hR
        walk_at "go"
        refine ⟨rfl, ?_⟩
        walk_at "go"
        refine hR2 _ _ (Same.refl _) ?_
        rw [take_snoc (show (((List.range (es.length - 1)).map fun i => decide (es.getD i 0 > es.getD (i + 1) 0)).map V.bl)[i]? = some (.bl (decide (es.getD (i + 1) 0 < es.getD i 0))) by rw [List.getElem?_map, List.getElem?_map, List.getElem?_range hi]; rfl)]
      · rintro q H' acc hq s' hq' rfl
        have el : ((es.length : Int) - 1).toNat = es.length - 1 := by omega
        rw [el, List.take_of_length_le (by rw [List.length_map, List.length_map, List.length_range]; exact Nat.le_refl _)] at hq'
        have hR' := Same.sqt s' hR
        obtain ⟨dx, hB'⟩ := hB.same s'
        have b0 : atI (es.map V.int) 0 = some (.int (es.getD 0 0)) := atI_of (k := 0) rfl (by rw [List.getElem?_map, List.getD_eq_getElem?_getD, List.getElem?_eq_getElem hl0]; rfl)
        have b1 : atI (es.map V.int) (-1) = some (.int (es.getD (es.length - 1) 0)) := by
          obtain ⟨L, x1, eL⟩ : ∃ L x1, es = L ++ [x1] := ⟨_, _, (List.dropLast_concat_getLast h0).symm⟩
          rw [eL, List.map_append]
          have := atI_last (L.map V.int) (V.int x1)
          refine this.trans ?_
          rw [List.getD_eq_getElem?_getD, List.length_append]
          simp
        walk_at "go"
        refine x_any (SqL.of hq') ?_
        by_cases hp : es.Pairwise (· ≤ ·)
        · have hb : ((List.range (es.length - 1)).map fun i => decide (es.getD i 0 > es.getD (i + 1) 0)).any id = false := by
            rw [← Bool.not_eq_true, pair_bad]
            exact fun z => z hp
          rw [hb]
          walk_at "go"
          by_cases hm : (mod : Int) = 0
          · rw [decide_eq_true hm]
            walk_at "go"
            exact k _ s' _ ⟨fun _ => ⟨h0, hp, fun z => by omega⟩, fun _ => rfl⟩
          · rw [decide_eq_false hm]
            walk_at "go"
            have he := sorted_ends h0 hp (mod : Int)
            by_cases c0 : 0 ≤ es.getD 0 0
            · rw [decide_eq_true c0]
              walk_at "go"
              refine k _ s' _ ?_
              rw [decide_eq_true_iff]
              exact ⟨fun z => ⟨h0, hp, fun _ => he.mpr ⟨c0, z⟩⟩, fun z => (he.mp (z.2.2 (by omega))).2⟩
            · rw [decide_eq_false c0]
              walk_at "go"
              exact k _ s' _ ⟨fun z => (by cases z), fun z => absurd (he.mp (z.2.2 (by omega))).1 c0⟩
        · have hb : ((List.range (es.length - 1)).map fun i => decide (es.getD i 0 > es.getD (i + 1) 0)).any id = true := pair_bad.mpr hp
          rw [hb]
          walk_at "go"
          exact k _ s' _ ⟨fun z => (by cases z), fun z => absurd z.2.1 hp⟩
def spDueSum (K : PySem.W.Frag) : Sp := fun vs H Q _ => ∃ (a : Addr) (arm mod : Nat) (h m : Int), vs = [.ref a, .int h, .int m] ∧ BookAt K H a arm mod ∧ arm ≤ 1000 ∧ h.natAbs ≤ 1000000 ∧ Q (.int ((arm : Int) * (2 - 2 * h - m))) H
theorem ok_duesum (B : Bi K mg) (F : FnP K "due_sum" st_due_sum f fd) : FnOk P w K mg base CX0 1 f fd ["book", "handles", "many"] (spDueSum K) := by
  refine F.ok sc_due_sum (fun vs H Q E h => ?_) (fun cdv A outer s H vs Q E hr h => ?_)
  · obtain ⟨a, arm, mod, h, m, rfl, _⟩ := h
    rfl
  · obtain ⟨a, arm, mod, h, m, rfl, ⟨dx, hB⟩, h1, h2, k⟩ := h
    have G := B
    have cB := G.cls_Book
    have n1 := G.na_Book_arms
    refine ⟨_, PSs.nox ((pss_one (ps_ret (pe_op op_mul (pe_fld (pv 0) (by rfl)) (pe_op op_sub (pe_op op_sub pe_int (pe_op op_mul pe_int (pv 1))) (pv 2)))))), ?_⟩
    try dsimp only [cxOf]
    have c1 : CMul 2 h := .inl ⟨by omega, by omega⟩
    have c2 : CMul (arm : Int) (2 - 2 * h - m) := .inl ⟨by omega, by omega⟩
    walk_at "go"
    exact k
def spSumOk (K : PySem.W.Frag) : Sp := fun vs H Q _ => ∃ (a r : Addr) (arm mod : Nat) (h : Int) (es : List Int), vs = [.ref a, .int h, .ref r] ∧ BookAt K H a arm mod ∧ arm ≤ 1000 ∧ mod ≤ 1000 ∧ SqT K H r (es.map V.int) ∧ h.natAbs ≤ 1000000 ∧ Tells (SumOk arm mod h es) fun b => Q (.bl b) H
theorem ok_sumok (B : Bi K mg) (c_divides : C8.Cal P w K mg base 1 "divides" spDivides []) (c_due_sum : C8.Cal P w K mg base 1 "due_sum" (spDueSum K) []) (F : FnP K "sum_stands" st_sum_stands f fd) : FnOk P w K mg base CX0 2 f fd ["book", "handles", "rims"] (spSumOk K) := by
  refine F.ok sc_sum_stands (fun vs H Q E h => ?_) (fun cdv A outer s H vs Q E hr h => ?_)
  · obtain ⟨a, r, arm, mod, h, es, rfl, _⟩ := h
    rfl
  · obtain ⟨a, r, arm, mod, h, es, rfl, hB, h1, h2, hR, hh, k⟩ := h
    have G := B
    have cB := G.cls_Book
    have n2 := G.na_Book_modulus
    obtain ⟨dx, hB'⟩ := id hB
    refine ⟨_, PSs.nox ((pss_one (ps_ret (C8.pe_c c_divides hr (by decide) rfl (pa_cons (pe_fld (pv 0) (by rfl)) (pa_cons (pe_op op_sub (pe_callB (cr_sumT rfl) (by rfl) G.sum (by decide +kernel) (pa_cons (pv 2) pa_nil)) (C8.pe_c c_due_sum hr (by decide) rfl (pa_cons (pv 0) (pa_cons (pv 1) (pa_cons (pe_callB callLenS (by rfl) G.len PySem.boot_len (pa_cons (pv 2) pa_nil)) pa_nil))))) pa_nil)))))), ?_⟩
    try dsimp only [cxOf]
    walk_at "go"
    refine x_sumT hR ?_
    walk_at "go"
    refine x_lenT hR ?_
    walk_at "go"
    rw [List.length_map]
    refine ⟨a, arm, mod, h, (es.length : Nat), rfl, hB, h1, hh, ?_⟩
    walk_at "go"
    exact ⟨(mod : Int), _, rfl, by omega, by omega, k⟩
def spMeasOk (K : PySem.W.Frag) : Sp := fun vs H Q _ => ∃ (a r : Addr) (arm mod : Nat) (es : List Int) (m : Int), vs = [.ref a, .ref r, .int m] ∧ BookAt K H a arm mod ∧ arm ≤ 1000 ∧ mod ≤ 1000 ∧ SqT K H r (es.map V.int) ∧ es.length ≤ 900 ∧ m < 1073741824 ∧ ∀ H', Same H H' → Tells (MeasOk arm mod es m) fun b => Q (.bl b) H'
theorem ok_measok (B : Bi K mg) (c_divides : C8.Cal P w K mg base 1 "divides" spDivides []) (F : FnP K "measure_stands" st_measure_stands f fd) : FnOk P w K mg base CX0 2 f fd ["book", "rims", "measure"] (spMeasOk K) := by
  refine F.ok sc_measure_stands (fun vs H Q E h => ?_) (fun cdv A outer s H vs Q E hr h => ?_)
  · obtain ⟨a, r, arm, mod, es, m, rfl, _⟩ := h
    rfl
  · obtain ⟨a, r, arm, mod, es, m, rfl, hB, h1, h2, hR, hl, hm, k⟩ := h
    have G := B
    have cB := G.cls_Book
    have n1 := G.na_Book_arms
    have n2 := G.na_Book_modulus
    obtain ⟨dx, hB'⟩ := id hB
    refine ⟨_, PSs.nox ((pss_cons (ps_if (PW.pt (pw_or (pt_cmpR op_lt (pv 2) (pe_ifExp (pt_cmpR op_eq (pe_fld (pv 0) (by rfl)) pe_int (nomark _)) pe_int pe_int) (nomark _)) (pw_or1 (pt_not (pt_val (C8.pe_c c_divides hr (by decide) rfl (pa_cons (pv 2) (pa_cons (pe_fld (pv 0) (by rfl)) pa_nil))))))))
        (pss_one (ps_ret pe_bl))
        pss_nil)
      (pss_one (ps_ret (pe_callB (cr_all rfl) (by rfl) G.all (by decide +kernel) (pa_cons (pe_lc (own := [("rim", 3)]) rfl sc_measure_stands.nd (pi_tup (pv 1)) (blkOk_by (own := [("rim", 3)]) (N := ["book", "rims", "measure", "rim"]) (sc := defScope st_measure_stands) (by decide +kernel)) (fun _ _ _ _ _ => (pg_name (i := 3) sc_measure_stands.nd rfl (Or.inl rfl))) (fun _ _ _ _ _ => pts_nil) (fun _ _ _ _ _ => (C8.pe_c c_divides hr (by decide) rfl (pa_cons (pv 2) (pa_cons (pe_op op_add (pv 3) (pe_fldK (K := K) rfl (pv 0) (by rfl))) pa_nil))))) pa_nil)))))), ?_⟩
    try dsimp only [cxOf]
    walk_at "go"
    have bad : ¬(0 ≤ m ∧ m ∣ (mod : Int)) → Q (.bl false) H := fun hn => k H (Same.refl _) false ⟨fun z => (by cases z), fun z => absurd ⟨z.1, z.2.1⟩ hn⟩
    refine x_iteD (fun hz => ?_) (fun hz => ?_)
    all_goals walk_at "go"
    all_goals refine x_iteD (fun hlt => ?_) (fun hlt => ?_)
    · walk_at "go"
      exact bad fun z => by omega
    · walk_at "go"
      refine ⟨m, (mod : Int), rfl, by omega, hm, fun b hb => ?_⟩
      cases b with
      | false =>
        walk_at "go"
        exact bad fun z => by have := hb.mpr z.2; cases this
      | true =>
        have hd := hb.mp rfl
        walk_at "go"
        refine w_lcT (xs := es.map V.int) hR (by rw [List.length_map]; exact Nat.lt_of_le_of_lt hl (by decide)) (fun i acc => ∃ bs : List Bool, acc = bs.map V.bl ∧ (bs.all id = true ↔ ∀ e ∈ es.take i, m ∣ e + (arm : Int))) ⟨[], rfl, ⟨fun _ e he => (by cases he), fun _ => rfl⟩⟩ ?_ ?_
        · rintro i x H' acc hi s' ⟨bs, rfl, hbs⟩ hai R S2 hR2 hS2
          obtain ⟨e, rfl, he⟩ := int_at hi
          obtain ⟨dx, hB'⟩ := hB.same s'
          walk_at "go"
          refine ⟨rfl, ?_⟩
          walk_at "go"
          refine ⟨m, _, rfl, by omega, hm, fun b2 hb2 => ?_⟩
          refine hR2 _ _ (Same.refl _) ⟨bs ++ [b2], by rw [List.map_append]; rfl, ?_⟩
          rw [List.all_append, Bool.and_eq_true, hbs, take_snoc he]
          constructor
          · rintro ⟨z1, z2⟩ q hq
            rcases List.mem_append.mp hq with z | z
            · exact z1 q z
            · rw [List.mem_singleton.mp z]
              exact hb2.mp (by simpa using z2)
          · exact fun z => ⟨fun q hq => z q (List.mem_append_left _ hq), by simpa using hb2.mpr (z e (List.mem_append_right _ (List.mem_singleton_self _)))⟩
        · rintro q H' acc hq s' hq' ⟨bs, rfl, hbs⟩
          rw [List.length_map, List.take_length] at hbs
          walk_at "go"
          refine x_all (SqL.of hq') ?_
          refine k H' s' _ ?_
          rw [hbs]
          exact ⟨fun z => ⟨by omega, hd, z⟩, fun z => z.2.2⟩
    · walk_at "go"
      refine bad fun z => ?_
      have : m = 0 := by omega
      rw [this] at z
      have := Int.zero_dvd.mp z.2
      omega
    · walk_at "go"
      refine ⟨m, (mod : Int), rfl, by omega, hm, fun b hb => ?_⟩
      cases b with
      | false =>
        walk_at "go"
        exact bad fun z => by have := hb.mpr z.2; cases this
      | true =>
        have hd := hb.mp rfl
        walk_at "go"
        refine w_lcT (xs := es.map V.int) hR (by rw [List.length_map]; exact Nat.lt_of_le_of_lt hl (by decide)) (fun i acc => ∃ bs : List Bool, acc = bs.map V.bl ∧ (bs.all id = true ↔ ∀ e ∈ es.take i, m ∣ e + (arm : Int))) ⟨[], rfl, ⟨fun _ e he => (by cases he), fun _ => rfl⟩⟩ ?_ ?_
        · rintro i x H' acc hi s' ⟨bs, rfl, hbs⟩ hai R S2 hR2 hS2
          obtain ⟨e, rfl, he⟩ := int_at hi
          obtain ⟨dx, hB'⟩ := hB.same s'
          walk_at "go"
          refine ⟨rfl, ?_⟩
          walk_at "go"
          refine ⟨m, _, rfl, by omega, hm, fun b2 hb2 => ?_⟩
          refine hR2 _ _ (Same.refl _) ⟨bs ++ [b2], by rw [List.map_append]; rfl, ?_⟩
          rw [List.all_append, Bool.and_eq_true, hbs, take_snoc he]
          constructor
          · rintro ⟨z1, z2⟩ q hq
            rcases List.mem_append.mp hq with z | z
            · exact z1 q z
            · rw [List.mem_singleton.mp z]
              exact hb2.mp (by simpa using z2)
          · exact fun z => ⟨fun q hq => z q (List.mem_append_left _ hq), by simpa using hb2.mpr (z e (List.mem_append_right _ (List.mem_singleton_self _)))⟩
        · rintro q H' acc hq s' hq' ⟨bs, rfl, hbs⟩
          rw [List.length_map, List.take_length] at hbs
          walk_at "go"
          refine x_all (SqL.of hq') ?_
          refine k H' s' _ ?_
          rw [hbs]
          exact ⟨fun z => ⟨by omega, hd, z⟩, fun z => z.2.2⟩
def spShareOk (K : PySem.W.Frag) : Sp := fun vs H Q _ => ∃ (a r : Addr) (arm mod : Nat) (es : List Int) (p : Int), vs = [.ref a, .ref r, .int p] ∧ BookAt K H a arm mod ∧ SqT K H r (es.map V.int) ∧ es.length ≤ 900 ∧ p < 1073741824 ∧ ∀ H', Same H H' → Tells (ShareOk arm mod es p) fun b => Q (.bl b) H'
theorem ok_shareok (B : Bi K mg) (F : FnP K "share_stands" st_share_stands f fd) : FnOk P w K mg base CX0 1 f fd ["book", "rims", "share"] (spShareOk K) := by
  refine F.ok sc_share_stands (fun vs H Q E h => ?_) (fun cdv A outer s H vs Q E hr h => ?_)
  · obtain ⟨a, r, arm, mod, es, p, rfl, _⟩ := h
    rfl
  · obtain ⟨a, r, arm, mod, es, p, rfl, hB, hR, hl, hp, k⟩ := h
    have G := B
    have cB := G.cls_Book
    have n1 := G.na_Book_arms
    have n2 := G.na_Book_modulus
    obtain ⟨dx, hB'⟩ := id hB
    refine ⟨_, PSs.nox ((pss_cons (ps_if (PW.pt (pw_or (pt_cmpR op_lt (pv 2) pe_int (nomark _)) (pw_or (pt_cmpR op_ne (pe_op op_mod (pe_fld (pv 0) (by rfl)) (pv 2)) pe_int (nomark _)) (pw_or1 (pt_cmpR op_ne (pe_op op_mod (pe_fld (pv 0) (by rfl)) (pv 2)) pe_int (nomark _))))))
        (pss_one (ps_ret pe_bl))
        pss_nil)
      (pss_one (ps_ret (pe_callB (cr_all rfl) (by rfl) G.all (by decide +kernel) (pa_cons (pe_lc (own := [("rim", 3)]) rfl sc_share_stands.nd (pi_tup (pv 1)) (blkOk_by (own := [("rim", 3)]) (N := ["book", "rims", "share", "rim"]) (sc := defScope st_share_stands) (by decide +kernel)) (fun _ _ _ _ _ => (pg_name (i := 3) sc_share_stands.nd rfl (Or.inl rfl))) (fun _ _ _ _ _ => pts_nil) (fun _ _ _ _ _ => (pe_cmpR op_eq (pe_op op_mod (pv 3) (pv 2)) pe_int (nomark _)))) pa_nil)))))), ?_⟩
    try dsimp only [cxOf]
    walk_at "go"
    have bad : ¬ShareOk arm mod es p → Q (.bl false) H := fun hn => k H (Same.refl _) false ⟨fun z => (by cases z), fun z => absurd z hn⟩
    refine x_iteD (fun c1 => ?_) (fun c1 => ?_)
    · walk_at "go"
      exact bad fun z => by have := z.1; omega
    walk_at "go"
    refine Classical.byCases (p := ¬((arm : Int) % p = 0)) (fun c2 => ?_) (fun c2 => ?_)
    · rw [decide_eq_false c2]
      walk_at "go"
      exact bad fun z => c2 ((dvd_emod (by omega)).mpr z.2.1)
    have c2 := Classical.not_not.mp c2
    rw [decide_eq_true c2]
    walk_at "go"
    refine Classical.byCases (p := ¬((mod : Int) % p = 0)) (fun c3 => ?_) (fun c3 => ?_)
    · rw [decide_eq_false c3]
      walk_at "go"
      exact bad fun z => c3 ((dvd_emod (by omega)).mpr z.2.2.1)
    have c3 := Classical.not_not.mp c3
    rw [decide_eq_true c3]
    walk_at "go"
    refine w_lcT (xs := es.map V.int) hR (by rw [List.length_map]; exact Nat.lt_of_le_of_lt hl (by decide)) (fun i acc => acc = ((es.map fun e => decide (e % p = 0)).map V.bl).take i) rfl ?_ ?_
    · rintro i x H' acc hi s' rfl hai R S2 hR2 hS2
      obtain ⟨e, rfl, he⟩ := int_at hi
      walk_at "go"
      refine ⟨rfl, ?_⟩
      walk_at "go"
      refine hR2 _ _ (Same.refl _) ?_
      rw [take_snoc (show ((es.map fun e => decide (e % p = 0)).map V.bl)[i]? = some (.bl (decide (e % p = 0))) by rw [List.getElem?_map, List.getElem?_map, he]; rfl)]
    · rintro q H' acc hq s' hq' rfl
      rw [List.length_map, List.take_of_length_le (by rw [List.length_map, List.length_map]; exact Nat.le_refl _)] at hq'
      walk_at "go"
      refine x_all (SqL.of hq') ?_
      refine k H' s' _ ?_
      rw [List.all_map, List.all_eq_true]
      constructor
      · exact fun z => ⟨by omega, (dvd_emod (by omega)).mp c2, (dvd_emod (by omega)).mp c3, fun e he => (dvd_emod (by omega)).mp (of_decide_eq_true (z e he))⟩
      · exact fun z e he => decide_eq_true ((dvd_emod (by omega)).mpr (z.2.2.2 e he))
def spBalOk (K : PySem.W.Frag) : Sp := fun vs H Q _ => ∃ (a r : Addr) (arm mod : Nat) (es : List Int) (p : Int) (sn : Option Int), vs = [.ref a, .ref r, .int p, oV sn] ∧ BookAt K H a arm mod ∧ SqT K H r (es.map V.int) ∧ es.length ≤ 900 ∧ 1 ≤ p ∧ p < 1073741824 ∧ ∀ H', Same H H' → Tells (BalOk arm mod es p sn) fun b => Q (.bl b) H'
theorem ok_balok (B : Bi K mg) (c_has_balance : C8.Cal P w K mg base 1 "has_balance" (spHasBal K) []) (c_some_odd_rim : C8.Cal P w K mg base 1 "some_odd_rim" (spOddRim K) []) (F : FnP K "balance_stands" st_balance_stands f fd) : FnOk P w K mg base CX0 2 f fd ["book", "rims", "share", "balance"] (spBalOk K) := by
  refine F.ok sc_balance_stands (fun vs H Q E h => ?_) (fun cdv A outer s H vs Q E hr h => ?_)
  · obtain ⟨a, r, arm, mod, es, p, sn, rfl, _⟩ := h
    rfl
  · obtain ⟨a, r, arm, mod, es, p, sn, rfl, hB, hR, hl, h1, h2, k⟩ := h
    have G := B
    refine ⟨_, PSs.nox ((pss_cons (ps_if (pt_not (pt_val (C8.pe_c c_has_balance hr (by decide) rfl (pa_cons (pv 0) (pa_cons (pv 2) pa_nil)))))
        (pss_one (ps_ret (pe_cmpR op_isNn (pv 3) pe_non (nomark _))))
        pss_nil)
      (pss_cons (ps_if (pt_cmpR op_isNn (pv 3) pe_non (nomark _))
        (pss_one (ps_ret pe_bl))
        pss_nil)
      (pss_one (ps_ret (pe_cmpR op_eq (pe_cmpR op_eq (pv 3) pe_int (nomark _)) (C8.pe_c c_some_odd_rim hr (by decide) rfl (pa_cons (pv 0) (pa_cons (pv 1) (pa_cons (pv 2) pa_nil)))) (nomark _))))))), ?_⟩
    try dsimp only [cxOf]
    walk_at "go"
    refine ⟨a, arm, mod, p, rfl, hB, h1, h2, fun b hb => ?_⟩
    walk_at "go"
    cases b with
    | false =>
      have hn : ¬HasBal arm mod p := fun z => by have := hb.mpr z; cases this
      walk_at "go"
      refine k H (Same.refl _) _ ?_
      rw [decide_eq_true_iff]
      cases sn with
      | none => exact ⟨fun _ => .inr ⟨hn, rfl⟩, fun _ => rfl⟩
      | some z => exact ⟨fun z => (by cases z), fun z => z.elim (fun z => absurd z.1 hn) fun z => (by cases z.2)⟩
    | true =>
      have hy := hb.mp rfl
      walk_at "go"
      cases sn with
      | none =>
        rw [decide_eq_true (show oV none = V.non from rfl)]
        walk_at "go"
        exact k H (Same.refl _) _ ⟨fun z => (by cases z), fun z => z.elim (fun ⟨_, q, e, _⟩ => by cases e) fun z => absurd hy z.1⟩
      | some z =>
        rw [decide_eq_false (show ¬ oV (some z) = V.non from fun e => by cases e)]
        walk_at "go"
        refine x_eqI (i := z) ?_
        walk_at "go"
        refine ⟨a, r, arm, mod, es, p, rfl, hB, hR, hl, h1, h2, fun H' s' b2 hb2 => ?_⟩
        walk_at "go"
        refine k H' s' _ ?_
        rw [decide_eq_true_iff]
        by_cases hz : z = 0
        · rw [decide_eq_true hz]
          constructor
          · exact fun e => .inl ⟨hy, z, rfl, ⟨fun _ => hb2.mp e.symm, fun _ => hz⟩⟩
          · rintro (⟨_, q, e, h⟩ | ⟨h, _⟩)
            · cases e
              exact (hb2.mpr (h.mp hz)).symm
            · exact absurd hy h
        · rw [decide_eq_false hz]
          constructor
          · exact fun e => .inl ⟨hy, z, rfl, ⟨fun e' => absurd e' hz, fun e' => by have := hb2.mpr e'; rw [← e] at this; cases this⟩⟩
          · rintro (⟨_, q, e, h⟩ | ⟨h, _⟩)
            · cases e
              cases b2 with
              | false => rfl
              | true => exact absurd (h.mpr (hb2.mp rfl)) hz
            · exact absurd hy h
/-- a text or nothing: nothing where it is empty -/
def tV (t : Str) : V := if t = "" then .non else .str t
def spBroken (K : PySem.W.Frag) : Sp := fun vs H Q _ => ∃ (a r : Addr) (arm mod : Nat) (h : Int) (es : List Int) (m p sn : Option Int), vs = [.ref a, .int h, .ref r, oV m, oV p, oV sn] ∧ BookAt K H a arm mod ∧ arm ≤ 1000 ∧ mod ≤ 1000 ∧ SqT K H r (es.map V.int) ∧ es.length ≤ 900 ∧ h.natAbs ≤ 1000000 ∧ (h = 1 → m ≠ none) ∧ (2 ≤ h → p ≠ none) ∧ m.getD 0 < 1073741824 ∧ p.getD 0 < 1073741824 ∧ ∀ H', Same H H' → Q (tV (brk arm mod h es m p sn)) H'
theorem ok_broken (B : Bi K mg) (c_rims_stand : C8.Cal P w K mg base 1 "rims_stand" (spRimsOk K) []) (c_sum_stands : C8.Cal P w K mg base 2 "sum_stands" (spSumOk K) []) (c_measure_stands : C8.Cal P w K mg base 2 "measure_stands" (spMeasOk K) []) (c_share_stands : C8.Cal P w K mg base 1 "share_stands" (spShareOk K) []) (c_balance_stands : C8.Cal P w K mg base 2 "balance_stands" (spBalOk K) []) (F : FnP K "broken_count" st_broken_count f fd) : FnOk P w K mg base CX0 3 f fd ["book", "handles", "rims", "measure", "share", "balance"] (spBroken K) := by
  refine F.ok sc_broken_count (fun vs H Q E h => ?_) (fun cdv A outer s H vs Q E hr h => ?_)
  · obtain ⟨a, r, arm, mod, hh, es, m, p, sn, rfl, _⟩ := h
    rfl
  · obtain ⟨a, r, arm, mod, hh, es, m, p, sn, rfl, hB, h1, h2, hR, hl, hhb, hm1, hp2, hm, hp, k⟩ := h
    have G := B
    refine ⟨_, PSs.nox ((pss_cons (ps_if (pt_not (pt_val (C8.pe_c c_rims_stand hr (by decide) rfl (pa_cons (pv 0) (pa_cons (pv 2) pa_nil)))))
        (pss_one (ps_ret pe_str))
        pss_nil)
      (pss_cons (ps_if (pt_not (pt_val (C8.pe_c c_sum_stands hr (by decide) rfl (pa_cons (pv 0) (pa_cons (pv 1) (pa_cons (pv 2) pa_nil))))))
        (pss_one (ps_ret pe_str))
        pss_nil)
      (pss_cons (ps_if (PW.pt (pw_and (pt_cmpR op_eq (pv 1) pe_int (nomark _)) (pw_and1 (pt_not (pt_val (C8.pe_c c_measure_stands hr (by decide) rfl (pa_cons (pv 0) (pa_cons (pv 2) (pa_cons (pv 3) pa_nil)))))))))
        (pss_one (ps_ret pe_str))
        pss_nil)
      (pss_cons (ps_if (PW.pt (pw_and (pt_cmpR op_ge (pv 1) pe_int (nomark _)) (pw_and1 (pt_not (pt_val (C8.pe_c c_share_stands hr (by decide) rfl (pa_cons (pv 0) (pa_cons (pv 2) (pa_cons (pv 4) pa_nil)))))))))
        (pss_one (ps_ret pe_str))
        pss_nil)
      (pss_cons (ps_if (PW.pt (pw_and (pt_cmpR op_ge (pv 1) pe_int (nomark _)) (pw_and1 (pt_not (pt_val (C8.pe_c c_balance_stands hr (by decide) rfl (pa_cons (pv 0) (pa_cons (pv 2) (pa_cons (pv 4) (pa_cons (pv 5) pa_nil))))))))))
        (pss_one (ps_ret pe_str))
        pss_nil)
      (pss_one (ps_ret pe_non)))))))), ?_⟩
    try dsimp only [cxOf]
    walk_at "go"
    refine ⟨a, r, arm, mod, es, rfl, hB, hR, hl, fun H1 s1 b hb => ?_⟩
    unfold brk at k
    cases b with
    | false =>
      have hn : ¬RimsOk mod es := fun z => by have := hb.mpr z; cases this
      rw [if_pos hn] at k
      walk_at "go"
      exact k H1 s1
    | true =>
    have hy := hb.mp rfl
    rw [if_neg (fun z => z hy)] at k
    walk_at "go"
    refine ⟨a, r, arm, mod, hh, es, rfl, hB.same s1, h1, h2, Same.sqt s1 hR, hhb, fun b2 hb2 => ?_⟩
    cases b2 with
    | false =>
      have hn : ¬SumOk arm mod hh es := fun z => by have := hb2.mpr z; cases this
      rw [if_pos hn] at k
      walk_at "go"
      exact k H1 s1
    | true =>
    have hy2 := hb2.mp rfl
    rw [if_neg (fun z => z hy2)] at k
    walk_at "go"
    by_cases c1 : hh = 1
    · obtain ⟨mv, rfl⟩ := Option.ne_none_iff_exists'.mp (hm1 c1)
      rw [if_pos c1] at k
      simp only [Option.getD_some] at k hm
      rw [decide_eq_true c1]
      walk_at "go"
      refine ⟨a, r, arm, mod, es, mv, rfl, hB.same s1, h1, h2, Same.sqt s1 hR, hl, hm, fun H2 s2 b3 hb3 => ?_⟩
      have s12 := Same.trans s1 s2
      cases b3 with
      | false =>
        have hn : ¬MeasOk arm mod es mv := fun z => by have := hb3.mpr z; cases this
        rw [if_neg hn] at k
        walk_at "go"
        exact k H2 s12
      | true =>
        rw [if_pos (hb3.mp rfl)] at k
        walk_at "go"
        rw [decide_eq_false (show ¬ 2 ≤ hh by omega)]
        walk_at "go"
        rw [decide_eq_false (show ¬ 2 ≤ hh by omega)]
        walk_at "go"
        exact k H2 s12
    · rw [if_neg c1] at k
      rw [decide_eq_false c1]
      walk_at "go"
      by_cases c2 : 2 ≤ hh
      · obtain ⟨pv', rfl⟩ := Option.ne_none_iff_exists'.mp (hp2 c2)
        rw [if_neg (show ¬ hh < 2 by omega)] at k
        simp only [Option.getD_some] at k hp
        rw [decide_eq_true c2]
        walk_at "go"
        refine ⟨a, r, arm, mod, es, pv', rfl, hB.same s1, Same.sqt s1 hR, hl, hp, fun H2 s2 b3 hb3 => ?_⟩
        have s12 := Same.trans s1 s2
        cases b3 with
        | false =>
          have hn : ¬ShareOk arm mod es pv' := fun z => by have := hb3.mpr z; cases this
          rw [if_pos hn] at k
          walk_at "go"
          exact k H2 s12
        | true =>
          have hy3 := hb3.mp rfl
          rw [if_neg (fun z => z hy3)] at k
          walk_at "go"
          rw [decide_eq_true c2]
          walk_at "go"
          refine ⟨a, r, arm, mod, es, pv', sn, rfl, hB.same s12, Same.sqt s12 hR, hl, hy3.1, hp, fun H3 s3 b4 hb4 => ?_⟩
          have s13 := Same.trans s12 s3
          cases b4 with
          | false =>
            have hn : ¬BalOk arm mod es pv' sn := fun z => by have := hb4.mpr z; cases this
            rw [if_neg hn] at k
            walk_at "go"
            exact k H3 s13
          | true =>
            rw [if_pos (hb4.mp rfl)] at k
            walk_at "go"
            exact k H3 s13
      · rw [if_pos (show hh < 2 by omega)] at k
        rw [decide_eq_false c2]
        walk_at "go"
        rw [decide_eq_false c2]
        walk_at "go"
        exact k H1 s1
theorem x_isN {K : PySem.W.Frag} {H : Hp} {Q : VK} {n : String} {b : Bool} (e : PySem.W.kitOne K (.type "NoneType") (.type n) = some b) (k : Q (.bl b) H) : rIsi K [.non, .ty n] H Q := x_isTy .non e k
theorem x_raise2 {C : Addr} {g g' : Str} {W : WX} {ta : TA} {D : Ends} {σ : L2.St} {H : Hp} (h : ta σ H fun vs H1 => ∃ v u, vs = [v, u] ∧ ∀ d, H1 d = none → W (.ref C) (some d) σ (upd H1 d (.xd [(g', u), (g, v)]))) : tRaise2 C g g' W ta D σ H := h
def spIll : Sp := fun vs H Q _ => ∃ (h : Int) (m p sn : Option Int), vs = [.int h, oV m, oV p, oV sn] ∧ ∀ (v : V) H', Same H H' → (Formed h m p sn → v = .non) → (¬Formed h m p sn → ∃ t : Str, v = .str t ∧ t ≠ "") → Q v H'
theorem oV_none (m : Option Int) : decide (oV m = V.non) = !m.isSome := by
  cases m with
  | none => exact decide_eq_true rfl
  | some z => exact decide_eq_false fun e => by cases e
theorem ok_ill (B : Bi K mg) (F : FnP K "ill_formed" st_ill_formed f fd) : FnOk P w K mg base CX0 1 f fd ["handles", "measure", "share", "balance"] spIll := by
  refine F.ok sc_ill_formed (fun vs H Q E h => ?_) (fun cdv A outer s H vs Q E hr h => ?_)
  · obtain ⟨h, m, p, sn, rfl, _⟩ := h
    rfl
  · obtain ⟨hh, m, p, sn, rfl, k⟩ := h
    have G := B
    refine ⟨_, PSs.nox ((pss_cons (ps_if (pt_cmpR op_lt (pv 0) pe_int (nomark _))
        (pss_one (ps_ret pe_str))
        pss_nil)
      (pss_cons (ps_if (pt_cmpR op_eq (pe_cmpR op_isNn (pv 1) pe_non (nomark _)) (pe_cmpR op_eq (pv 0) pe_int (nomark _)) (nomark _))
        (pss_one (ps_ret pe_str))
        pss_nil)
      (pss_cons (ps_if (pt_cmpR op_eq (pe_cmpR op_isNn (pv 2) pe_non (nomark _)) (pe_cmpR op_ge (pv 0) pe_int (nomark _)) (nomark _))
        (pss_one (ps_ret pe_str))
        pss_nil)
      (pss_cons (ps_if (pt_cmpR op_isNn (pv 3) pe_non (nomark _))
        (pss_one (ps_ret pe_non))
        pss_nil)
      (pss_cons (ps_if (pt_cmpR op_lt (pv 0) pe_int (nomark _))
        (pss_one (ps_ret pe_str))
        pss_nil)
      (pss_cons (ps_if (PW.pt (pw_or (pt_val (pe_callB call_isi (by rfl) G.isinstance (by decide +kernel) (pa_cons (pv 3) (pa_cons (pe_bltn (v := .ty "bool") (u := .type "bool") (by rfl) G.bool (by decide +kernel) rfl) pa_nil)))) (pw_or1 (pt_cmpR op_notIn_seq (pv 3) (pe_tup (pa_cons pe_int (pa_cons pe_int (pa_cons (pe_un un_neg pe_int) pa_nil)))) (by rfl)))))
        (pss_one (ps_ret pe_str))
        pss_nil)
      (pss_one (ps_ret pe_non))))))))), ?_⟩
    try dsimp only [cxOf]
    have bad : ∀ t : Str, t ≠ "" → ¬Formed hh m p sn → Q (.str t) H := fun t ht hn => k _ H (Same.refl _) (fun z => absurd z hn) fun _ => ⟨t, rfl, ht⟩
    unfold Formed at bad
    walk_at "go"
    refine x_iteD (fun c1 => ?_) (fun c1 => ?_)
    · walk_at "go"
      exact bad _ (by decide +kernel) fun z => by omega
    walk_at "go"
    rw [oV_none]
    by_cases c2 : m.isSome = true ↔ hh = 1
    · have e2 : decide ((!m.isSome) = decide (hh = 1)) = false := by
        refine decide_eq_false fun z => ?_
        cases hm : m.isSome with
        | false => rw [hm] at z c2; have := of_decide_eq_true z.symm; exact absurd (c2.mpr this) (by decide)
        | true => rw [hm] at z c2; have := of_decide_eq_false z.symm; exact this (c2.mp rfl)
      rw [e2]
      walk_at "go"
      rw [oV_none]
      by_cases c3 : p.isSome = true ↔ 2 ≤ hh
      · have e3 : decide ((!p.isSome) = decide (2 ≤ hh)) = false := by
          refine decide_eq_false fun z => ?_
          cases hm : p.isSome with
          | false => rw [hm] at z c3; have := of_decide_eq_true z.symm; exact absurd (c3.mpr this) (by decide)
          | true => rw [hm] at z c3; have := of_decide_eq_false z.symm; exact this (c3.mp rfl)
        rw [e3]
        walk_at "go"
        cases sn with
        | none =>
          rw [decide_eq_true (show oV none = V.non from rfl)]
          walk_at "go"
          exact k _ H (Same.refl _) (fun _ => rfl) fun z => absurd ⟨by omega, c2, c3, .inl rfl⟩ z
        | some z =>
          rw [decide_eq_false (show ¬ oV (some z) = V.non from fun e => by cases e)]
          walk_at "go"
          refine x_iteD (fun c4 => ?_) (fun c4 => ?_)
          · walk_at "go"
            refine bad _ (by decide +kernel) fun q => ?_
            rcases q.2.2.2 with e | e
            · cases e
            · omega
          · walk_at "go"
            refine Cb.x_isIB (i := z) ?_
            walk_at "go"
            refine ⟨by show 3 ≤ sizeLine; decide, fun q hq => ?_⟩
            refine ⟨q, [.int 1, .int 0, .int (-1)], rfl, .inr (SqT.of upd_same), rfl, rfl, ?_⟩
            have ein : inV (oV (some z)) [.int 1, .int 0, .int (-1)] = decide (z = 1 ∨ z = 0 ∨ z = -1) := by
              show inV (.int z) [.int 1, .int 0, .int (-1)] = _
              rw [Bool.eq_iff_iff, decide_eq_true_iff]
              simp [inV, eqV]
              omega
            rw [if_pos rfl, ein]
            by_cases c5 : z = 1 ∨ z = 0 ∨ z = -1
            · rw [decide_eq_true c5]
              walk_at "go"
              refine k _ _ (Same.new hq) (fun _ => rfl) fun n => absurd ⟨by omega, c2, c3, .inr ⟨by omega, ?_⟩⟩ n
              rcases c5 with e | e | e
              · exact .inl (by rw [e])
              · exact .inr (.inl (by rw [e]))
              · exact .inr (.inr (by rw [e]))
            · rw [decide_eq_false c5]
              walk_at "go"
              refine k _ _ (Same.new hq) (fun n => ?_) fun _ => ⟨_, rfl, by decide +kernel⟩
              refine absurd n.2.2.2 fun e => ?_
              rcases e with e | ⟨_, e | e | e⟩
              · cases e
              · cases e; exact c5 (.inl rfl)
              · cases e; exact c5 (.inr (.inl rfl))
              · cases e; exact c5 (.inr (.inr rfl))
      · have e3 : decide ((!p.isSome) = decide (2 ≤ hh)) = true := by
          refine decide_eq_true ?_
          cases hm : p.isSome with
          | false => rw [hm] at c3; by_cases d : 2 ≤ hh; · rw [decide_eq_true d]; rfl
                     · exact absurd ⟨fun z => (by cases z), fun z => absurd z d⟩ c3
          | true => rw [hm] at c3; by_cases d : 2 ≤ hh; · exact absurd ⟨fun _ => d, fun _ => rfl⟩ c3
                    · rw [decide_eq_false d]; rfl
        rw [e3]
        walk_at "go"
        exact bad _ (by decide +kernel) fun z => c3 z.2.2.1
    · have e2 : decide ((!m.isSome) = decide (hh = 1)) = true := by
        refine decide_eq_true ?_
        cases hm : m.isSome with
        | false => rw [hm] at c2; by_cases d : hh = 1; · rw [decide_eq_true d]; rfl
                   · exact absurd ⟨fun z => (by cases z), fun z => absurd z d⟩ c2
        | true => rw [hm] at c2; by_cases d : hh = 1; · exact absurd ⟨fun _ => d, fun _ => rfl⟩ c2
                  · rw [decide_eq_false d]; rfl
      rw [e2]
      walk_at "go"
      exact bad _ (by decide +kernel) fun z => c2 z.2.1
/-- a kind of the program -/
def KindAt (K : PySem.W.Frag) (H : Hp) (a : Addr) (arm mod : Nat) (h : Int) (es : List Int) (m p sn : Option Int) : Prop := ∃ dx bk r : Addr, H a = some (.ins (He.ga K "Kind") dx [("book", .ref bk), ("handles", .int h), ("rims", .ref r), ("measure", oV m), ("share", oV p), ("balance", oV sn)]) ∧ BookAt K H bk arm mod ∧ H r = some (.tup (es.map V.int))
theorem KindAt.same {K : PySem.W.Frag} {H H' : Hp} {a : Addr} {arm mod : Nat} {h : Int} {es : List Int} {m p sn : Option Int} (x : KindAt K H a arm mod h es m p sn) (s : Same H H') : KindAt K H' a arm mod h es m p sn := by
  obtain ⟨dx, bk, r, h1, h2, h3⟩ := x
  exact ⟨dx, bk, r, s _ _ h1, h2.same s, s _ _ h3⟩
abbrev FnK (K : PySem.W.Frag) (f : Addr) (fd : FuncData) : Prop := FunD K "__init__" "Kind.__init__" (defArgs st_Kind_init) (defBody st_Kind_init) (defScope st_Kind_init) [] [("measure", .non), ("share", .non), ("balance", .non)] f fd
def spKind (K : PySem.W.Frag) : Sp := fun vs H Q E => ∃ (a dx bk rp : Addr) (arm mod : Nat) (h : Int) (es : List Int) (m p sn : Option Int), vs = [.ref a, .ref bk, .int h, .ref rp, oV m, oV p, oV sn] ∧ H a = some (.ins (He.ga K "Kind") dx []) ∧ BookAt K H bk arm mod ∧ arm ≤ 1000 ∧ mod ≤ 1000 ∧ (H rp = some (.lst (es.map V.int)) ∨ H rp = some (.tup (es.map V.int))) ∧ es.length ≤ 900 ∧ h.natAbs ≤ 1000000 ∧ m.getD 0 < 1073741824 ∧ p.getD 0 < 1073741824 ∧
  (Formed h m p sn → brk arm mod h es m p sn = "" → ∀ H', Kp a H H' → KindAt K H' a arm mod h es m p sn → Q .non H') ∧
  (¬Formed h m p sn → ∀ (why : Str) d H', why ≠ "" → Kp a H H' → H' d = some (.xd [("why", .str why), ("line", .int 0)]) → E (.ref (He.ga K "BadKind")) (some d) H') ∧
  (Formed h m p sn → brk arm mod h es m p sn ≠ "" → ∀ d H', Kp a H H' → H' d = some (.xd [("count", .str (brk arm mod h es m p sn))]) → E (.ref (He.ga K "NotOne")) (some d) H')
theorem ok_kind (B : Bi K mg) (EB : Er2 P K mg "BadKind" (He.ga K "BadKind") "line" "why") (EN : Er1 P K mg "NotOne" (He.ga K "NotOne") "count") (c_ill_formed : C8.Cal P w K mg base 1 "ill_formed" spIll []) (c_broken_count : C8.Cal P w K mg base 3 "broken_count" (spBroken K) []) (F : FnK K f fd) : FnOk P w K mg base (L2N.CX P w) 4 f fd ["self", "book", "handles", "rims", "measure", "share", "balance"] (spKind K) := by
  refine ok_outN (fun_ofD F) sc_Kind_init (fun vs H Q E h => ?_) (fun cdv A outer s H vs Q E hr h => ?_)
  · obtain ⟨a, dx, bk, rp, arm, mod, hh, es, m, p, sn, rfl, _⟩ := h
    rfl
  · obtain ⟨a, dx, bk, rp, arm, mod, hh, es, m, p, sn, rfl, ha, hB, h1, h2, hrp, hl, hhb, hm, hp, k1, k2, k3⟩ := h
    have G := B
    have cK := G.cls_Kind
    have n1 := G.na_Kind_book
    have n2 := G.na_Kind_handles
    have n3 := G.na_Kind_rims
    have n4 := G.na_Kind_measure
    have n5 := G.na_Kind_share
    have n6 := G.na_Kind_balance
    refine ⟨_, ((pss_cons (ps_set (i := 7) sc_Kind_init.nd rfl (Or.inl rfl) (C8.pe_c c_ill_formed hr (by decide) rfl (pa_cons (pv 2) (pa_cons (pv 4) (pa_cons (pv 5) (pa_cons (pv 6) pa_nil))))))
      (pss_cons (ps_if (pt_cmpR op_noNn (pv 7) pe_non (nomark _))
        (pss_one (ps_raise2 rfl EB hr (L2N.takes_of rfl rfl rfl rfl) (by exact (pa_cons pe_int (pa_cons (pv 7) pa_nil)))))
        pss_nil)
      (pss_cons (ps_fld (pv 0) (pv 1) rfl)
      (pss_cons (ps_fld (pv 0) (pv 2) rfl)
      (C8.pss_cut (ps_fld (pv 0) (pe_callTy (call_tupOf rfl) (by rfl) G.tuple (by decide +kernel) (pa_cons (pv 3) pa_nil)) rfl)
      (pss_cons (ps_fld (pv 0) (pv 4) rfl)
      (pss_cons (ps_fld (pv 0) (pv 5) rfl)
      (pss_cons (ps_fld (pv 0) (pv 6) rfl)
      (pss_cons (ps_set (i := 8) sc_Kind_init.nd rfl (Or.inl rfl) (C8.pe_c c_broken_count hr (by decide) rfl (pa_cons (pv 1) (pa_cons (pv 2) (pa_cons (pe_fld (pv 0) (by rfl)) (pa_cons (pv 4) (pa_cons (pv 5) (pa_cons (pv 6) pa_nil))))))))
      (pss_one (ps_if (pt_cmpR op_noNn (pv 8) pe_non (nomark _))
        (pss_one (ps_raise1 rfl EN hr (L2N.takes_of rfl rfl rfl rfl) (by exact (pa_cons (pv 8) pa_nil))))
        pss_nil)))))))))))), ?_⟩
    try dsimp only [cxOf]
    walk_at "go"
    refine ⟨hh, m, p, sn, rfl, fun v H1 s1 v1 v2 => ?_⟩
    walk_at "go"
    by_cases hf : Formed hh m p sn
    · have := v1 hf
      subst this
      rw [decide_eq_true rfl]
      walk_at "go"
      obtain ⟨dxb, hB0⟩ := id hB
      have bka : bk ≠ a := ne_of_some hB0 ha (by intro z; injection z with _ _ z3; cases z3)
      have ha1 := s1 _ _ ha
      refine x_sfldI (fs' := [("book", .ref bk)]) ha1 cK n1 rfl (by decide) ?_
      walk_at "go"
      refine x_sfldI (fs' := [("book", .ref bk), ("handles", .int hh)]) upd_same cK n2 rfl (by show 1 < 1000; decide) ?_
      rw [upd_upd]
      have kp1 : Kp a H (upd H1 a (.ins (He.ga K "Kind") dx [("book", .ref bk), ("handles", .int hh)])) := Kp.upd (Kp.of s1)
      have ha2 : (upd H1 a (.ins (He.ga K "Kind") dx [("book", .ref bk), ("handles", .int hh)])) a = some (.ins (He.ga K "Kind") dx [("book", .ref bk), ("handles", .int hh)]) := upd_same
      revert kp1 ha2
      generalize upd H1 a (.ins (He.ga K "Kind") dx [("book", .ref bk), ("handles", .int hh)]) = H2
      intro kp1 ha2
      refine x_cut (fun σ H' => ∃ r : Addr, r ≠ a ∧ Kp a H H' ∧ H' r = some (.tup (es.map V.int)) ∧ H' a = some (.ins (He.ga K "Kind") dx [("book", .ref bk), ("handles", .int hh), ("rims", .ref r)]) ∧ σ = [some (.ref a), some (.ref bk), some (.int hh), some (.ref rp), some (oV m), some (oV p), some (oV sn), some .non, none]) ?_ ?_
      · rcases hrp with hrp | hrp
        · have rpa : rp ≠ a := ne_of_some hrp ha (by intro z; cases z)
          have hrp2 := kp1 _ _ rpa hrp
          walk_at "go"
          refine x_tupL (SqL.of hrp2) fun q hq => ?_
          have qa : q ≠ a := fun e => by rw [e, ha2] at hq; cases hq
          walk_at "go"
          refine x_sfldI (fs' := [("book", .ref bk), ("handles", .int hh), ("rims", .ref q)]) (upd_old hq ha2) cK n3 rfl (by show 2 < 1000; decide) ?_
          exact ⟨q, qa, Kp.upd (Kp.trans kp1 (Kp.of (Same.new hq))), by rw [upd_ne qa]; exact upd_same, upd_same, rfl⟩
        · have rpa : rp ≠ a := ne_of_some hrp ha (by intro z; cases z)
          have hrp2 := kp1 _ _ rpa hrp
          walk_at "go"
          refine x_tupT (SqT.of hrp2) ?_
          walk_at "go"
          refine x_sfldI (fs' := [("book", .ref bk), ("handles", .int hh), ("rims", .ref rp)]) ha2 cK n3 rfl (by show 2 < 1000; decide) ?_
          exact ⟨rp, rpa, Kp.upd kp1, by rw [upd_ne rpa]; exact hrp2, upd_same, rfl⟩
      rintro σ H3 ⟨r, ra, kp3, hr3, ha3, rfl⟩
      walk_at "go"
      refine x_sfldI (fs' := [("book", .ref bk), ("handles", .int hh), ("rims", .ref r), ("measure", oV m)]) ha3 cK n4 rfl (by show 3 < 1000; decide) ?_
      walk_at "go"
      refine x_sfldI (fs' := [("book", .ref bk), ("handles", .int hh), ("rims", .ref r), ("measure", oV m), ("share", oV p)]) upd_same cK n5 rfl (by show 4 < 1000; decide) ?_
      rw [upd_upd]
      walk_at "go"
      refine x_sfldI (fs' := [("book", .ref bk), ("handles", .int hh), ("rims", .ref r), ("measure", oV m), ("share", oV p), ("balance", oV sn)]) upd_same cK n6 rfl (by show 5 < 1000; decide) ?_
      rw [upd_upd]
      have kp4 : Kp a H (upd H3 a (.ins (He.ga K "Kind") dx [("book", .ref bk), ("handles", .int hh), ("rims", .ref r), ("measure", oV m), ("share", oV p), ("balance", oV sn)])) := Kp.upd kp3
      have ha4 : (upd H3 a (.ins (He.ga K "Kind") dx [("book", .ref bk), ("handles", .int hh), ("rims", .ref r), ("measure", oV m), ("share", oV p), ("balance", oV sn)])) a = some (.ins (He.ga K "Kind") dx [("book", .ref bk), ("handles", .int hh), ("rims", .ref r), ("measure", oV m), ("share", oV p), ("balance", oV sn)]) := upd_same
      have hr4 : (upd H3 a (.ins (He.ga K "Kind") dx [("book", .ref bk), ("handles", .int hh), ("rims", .ref r), ("measure", oV m), ("share", oV p), ("balance", oV sn)])) r = some (.tup (es.map V.int)) := by rw [upd_ne ra]; exact hr3
      revert kp4 ha4 hr4
      generalize upd H3 a (.ins (He.ga K "Kind") dx [("book", .ref bk), ("handles", .int hh), ("rims", .ref r), ("measure", oV m), ("share", oV p), ("balance", oV sn)]) = H4
      intro kp4 ha4 hr4
      have hB4 : BookAt K H4 bk arm mod := ⟨dxb, kp4 _ _ bka hB0⟩
      walk_at "go"
      have hf' := hf
      unfold Formed at hf'
      refine ⟨bk, r, arm, mod, hh, es, m, p, sn, rfl, hB4, h1, h2, SqT.of hr4, hl, hhb, fun e => ?_, fun e => ?_, hm, hp, fun H5 s5 => ?_⟩
      · have := hf'.2.1.mpr e
        intro z; rw [z] at this; cases this
      · have := hf'.2.2.1.mpr e
        intro z; rw [z] at this; cases this
      have kp5 := Kp.trans kp4 (Kp.of s5)
      walk_at "go"
      unfold tV
      by_cases hb : brk arm mod hh es m p sn = ""
      · rw [if_pos hb]
        rw [decide_eq_true rfl]
        walk_at "go"
        exact k1 hf hb H5 kp5 ⟨dx, bk, r, s5 _ _ ha4, hB4.same s5, s5 _ _ hr4⟩
      · rw [if_neg hb]
        rw [decide_eq_false (fun z => by cases z)]
        walk_at "go"
        refine x_raise1 ?_
        walk_at "go"
        exact ⟨_, rfl, fun d hd => k3 hf hb d _ (Kp.trans kp5 (Kp.of (Same.new hd))) upd_same⟩
    · obtain ⟨t, rfl, ht⟩ := v2 hf
      rw [decide_eq_false (fun z => by cases z)]
      walk_at "go"
      refine x_raise2 ?_
      walk_at "go"
      exact ⟨_, _, rfl, fun d hd => k2 hf t d _ ht (Kp.trans (Kp.of s1) (Kp.of (Same.new hd))) upd_same⟩
/-! ### lists of ints compared -/
theorem eqv_ints : ∀ (ns ms : List Int), PyData.eqvAll (ns.map PyData.int) (ms.map PyData.int) = decide (ns = ms)
  | [], [] => by simp [PyData.eqvAll]
  | [], _ :: _ => by simp [PyData.eqvAll]
  | _ :: _, [] => by simp [PyData.eqvAll]
  | n :: ns, m :: ms => by
    have := eqv_ints ns ms
    simp only [List.map_cons, PyData.eqvAll, PyData.eqv, this]
    rw [Bool.eq_iff_iff, Bool.and_eq_true, beq_iff_eq, decide_eq_true_iff, decide_eq_true_iff, List.cons.injEq]
theorem lay_ints : ∀ ns : List Int, PyData.canLayAll0 (ns.map PyData.int) = true
  | [] => by simp only [List.map_nil, PyData.canLayAll0]
  | n :: ns => by
    have := lay_ints ns
    simp only [List.map_cons, PyData.canLayAll0, PyData.canLay0, Bool.and_eq_true, true_and]
    exact this
theorem dep_ints : ∀ ns : List Int, PyData.depthAll (ns.map PyData.int) = 0
  | [] => by simp only [List.map_nil, PyData.depthAll]
  | n :: ns => by
    have := dep_ints ns
    simp only [List.map_cons, PyData.depthAll, PyData.depth, this]
    rfl
theorem shaped_ints (ns : List Int) : SeqAt.shaped (.list (ns.map PyData.int)) = true := by
  unfold SeqAt.shaped
  have g1 : PyData.canLay0 (.list (ns.map PyData.int)) = true := by
    simp only [PyData.canLay0]
    exact lay_ints ns
  have g3 : PyData.depth (.list (ns.map PyData.int)) ≤ 64 := by
    simp only [PyData.depth, dep_ints]
    omega
  rw [g1, Bool.true_and]
  exact decide_eq_true g3
theorem dp_ints {K : PySem.W.Frag} {H : Hp} : ∀ ns : List Int, DpAll K H (ns.map V.int) (ns.map PyData.int)
  | [] => .nil
  | n :: ns => .cons (.int n) (dp_ints ns)
theorem x_eqIL {K : PySem.W.Frag} {H : Hp} {Q : VK} {p q : Addr} {ns ms : List Int} (hp : SqL K H p (ns.map V.int)) (hq : SqL K H q (ms.map V.int)) (k : Q (.bl (decide (ns = ms))) H) : rEqD K (.ref p) (.ref q) H Q :=
  ⟨.list (ns.map PyData.int), .list (ms.map PyData.int), .lst hp (dp_ints ns), .lst hq (dp_ints ms), shaped_ints ns, shaped_ints ms, by rw [show PyData.eqv (.list (ns.map PyData.int)) (.list (ms.map PyData.int)) = decide (ns = ms) by simp only [PyData.eqv]; exact eqv_ints ns ms]; exact k⟩
theorem x_neIL {K : PySem.W.Frag} {H : Hp} {Q : VK} {p q : Addr} {ns ms : List Int} (hp : SqL K H p (ns.map V.int)) (hq : SqL K H q (ms.map V.int)) (k : Q (.bl (!decide (ns = ms))) H) : rNeD K (.ref p) (.ref q) H Q :=
  ⟨.list (ns.map PyData.int), .list (ms.map PyData.int), .lst hp (dp_ints ns), .lst hq (dp_ints ms), shaped_ints ns, shaped_ints ms, by rw [show PyData.eqv (.list (ns.map PyData.int)) (.list (ms.map PyData.int)) = decide (ns = ms) by simp only [PyData.eqv]; exact eqv_ints ns ms]; exact k⟩
theorem sorted_eq {ns ms : List Int} (hp : ms.Perm ns) (hs : ms.Pairwise (· ≤ ·)) : ns = ms ↔ ns.Pairwise (· ≤ ·) :=
  ⟨fun e => e ▸ hs, fun h => (List.Perm.eq_of_pairwise (fun a b _ _ x y => Int.le_antisymm x y) h hs hp.symm)⟩
/-! ### the law's counts -/
structure CtsAt (H : Hp) (c ep : Addr) (h : Int) (es : List Int) (m p sn : Option Int) : Prop where
  c_ : H c = some (.lst [.int h, .ref ep, oV m, oV p, oV sn])
  e_ : H ep = some (.lst (es.map V.int))
theorem CtsAt.same {H H' : Hp} {c ep : Addr} {h : Int} {es : List Int} {m p sn : Option Int} (x : CtsAt H c ep h es m p sn) (s : Same H H') : CtsAt H' c ep h es m p sn := ⟨s _ _ x.c_, s _ _ x.e_⟩
theorem CtsAt.kp {H H' : Hp} {b l c ep : Addr} {h : Int} {es : List Int} {m p sn : Option Int} (x : CtsAt H c ep h es m p sn) (hB : BagAt H b l) (k : Kp b H H') : CtsAt H' c ep h es m p sn := by
  obtain ⟨ns, i, g, e, xx, q, hb, _⟩ := hB.ex
  refine ⟨k _ _ (fun z => ?_) x.c_, k _ _ (fun z => ?_) x.e_⟩
  · have := x.c_
    rw [z, hb] at this
    injection this with this
    injection this with this
    injection this with this _
    cases this
  · have := x.e_
    rw [z, hb] at this
    cases es with
    | nil => cases this
    | cons _ _ => cases this
theorem iff_bool {a : Bool} {P : Prop} [Decidable P] : ((!a) = decide P) ↔ ¬(a = true ↔ P) := by
  cases a <;> by_cases h : P <;> simp [h]
def spFormed : Sp := fun vs H Q _ => ∃ (c ep : Addr) (h : Int) (es : List Int) (m p sn : Option Int), vs = [.ref c] ∧ CtsAt H c ep h es m p sn ∧ ∀ H', Same H H' → Tells (Formed h m p sn) fun b => Q (.bl b) H'
theorem ok_formed (B : Bi K mg) (F : FnP K "_law_formed" st_l_formed f fd) : FnOk P w K mg base CX0 1 f fd ["counts"] spFormed := by
  refine F.ok sc_l_formed (fun vs H Q E h => ?_) (fun cdv A outer s H vs Q E hr h => ?_)
  · obtain ⟨c, ep, h, es, m, p, sn, rfl, _⟩ := h
    rfl
  · obtain ⟨c, ep, hh, es, m, p, sn, rfl, hC, k⟩ := h
    have G := B
    have hc := hC.c_
    refine ⟨_, PSs.nox ((pss_cons (ps_asg (pv 0) (pg_unl rfl (pgs_cons (pg_name (i := 1) sc_l_formed.nd rfl (Or.inl rfl)) (pgs_cons (pg_name (i := 2) sc_l_formed.nd rfl (Or.inl rfl)) (pgs_cons (pg_name (i := 3) sc_l_formed.nd rfl (Or.inl rfl)) (pgs_cons (pg_name (i := 4) sc_l_formed.nd rfl (Or.inl rfl)) (pgs_cons (pg_name (i := 5) sc_l_formed.nd rfl (Or.inl rfl)) pgs_nil)))))))
      (pss_cons (ps_if (PW.pt (pw_or (pt_cmpR op_lt (pv 1) pe_int (nomark _)) (pw_or (pt_cmpR op_eq (pe_cmpR op_isNn (pv 3) pe_non (nomark _)) (pe_cmpR op_eq (pv 1) pe_int (nomark _)) (nomark _)) (pw_or1 (pt_cmpR op_eq (pe_cmpR op_isNn (pv 4) pe_non (nomark _)) (pe_cmpR op_gt (pv 1) pe_int (nomark _)) (nomark _))))))
        (pss_one (ps_ret pe_bl))
        pss_nil)
      (pss_one (ps_ret (pe_or (pe_cmpR op_isNn (pv 5) pe_non (nomark _)) (pe_one (pe_and (pe_cmpR op_gt (pv 1) pe_int (nomark _)) (pe_one (pe_cmpR op_in_seq (pv 5) (pe_lst (pa_cons pe_int (pa_cons pe_int (pa_cons (pe_un un_neg pe_int) pa_nil)))) (by rfl))))))))))), ?_⟩
    try dsimp only [cxOf]
    have bad : ¬Formed hh m p sn → Q (.bl false) H := fun hn => k H (Same.refl _) false ⟨fun z => (by cases z), fun z => absurd z hn⟩
    unfold Formed at bad
    walk_at "go"
    refine x_iteD (fun c1 => ?_) (fun c1 => ?_)
    · walk_at "go"
      exact bad fun z => by omega
    walk_at "go"
    rw [oV_none]
    refine Classical.byCases (p := ¬(m.isSome = true ↔ hh = 1)) (fun c2 => ?_) (fun c2 => ?_)
    · rw [decide_eq_true (iff_bool.mpr c2)]
      walk_at "go"
      exact bad fun z => c2 z.2.1
    rw [decide_eq_false (fun z => c2 (iff_bool.mp z))]
    have c2 := Classical.not_not.mp c2
    walk_at "go"
    rw [oV_none]
    have e2 : (decide (2 < hh + 1)) = decide (1 < hh) := decide_eq_decide.mpr ⟨fun _ => by omega, fun _ => by omega⟩
    refine Classical.byCases (p := ¬(p.isSome = true ↔ 1 < hh)) (fun c3 => ?_) (fun c3 => ?_)
    · rw [decide_eq_true (iff_bool.mpr c3)]
      walk_at "go"
      exact bad fun z => c3 ⟨fun e => by have := z.2.2.1.mp e; omega, fun e => z.2.2.1.mpr (by omega)⟩
    rw [decide_eq_false (fun z => c3 (iff_bool.mp z))]
    have c3 := Classical.not_not.mp c3
    have c3' : p.isSome = true ↔ 2 ≤ hh := ⟨fun e => by have := c3.mp e; omega, fun e => c3.mpr (by omega)⟩
    walk_at "go"
    cases sn with
    | none =>
      rw [decide_eq_true (show oV none = V.non from rfl)]
      walk_at "go"
      exact k H (Same.refl _) true ⟨fun _ => ⟨by omega, c2, c3', .inl rfl⟩, fun _ => rfl⟩
    | some z =>
      rw [decide_eq_false (show ¬ oV (some z) = V.non from fun e => by cases e)]
      walk_at "go"
      by_cases c4 : 1 < hh
      · rw [decide_eq_true c4]
        walk_at "go"
        refine ⟨by show 3 ≤ sizeLine; decide, fun q hq => ?_⟩
        refine ⟨q, [.int 1, .int 0, .int (-1)], rfl, .inl (SqL.of upd_same), rfl, rfl, ?_⟩
        have ein : inV (oV (some z)) [.int 1, .int 0, .int (-1)] = decide (z = 1 ∨ z = 0 ∨ z = -1) := by
          show inV (.int z) [.int 1, .int 0, .int (-1)] = _
          rw [Bool.eq_iff_iff, decide_eq_true_iff]
          simp [inV, eqV]
          omega
        rw [if_neg Bool.false_ne_true, ein]
        refine k _ (Same.new hq) _ ?_
        rw [decide_eq_true_iff]
        constructor
        · rintro (e | e | e)
          · exact ⟨by omega, c2, c3', .inr ⟨by omega, .inl (by rw [e])⟩⟩
          · exact ⟨by omega, c2, c3', .inr ⟨by omega, .inr (.inl (by rw [e]))⟩⟩
          · exact ⟨by omega, c2, c3', .inr ⟨by omega, .inr (.inr (by rw [e]))⟩⟩
        · rintro ⟨_, _, _, e | ⟨_, e | e | e⟩⟩
          · cases e
          · cases e; exact .inl rfl
          · cases e; exact .inr (.inl rfl)
          · cases e; exact .inr (.inr rfl)
      · rw [decide_eq_false c4]
        walk_at "go"
        refine k H (Same.refl _) false ⟨fun z => (by cases z), fun q => ?_⟩
        rcases q.2.2.2 with e | e
        · cases e
        · omega
theorem x_iteVia2 {w : Bool} {A B : Prop} (h : if w = true then A else B) : if w = true then A else B := h
theorem filt_yes {es : List Int} {i : Nat} {e : Int} (he : es[i]? = some e) {P : Int → Bool} (h : P e = true) : ((es.take i).filter P).map V.int ++ [.int e] = ((es.take (i + 1)).filter P).map V.int := by
  rw [take_snoc he, List.filter_append, List.filter_cons_of_pos h, List.map_append]
  rfl
theorem filt_no {es : List Int} {i : Nat} {e : Int} (he : es[i]? = some e) {P : Int → Bool} (h : P e = false) : ((es.take i).filter P).map V.int = ((es.take (i + 1)).filter P).map V.int := by
  rw [take_snoc he, List.filter_append, List.filter_cons_of_neg (by rw [h]; exact Bool.false_ne_true)]
  rw [show List.filter P [] = [] from rfl, List.append_nil]
theorem filt_len {es : List Int} {P : Int → Bool} {n : Nat} (h : es.length ≤ n) : (es.filter P).length ≤ n := Nat.le_trans (List.length_filter_le _ _) h
def spLBroken : Sp := fun vs H Q _ => ∃ (arm mod : Nat) (c ep : Addr) (h : Int) (es : List Int) (m p sn : Option Int), vs = [.int arm, .int mod, .ref c] ∧ CtsAt H c ep h es m p sn ∧ Formed h m p sn ∧ arm ≤ 1000 ∧ mod ≤ 1000 ∧ es.length ≤ 900 ∧ (∀ e ∈ es, e.natAbs ≤ 1000000000) ∧ h.natAbs ≤ 1000000 ∧ m.getD 0 < 1073741824 ∧ p.getD 0 < 1073741824 ∧ ∀ H', Same H H' → Q (.str (brk arm mod h es m p sn)) H'
theorem ok_lbroken (B : Bi K mg) (c_l_red : C8.Cal P w K mg base 1 "_law_red" spRed []) (c_l_divisor : C8.Cal P w K mg base 1 "_law_divisor" (spLDiv K) []) (F : FnP K "_law_broken" st_l_broken f fd) : FnOk P w K mg base CX0 2 f fd ["arm", "mod", "counts"] spLBroken := by
  refine F.ok sc_l_broken (fun vs H Q E h => ?_) (fun cdv A outer s H vs Q E hr h => ?_)
  · obtain ⟨arm, mod, c, ep, hh, es, m, p, sn, rfl, _⟩ := h
    rfl
  · obtain ⟨arm, mod, c, ep, hh, es, m, p, sn, rfl, hC, hF, h1, h2, hl, heb, hhb, hm, hp, k⟩ := h
    have G := B
    have hc := hC.c_
    have he := hC.e_
    refine ⟨_, PSs.nox ((pss_cons (ps_asg (pv 2) (pg_unl rfl (pgs_cons (pg_name (i := 3) sc_l_broken.nd rfl (Or.inl rfl)) (pgs_cons (pg_name (i := 4) sc_l_broken.nd rfl (Or.inl rfl)) (pgs_cons (pg_name (i := 5) sc_l_broken.nd rfl (Or.inr rfl)) (pgs_cons (pg_name (i := 6) sc_l_broken.nd rfl (Or.inr rfl)) (pgs_cons (pg_name (i := 7) sc_l_broken.nd rfl (Or.inl rfl)) pgs_nil)))))))
      (C8.pss_cut (ps_if (PW.pt (pw_or (pt_cmpR (op_eqD hr.units) (pv 4) (pe_lst pa_nil) (nomark _)) (pw_or (pt_cmpR (op_neD hr.units) (pv 4) (pe_callB cr_sortedI (by rfl) G.sorted (by decide +kernel) (pa_cons (pv 4) pa_nil)) (nomark _)) (pw_or1 (PW.pt (pw_and (pt_cmpR op_gt (pv 1) pe_int (nomark _)) (pw_and1 (pt_cmpR (op_neD hr.units) (pe_lc (own := [("num", 11)]) rfl sc_l_broken.nd (pi_list (pv 4)) (blkOk_by (own := [("num", 11)]) (N := ["arm", "mod", "counts", "hands", "edges", "meas", "part", "sign", "things", "wrong", "zero", "num"]) (sc := defScope st_l_broken) (by decide +kernel)) (fun _ _ _ _ _ => (pg_name (i := 11) sc_l_broken.nd rfl (Or.inl rfl))) (fun _ _ _ _ _ => (pts_one (pt_not (pt_chain op_le op_lt pe_int (pv 11) (pv 1))))) (fun _ _ _ _ _ => (pv 11))) (pe_lst pa_nil) (nomark _)))))))))
        (pss_one (ps_ret pe_str))
        pss_nil)
      (pss_cons (ps_if (pt_cmpR op_ne (C8.pe_c c_l_red hr (by decide) rfl (pa_cons (pv 1) (pa_cons (pe_op op_sub (pe_callB (cr_sum rfl) (by rfl) G.sum (by decide +kernel) (pa_cons (pv 4) pa_nil)) (pe_op op_mul (pv 0) (pe_op op_sub (pe_op op_sub pe_int (pe_op op_mul pe_int (pv 3))) (pe_callB callLenS (by rfl) G.len PySem.boot_len (pa_cons (pv 4) pa_nil))))) pa_nil))) pe_int (nomark _))
        (pss_one (ps_ret pe_str))
        pss_nil)
      (pss_cons (ps_if (pt_cmpR op_eq (pv 3) pe_int (nomark _))
        (pss_cons (ps_set (i := 8) sc_l_broken.nd rfl (Or.inl rfl) (pe_op op_cat (pe_lst (pa_cons (pv 1) pa_nil)) (pe_lc (own := [("num", 11)]) rfl sc_l_broken.nd (pi_list (pv 4)) (blkOk_by (own := [("num", 11)]) (N := ["arm", "mod", "counts", "hands", "edges", "meas", "part", "sign", "things", "wrong", "zero", "num"]) (sc := defScope st_l_broken) (by decide +kernel)) (fun _ _ _ _ _ => (pg_name (i := 11) sc_l_broken.nd rfl (Or.inl rfl))) (fun _ _ _ _ _ => pts_nil) (fun _ _ _ _ _ => (pe_op op_add (pv 11) (pv 0))))))
        (pss_cons (ps_set (i := 9) sc_l_broken.nd rfl (Or.inl rfl) (pe_or (pe_cmpR op_lt (pv 5) pe_int (nomark _)) (pe_or (pe_and (pe_cmpR op_eq (pv 5) pe_int (nomark _)) (pe_one (pe_cmpR op_ne (C8.pe_c c_l_divisor hr (by decide) rfl (pa_cons (pv 8) pa_nil)) pe_int (nomark _)))) (pe_one (pe_and (pe_cmpR op_gt (pv 5) pe_int (nomark _)) (pe_one (pe_cmpR (op_neD hr.units) (pe_lc (own := [("num", 11)]) rfl sc_l_broken.nd (pi_list (pv 8)) (blkOk_by (own := [("num", 11)]) (N := ["arm", "mod", "counts", "hands", "edges", "meas", "part", "sign", "things", "wrong", "zero", "num"]) (sc := defScope st_l_broken) (by decide +kernel)) (fun _ _ _ _ _ => (pg_name (i := 11) sc_l_broken.nd rfl (Or.inl rfl))) (fun _ _ _ _ _ => (pts_one (pt_cmpR op_ne (pe_op op_mod (pe_callTy call_intI (by rfl) G.int (by decide +kernel) (pa_cons (pv 11) pa_nil)) (pv 5)) pe_int (nomark _)))) (fun _ _ _ _ _ => (pv 11))) (pe_lst pa_nil) (nomark _))))))))
        (pss_one (ps_ret (pe_ifExp (pt_val (pv 9)) pe_str pe_str)))))
        pss_nil)
      (pss_cons (ps_if (pt_cmpR op_lt (pv 3) pe_int (nomark _))
        (pss_one (ps_ret pe_str))
        pss_nil)
      (pss_cons (ps_if (PW.pt (pw_or (pt_cmpR op_lt (pv 6) pe_int (nomark _)) (pw_or1 (pt_cmpR (op_neD hr.units) (pe_lc (own := [("num", 11)]) rfl sc_l_broken.nd (pi_list (pe_op op_cat (pe_lst (pa_cons (pv 0) (pa_cons (pv 1) pa_nil))) (pv 4))) (blkOk_by (own := [("num", 11)]) (N := ["arm", "mod", "counts", "hands", "edges", "meas", "part", "sign", "things", "wrong", "zero", "num"]) (sc := defScope st_l_broken) (by decide +kernel)) (fun _ _ _ _ _ => (pg_name (i := 11) sc_l_broken.nd rfl (Or.inl rfl))) (fun _ _ _ _ _ => (pts_one (pt_cmpR op_ne (pe_op op_mod (pe_callTy call_intI (by rfl) G.int (by decide +kernel) (pa_cons (pv 11) pa_nil)) (pv 6)) pe_int (nomark _)))) (fun _ _ _ _ _ => (pv 11))) (pe_lst pa_nil) (nomark _)))))
        (pss_one (ps_ret pe_str))
        pss_nil)
      (pss_cons (ps_if (PW.pt (pw_or (pt_cmpR op_eq (pe_op op_mod (pe_callTy call_intI (by rfl) G.int (by decide +kernel) (pa_cons (pe_op op_fdiv (pv 0) (pv 6)) pa_nil)) pe_int) pe_int (nomark _)) (pw_or1 (pt_cmpR op_eq (pe_op op_mod (pe_callTy call_intI (by rfl) G.int (by decide +kernel) (pa_cons (pe_op op_fdiv (pv 1) (pv 6)) pa_nil)) pe_int) pe_int (nomark _)))))
        (pss_one (ps_ret (pe_ifExp (pt_cmpR op_isNn (pv 7) pe_non (nomark _)) pe_str pe_str)))
        pss_nil)
      (pss_cons (ps_set (i := 10) sc_l_broken.nd rfl (Or.inl rfl) (pe_cmpR (op_neD hr.units) (pe_lc (own := [("num", 11)]) rfl sc_l_broken.nd (pi_list (pv 4)) (blkOk_by (own := [("num", 11)]) (N := ["arm", "mod", "counts", "hands", "edges", "meas", "part", "sign", "things", "wrong", "zero", "num"]) (sc := defScope st_l_broken) (by decide +kernel)) (fun _ _ _ _ _ => (pg_name (i := 11) sc_l_broken.nd rfl (Or.inl rfl))) (fun _ _ _ _ _ => (pts_one (pt_cmpR op_eq (pe_op op_mod (pe_callTy call_intI (by rfl) G.int (by decide +kernel) (pa_cons (pe_op op_fdiv (pe_op op_add (pv 11) (pv 0)) (pv 6)) pa_nil)) pe_int) pe_int (nomark _)))) (fun _ _ _ _ _ => (pv 11))) (pe_lst pa_nil) (nomark _)))
      (pss_one (ps_ret (pe_ifExp (PW.pt (pw_and (pt_cmpR op_noNn (pv 7) pe_non (nomark _)) (pw_and1 (pt_cmpR op_eq (pe_cmpR op_eq (pv 7) pe_int (nomark _)) (pv 10) (nomark _))))) pe_str pe_str)))))))))))), ?_⟩
    try dsimp only [cxOf]
    unfold Formed at hF
    obtain ⟨f1, f2, f3, f4⟩ := hF
    walk_at "go"
    refine x_cut (fun σ H' => Same H H' ∧ RimsOk mod es ∧ σ = [some (.int (arm : Nat)), some (.int (mod : Nat)), some (.ref c), some (.int hh), some (.ref ep), some (oV m), some (oV p), some (oV sn), none, none, none, none]) ?_ ?_
    · walk_at "go"
      refine ⟨Nat.zero_le _, fun u hu => ?_⟩
      refine x_eqIL (ns := es) (ms := []) (SqL.of (upd_old hu he)) (SqL.of upd_same) ?_
      have s1 : Same H (upd H u (.lst [])) := Same.new hu
      have he1 := s1 _ _ he
      revert s1 he1
      generalize upd H u (.lst []) = H1
      intro s1 he1
      by_cases c0 : es = []
      · rw [decide_eq_true c0]
        walk_at "go"
        rw [← brk_1 (arm := arm) (h := hh) (m := m) (p := p) (s := sn) (fun z => z.1 c0)]
        exact k _ s1
      rw [decide_eq_false c0]
      walk_at "go"
      refine ⟨ep, es, rfl, SqL.of he1, fun ns' q hperm hsort hq => ?_⟩
      refine x_neIL (ns := es) (ms := ns') (SqL.of (upd_old hq he1)) (SqL.of upd_same) ?_
      have s2 : Same H (upd H1 q (.lst (ns'.map V.int))) := Same.trans s1 (Same.new hq)
      have he2 := s2 _ _ he
      revert s2 he2
      generalize upd H1 q (.lst (ns'.map V.int)) = H2
      intro s2 he2
      refine Classical.byCases (p := ¬es.Pairwise (· ≤ ·)) (fun c1 => ?_) (fun c1 => ?_)
      · rw [decide_eq_false (fun z => c1 ((sorted_eq hperm hsort).mp z))]
        walk_at "go"
        rw [← brk_1 (arm := arm) (h := hh) (m := m) (p := p) (s := sn) (mod := mod) (es := es) (fun z => c1 z.2.1)]
        exact k _ s2
      have c1 := Classical.not_not.mp c1
      rw [decide_eq_true ((sorted_eq hperm hsort).mpr c1)]
      walk_at "go"
      by_cases c2 : (0 : Int) < (mod : Int)
      · rw [decide_eq_true c2]
        walk_at "go"
        refine w_lcL (xs := es.map V.int) (SqL.of he2) (by rw [List.length_map]; exact Nat.lt_of_le_of_lt hl (by decide)) (fun i acc => acc = ((es.take i).filter fun e => !(decide (0 ≤ e) && decide (e < (mod : Int)))).map V.int) rfl ?_ ?_
        · rintro i x H' acc hi s' rfl hai R S2 hR hS2
          obtain ⟨e, rfl, hei⟩ := int_at hi
          walk_at "go"
          refine ⟨rfl, ?_⟩
          walk_at "go"
          by_cases d1 : 0 ≤ e
          · rw [decide_eq_true d1]
            walk_at "go"
            by_cases d2 : e < (mod : Int)
            · rw [decide_eq_true d2]
              walk_at "go"
              exact hS2 _ (Same.refl _) (filt_no hei (by rw [decide_eq_true d1, decide_eq_true d2]; rfl))
            · rw [decide_eq_false d2]
              walk_at "go"
              exact hR _ _ (Same.refl _) (filt_yes hei (by rw [decide_eq_false d2, Bool.and_false]; rfl))
          · rw [decide_eq_false d1]
            walk_at "go"
            exact hR _ _ (Same.refl _) (filt_yes hei (by rw [decide_eq_false d1]; rfl))
        · rintro r H3 acc hr0 s3 hr3 rfl
          rw [List.length_map, List.take_length] at hr3
          walk_at "go"
          refine ⟨Nat.zero_le _, fun u hu => ?_⟩
          refine x_neIL (ms := []) (SqL.of (upd_old hu hr3)) (SqL.of upd_same) ?_
          have s4 : Same H (upd H3 u (.lst [])) := Same.trans s2 (Same.trans s3 (Same.new hu))
          by_cases d : es.filter (fun e => !(decide (0 ≤ e) && decide (e < (mod : Int)))) = []
          · rw [decide_eq_true d]
            walk_at "go"
            refine ⟨s4, ⟨c0, c1, fun _ e hm => ?_⟩, rfl⟩
            have := List.filter_eq_nil_iff.mp d e hm
            simp at this
            exact this
          · rw [decide_eq_false d]
            walk_at "go"
            rw [← brk_1 (arm := arm) (h := hh) (m := m) (p := p) (s := sn) (mod := mod) (es := es) (fun z => by
              obtain ⟨e, hm, hb⟩ := filt_ne.mp d
              have := z.2.2 (by omega) e hm
              rw [decide_eq_true this.1, decide_eq_true this.2] at hb
              cases hb)]
            exact k _ s4
      · rw [decide_eq_false c2]
        walk_at "go"
        exact ⟨s2, ⟨c0, c1, fun z => by omega⟩, rfl⟩
    rintro σ H1 ⟨s1, hR, rfl⟩
    have he1 := s1 _ _ he
    walk_at "go"
    refine x_sum (SqL.of he1) ?_
    have m1 : CMul 2 hh := .inl ⟨by omega, by omega⟩
    have m2 : CMul (arm : Int) (2 - 2 * hh - (es.length : Int)) := .inl ⟨by omega, by omega⟩
    walk_at "go"
    rw [List.length_map]
    walk_at "go"
    refine ⟨mod, _, rfl, h2, ?_⟩
    walk_at "go"
    refine Classical.byCases (p := ¬SumOk arm mod hh es) (fun cS => ?_) (fun cS => ?_)
    · rw [decide_eq_false (fun z => cS (red_zero.mp z))]
      walk_at "go"
      rw [← brk_2 (m := m) (p := p) (s := sn) hR cS]
      exact k _ s1
    have cS := Classical.not_not.mp cS
    rw [decide_eq_true (red_zero.mpr cS)]
    walk_at "go"
    by_cases c1 : hh = 1
    · rw [decide_eq_true c1]
      obtain ⟨mv, rfl⟩ := Option.isSome_iff_exists.mp (f2.mpr c1)
      have hm : mv < 1073741824 := hm
      rw [show oV (some mv) = V.int mv from rfl]
      walk_at "go"
      refine ⟨by show 1 ≤ sizeLine; decide, fun u hu => ?_⟩
      have s2 : Same H (upd H1 u (.lst [V.int (mod : Nat)])) := Same.trans s1 (Same.new hu)
      have hu2 : (upd H1 u (.lst [V.int (mod : Nat)])) u = some (.lst ([(mod : Int)].map V.int)) := upd_same
      revert s2 hu2
      generalize upd H1 u (.lst [V.int (mod : Nat)]) = H2
      intro s2 hu2
      have he2 := s2 _ _ he
      walk_at "go"
      refine w_lcL (xs := es.map V.int) (SqL.of he2) (by rw [List.length_map]; exact Nat.lt_of_le_of_lt hl (by decide)) (fun i acc => acc = ((es.map fun e => e + (arm : Int)).map V.int).take i) rfl ?_ ?_
      · rintro i x H' acc hi s' rfl hai R S2 hR2 hS2
        obtain ⟨e, rfl, hei⟩ := int_at hi
        walk_at "go"
        refine ⟨rfl, ?_⟩
        walk_at "go"
        refine hR2 _ _ (Same.refl _) ?_
        rw [take_snoc (show ((es.map fun e => e + (arm : Int)).map V.int)[i]? = some (.int (e + (arm : Int))) by rw [List.getElem?_map, List.getElem?_map, hei]; rfl)]
      · rintro r H3 acc hr0 s3 hr3 rfl
        rw [List.length_map, List.take_of_length_le (by rw [List.length_map, List.length_map]; exact Nat.le_refl _)] at hr3
        have hu3 := s3 _ _ hu2
        refine x_cat hu3 hr3 (by rw [List.length_map, List.length_map, List.length_map]; exact Nat.le_trans (show _ ≤ 901 by show 1 + es.length ≤ 901; omega) (by decide)) fun t ht => ?_
        have s4 : Same H (upd H3 t (.lst ([(mod : Int)].map V.int ++ (es.map fun e => e + (arm : Int)).map V.int))) := Same.trans s2 (Same.trans s3 (Same.new ht))
        have ht4 : (upd H3 t (.lst ([(mod : Int)].map V.int ++ (es.map fun e => e + (arm : Int)).map V.int))) t = some (.lst (((mod : Int) :: es.map fun e => e + (arm : Int)).map V.int)) := by rw [upd_same, List.map_cons]; rfl
        revert s4 ht4
        generalize upd H3 t (.lst ([(mod : Int)].map V.int ++ (es.map fun e => e + (arm : Int)).map V.int)) = H4
        intro s4 ht4
        have hall : ∀ P : Int → Prop, (∀ z ∈ (mod : Int) :: es.map (fun e => e + (arm : Int)), P z) ↔ (P (mod : Int) ∧ ∀ e ∈ es, P (e + (arm : Int))) := fun P => by
          constructor
          · exact fun h => ⟨h _ (List.mem_cons_self ..), fun e he => h _ (List.mem_cons_of_mem _ (List.mem_map.mpr ⟨e, he, rfl⟩))⟩
          · rintro ⟨a, b⟩ z hz
            rcases List.mem_cons.mp hz with e | hz
            · rw [e]; exact a
            · obtain ⟨e, he, rfl⟩ := List.mem_map.mp hz
              exact b e he
        have fin : ∀ (w : Bool) H', Same H H' → (w = true ↔ ¬MeasOk arm mod es mv) → Q (.str (if w = true then "measure" else "")) H' := fun w H' s' hw => by
          cases w with
          | true =>
            rw [if_pos rfl, ← brk_3n (m := some mv) (p := p) (s := sn) hR cS c1 (hw.mp rfl)]
            exact k _ s'
          | false =>
            have hy : MeasOk arm mod es mv := Classical.byContradiction fun z => by have := hw.mpr z; cases this
            rw [if_neg Bool.false_ne_true, ← brk_3 (m := some mv) (p := p) (s := sn) hR cS c1 hy]
            exact k _ s'
        walk_at "go"
        by_cases d1 : mv < 0
        · rw [decide_eq_true d1]
          walk_at "go"
          exact fin true _ s4 ⟨fun _ z => by have := z.1; omega, fun _ => rfl⟩
        rw [decide_eq_false d1]
        walk_at "go"
        by_cases d2 : mv = 0
        · rw [decide_eq_true d2]
          walk_at "go"
          refine ⟨t, _, rfl, SqL.of ht4, (hall fun z => z.natAbs ≤ 1267650600228229401496703205376).mpr ⟨by omega, fun e he => by have := heb e he; omega⟩, ?_⟩
          walk_at "go"
          have hg : (((gcdZ ((mod : Int) :: es.map fun e => e + (arm : Int)) : Nat) : Int) = 0) ↔ MeasOk arm mod es mv := by
            have := (dvd_gcdZ 0 ((mod : Int) :: es.map fun e => e + (arm : Int))).trans (hall fun z => ((0 : Nat) : Int) ∣ z)
            rw [Nat.zero_dvd] at this
            constructor
            · intro z
              obtain ⟨a, b⟩ := this.mp (by omega)
              exact ⟨by omega, by rw [d2]; exact a, fun e he => by rw [d2]; exact b e he⟩
            · intro z
              have := this.mpr ⟨by have := z.2.1; rw [d2] at this; exact this, fun e he => by have := z.2.2 e he; rw [d2] at this; exact this⟩
              omega
          by_cases d3 : ((gcdZ ((mod : Int) :: es.map fun e => e + (arm : Int)) : Nat) : Int) = 0
          · rw [decide_eq_true d3]
            walk_at "go"
            rw [decide_eq_false (show ¬ 0 < mv by omega)]
            walk_at "go"
            exact fin false _ s4 ⟨fun z => (by cases z), fun z => absurd (hg.mp d3) z⟩
          · rw [decide_eq_false d3]
            walk_at "go"
            exact fin true _ s4 ⟨fun _ z => d3 (hg.mpr z), fun _ => rfl⟩
        rw [decide_eq_false d2]
        walk_at "go"
        rw [decide_eq_true (show 0 < mv by omega)]
        walk_at "go"
        refine w_lcL (xs := ((mod : Int) :: es.map fun e => e + (arm : Int)).map V.int) (SqL.of ht4) (by rw [List.length_map, List.length_cons, List.length_map]; exact Nat.lt_of_le_of_lt (show _ ≤ 901 by omega) (by decide)) (fun i acc => acc = ((((mod : Int) :: es.map fun e => e + (arm : Int)).take i).filter fun e => !decide (e % mv = 0)).map V.int) rfl ?_ ?_
        · rintro i x H' acc hi s' rfl hai R S2 hR2 hS2
          obtain ⟨e, rfl, hei⟩ := int_at hi
          walk_at "go"
          refine ⟨rfl, ?_⟩
          walk_at "go"
          by_cases d3 : e % mv = 0
          · rw [decide_eq_true d3]
            walk_at "go"
            exact hS2 _ (Same.refl _) (filt_no hei (by rw [decide_eq_true d3]; rfl))
          · rw [decide_eq_false d3]
            walk_at "go"
            exact hR2 _ _ (Same.refl _) (filt_yes hei (by rw [decide_eq_false d3]; rfl))
        · rintro r2 H5 acc hr50 s5 hr5 rfl
          rw [List.length_map, List.take_length] at hr5
          walk_at "go"
          refine ⟨Nat.zero_le _, fun u2 hu2' => ?_⟩
          refine x_neIL (ms := []) (SqL.of (upd_old hu2' hr5)) (SqL.of upd_same) ?_
          have s6 : Same H (upd H5 u2 (.lst [])) := Same.trans s4 (Same.trans s5 (Same.new hu2'))
          have hw : (((mod : Int) :: es.map fun e => e + (arm : Int)).filter fun e => !decide (e % mv = 0)) ≠ [] ↔ ¬MeasOk arm mod es mv := by
            refine filt_ne.trans ?_
            constructor
            · rintro ⟨e, hm', hb⟩ z
              have hz : ∀ q ∈ (mod : Int) :: es.map (fun e => e + (arm : Int)), mv ∣ q := (hall fun q => mv ∣ q).mpr ⟨z.2.1, z.2.2⟩
              rw [decide_eq_true ((dvd_emod (by omega)).mpr (hz e hm'))] at hb
              cases hb
            · intro z
              refine Classical.byContradiction fun n => z ?_
              have hz : ∀ q ∈ (mod : Int) :: es.map (fun e => e + (arm : Int)), mv ∣ q := fun q hq => (dvd_emod (by omega)).mp (Classical.byContradiction fun w => n ⟨q, hq, by rw [decide_eq_false w]; rfl⟩)
              exact ⟨by omega, ((hall fun q => mv ∣ q).mp hz).1, ((hall fun q => mv ∣ q).mp hz).2⟩
          by_cases d3 : (((mod : Int) :: es.map fun e => e + (arm : Int)).filter fun e => !decide (e % mv = 0)) = []
          · rw [decide_eq_true d3]
            walk_at "go"
            exact fin false _ s6 ⟨fun z => (by cases z), fun z => absurd d3 (hw.mpr z)⟩
          · rw [decide_eq_false d3]
            walk_at "go"
            exact fin true _ s6 ⟨fun _ => hw.mp d3, fun _ => rfl⟩
    · rw [decide_eq_false c1]
      walk_at "go"
      by_cases c2 : hh < 2
      · rw [decide_eq_true c2]
        walk_at "go"
        rw [← brk_4 (m := m) (p := p) (s := sn) hR cS (by omega)]
        exact k _ s1
      rw [decide_eq_false c2]
      obtain ⟨pv', rfl⟩ := Option.isSome_iff_exists.mp (f3.mpr (by omega))
      have hp : pv' < 1073741824 := hp
      rw [show oV (some pv') = V.int pv' from rfl]
      walk_at "go"
      by_cases d1 : pv' < 1
      · rw [decide_eq_true d1]
        walk_at "go"
        rw [← brk_5 (m := m) (p := some pv') (s := sn) hR cS (by omega) (fun z => by have : 1 ≤ pv' := z.1; omega)]
        exact k _ s1
      rw [decide_eq_false d1]
      walk_at "go"
      refine ⟨by show 2 ≤ sizeLine; decide, fun u hu => ?_⟩
      have s2 : Same H (upd H1 u (.lst [V.int (arm : Nat), .int (mod : Nat)])) := Same.trans s1 (Same.new hu)
      have hu2 : (upd H1 u (.lst [V.int (arm : Nat), .int (mod : Nat)])) u = some (.lst ([(arm : Int), (mod : Int)].map V.int)) := upd_same
      revert s2 hu2
      generalize upd H1 u (.lst [V.int (arm : Nat), .int (mod : Nat)]) = H2
      intro s2 hu2
      have he2 := s2 _ _ he
      walk_at "go"
      refine x_cat hu2 he2 (by rw [List.length_map, List.length_map]; exact Nat.le_trans (show _ ≤ 902 by show 2 + es.length ≤ 902; omega) (by decide)) fun t ht => ?_
      have s4 : Same H (upd H2 t (.lst ([(arm : Int), (mod : Int)].map V.int ++ es.map V.int))) := Same.trans s2 (Same.new ht)
      have ht4 : (upd H2 t (.lst ([(arm : Int), (mod : Int)].map V.int ++ es.map V.int))) t = some (.lst (((arm : Int) :: (mod : Int) :: es).map V.int)) := by rw [upd_same]; rfl
      revert s4 ht4
      generalize upd H2 t (.lst ([(arm : Int), (mod : Int)].map V.int ++ es.map V.int)) = H4
      intro s4 ht4
      walk_at "go"
      refine w_lcL (xs := ((arm : Int) :: (mod : Int) :: es).map V.int) (SqL.of ht4) (by rw [List.length_map, List.length_cons, List.length_cons]; exact Nat.lt_of_le_of_lt (show _ ≤ 902 by omega) (by decide)) (fun i acc => acc = ((((arm : Int) :: (mod : Int) :: es).take i).filter fun e => !decide (e % pv' = 0)).map V.int) rfl ?_ ?_
      · rintro i x H' acc hi s' rfl hai R S2 hR2 hS2
        obtain ⟨e, rfl, hei⟩ := int_at hi
        walk_at "go"
        refine ⟨rfl, ?_⟩
        walk_at "go"
        by_cases d3 : e % pv' = 0
        · rw [decide_eq_true d3]
          walk_at "go"
          exact hS2 _ (Same.refl _) (filt_no hei (by rw [decide_eq_true d3]; rfl))
        · rw [decide_eq_false d3]
          walk_at "go"
          exact hR2 _ _ (Same.refl _) (filt_yes hei (by rw [decide_eq_false d3]; rfl))
      · rintro r2 H5 acc hr50 s5 hr5 rfl
        rw [List.length_map, List.take_length] at hr5
        walk_at "go"
        refine ⟨Nat.zero_le _, fun u2 hu2' => ?_⟩
        refine x_neIL (ms := []) (SqL.of (upd_old hu2' hr5)) (SqL.of upd_same) ?_
        have s6 : Same H (upd H5 u2 (.lst [])) := Same.trans s4 (Same.trans s5 (Same.new hu2'))
        revert s6
        generalize upd H5 u2 (.lst []) = H6
        intro s6
        have he6 := s6 _ _ he
        have hw : (((arm : Int) :: (mod : Int) :: es).filter fun e => !decide (e % pv' = 0)) ≠ [] ↔ ¬ShareOk arm mod es pv' := by
          refine filt_ne.trans ?_
          constructor
          · rintro ⟨e, hm', hb⟩ z
            have hz : ∀ q ∈ (arm : Int) :: (mod : Int) :: es, pv' ∣ q := fun q hq => by
              rcases List.mem_cons.mp hq with e | hq
              · rw [e]; exact z.2.1
              · rcases List.mem_cons.mp hq with e | hq
                · rw [e]; exact z.2.2.1
                · exact z.2.2.2 q hq
            rw [decide_eq_true ((dvd_emod (by omega)).mpr (hz e hm'))] at hb
            cases hb
          · intro z
            refine Classical.byContradiction fun n => z ?_
            have hz : ∀ q ∈ (arm : Int) :: (mod : Int) :: es, pv' ∣ q := fun q hq => (dvd_emod (by omega)).mp (Classical.byContradiction fun w => n ⟨q, hq, by rw [decide_eq_false w]; rfl⟩)
            exact ⟨by omega, hz _ (List.mem_cons_self ..), hz _ (List.mem_cons_of_mem _ (List.mem_cons_self ..)), fun e he => hz e (List.mem_cons_of_mem _ (List.mem_cons_of_mem _ he))⟩
        refine Classical.byCases (p := ¬(((arm : Int) :: (mod : Int) :: es).filter fun e => !decide (e % pv' = 0)) = []) (fun d3 => ?_) (fun d3 => ?_)
        · rw [decide_eq_false d3]
          walk_at "go"
          rw [← brk_5 (m := m) (p := some pv') (s := sn) hR cS (by omega) (hw.mp d3)]
          exact k _ s6
        have d3 := Classical.not_not.mp d3
        rw [decide_eq_true d3]
        have hSh : ShareOk arm mod es pv' := Classical.byContradiction fun z => hw.mpr z d3
        have hp2 : CDiv (arm : Int) pv' := ⟨by omega, hp⟩
        have hp3 : CDiv (mod : Int) pv' := ⟨by omega, hp⟩
        have fin : ∀ H', Same H H' → (BalOk arm mod es pv' sn → Q (.str "") H') ∧ (¬BalOk arm mod es pv' sn → Q (.str "balance") H') := fun H' s' =>
          ⟨fun z => by rw [← brk_6 (m := m) (p := some pv') (s := sn) hR cS (by omega) hSh z]; exact k _ s', fun z => by rw [← brk_6n (m := m) (p := some pv') (s := sn) hR cS (by omega) hSh z]; exact k _ s'⟩
        walk_at "go"
        by_cases b1 : (arm : Int) / pv' % 2 = 0
        · have hn : ¬HasBal arm mod pv' := fun z => by have := z.1; omega
          rw [decide_eq_true b1]
          walk_at "go"
          cases sn with
          | none =>
            rw [decide_eq_true (show oV none = V.non from rfl)]
            walk_at "go"
            exact (fin H6 s6).1 (.inr ⟨hn, rfl⟩)
          | some z =>
            rw [decide_eq_false (show ¬ oV (some z) = V.non from fun e => by cases e)]
            walk_at "go"
            exact (fin H6 s6).2 fun q => q.elim (fun q => hn q.1) fun q => by cases q.2
        rw [decide_eq_false b1]
        walk_at "go"
        by_cases b2 : (mod : Int) / pv' % 2 = 1
        · have hn : ¬HasBal arm mod pv' := fun z => by have := z.2; omega
          rw [decide_eq_true b2]
          walk_at "go"
          cases sn with
          | none =>
            rw [decide_eq_true (show oV none = V.non from rfl)]
            walk_at "go"
            exact (fin H6 s6).1 (.inr ⟨hn, rfl⟩)
          | some z =>
            rw [decide_eq_false (show ¬ oV (some z) = V.non from fun e => by cases e)]
            walk_at "go"
            exact (fin H6 s6).2 fun q => q.elim (fun q => hn q.1) fun q => by cases q.2
        rw [decide_eq_false b2]
        have hy : HasBal arm mod pv' := ⟨by omega, by omega⟩
        walk_at "go"
        refine w_lcL (xs := es.map V.int) (SqL.of he6) (by rw [List.length_map]; exact Nat.lt_of_le_of_lt hl (by decide)) (fun i acc => acc = ((es.take i).filter fun e => decide ((e + (arm : Int)) / pv' % 2 = 1)).map V.int) rfl ?_ ?_
        · rintro i x H' acc hi s' rfl hai R S2 hR2 hS2
          obtain ⟨e, rfl, hei⟩ := int_at hi
          have hq : CDiv (e + (arm : Int)) pv' := ⟨by omega, hp⟩
          walk_at "go"
          refine ⟨rfl, ?_⟩
          walk_at "go"
          by_cases d4 : (e + (arm : Int)) / pv' % 2 = 1
          · rw [decide_eq_true d4]
            walk_at "go"
            exact hR2 _ _ (Same.refl _) (filt_yes hei (decide_eq_true d4))
          · rw [decide_eq_false d4]
            walk_at "go"
            exact hS2 _ (Same.refl _) (filt_no hei (decide_eq_false d4))
        · rintro r3 H7 acc hr70 s7 hr7 rfl
          rw [List.length_map, List.take_length] at hr7
          walk_at "go"
          refine ⟨Nat.zero_le _, fun u3 hu3 => ?_⟩
          refine x_neIL (ms := []) (SqL.of (upd_old hu3 hr7)) (SqL.of upd_same) ?_
          have s8 : Same H (upd H7 u3 (.lst [])) := Same.trans s6 (Same.trans s7 (Same.new hu3))
          have hodd : es.filter (fun e => decide ((e + (arm : Int)) / pv' % 2 = 1)) ≠ [] ↔ OddRim arm es pv' := by
            refine filt_ne.trans ?_
            exact ⟨fun ⟨e, a, b⟩ => ⟨e, a, of_decide_eq_true b⟩, fun ⟨e, a, b⟩ => ⟨e, a, decide_eq_true b⟩⟩
          obtain ⟨fy, fn⟩ := fin _ s8
          cases sn with
          | none =>
            walk_at "go"
            rw [decide_eq_true (show oV none = V.non from rfl)]
            walk_at "go"
            exact fn fun q => q.elim (fun ⟨_, z, e, _⟩ => by cases e) fun q => q.1 hy
          | some z =>
            walk_at "go"
            rw [decide_eq_false (show ¬ oV (some z) = V.non from fun e => by cases e)]
            walk_at "go"
            refine x_eqI (i := z) ?_
            walk_at "go"
            by_cases hz : (decide (z = 0)) = (!decide (es.filter (fun e => decide ((e + (arm : Int)) / pv' % 2 = 1)) = []))
            · rw [decide_eq_true hz]
              walk_at "go"
              refine fy (.inl ⟨hy, z, rfl, ?_⟩)
              rw [← hodd]
              constructor
              · intro e q
                rw [decide_eq_true e, decide_eq_true q] at hz
                cases hz
              · intro q
                rw [decide_eq_false q] at hz
                exact of_decide_eq_true hz
            · rw [decide_eq_false hz]
              walk_at "go"
              refine fn fun q => ?_
              rcases q with ⟨_, z', e, hi⟩ | ⟨q, _⟩
              · cases e
                rw [← hodd] at hi
                refine hz ?_
                by_cases e : z = 0
                · rw [decide_eq_true e, decide_eq_false (hi.mp e)]; rfl
                · rw [decide_eq_false e, decide_eq_true (Classical.byContradiction fun w => e (hi.mpr w))]; rfl
              · exact q hy
def spOr (sp sp' : Sp) : Sp := fun vs H Q E => sp vs H Q E ∨ sp' vs H Q E
theorem fnok_or {P : Program} {w : World} {K : PySem.W.Frag} {mg : Str → Option Value} {base : Heap} {CXx : CXT} {k : Nat} {f : Addr} {fd : FuncData} {ps : List Str} {sp sp' : Sp} (a : FnOk P w K mg base CXx k f fd ps sp) (b : FnOk P w K mg base CXx k f fd ps sp') : FnOk P w K mg base CXx k f fd ps (spOr sp sp') :=
  ⟨fun vs H Q E h => h.elim (a.len vs H Q E) (b.len vs H Q E), fun A outer s H args us vs Q E r e0 bt rv h => h.elim (a.run A outer s H args us vs Q E r e0 bt rv) (b.run A outer s H args us vs Q E r e0 bt rv)⟩
/-! ### _law_like of lists and tuples, whatever stands in them -/
abbrev AlikeAt (sp0 : Sp) (H : Hp) (xs ys : List V) : Prop := xs.length = ys.length ∧ xs.length ≤ 900 ∧ ∀ (i : Nat) (x y : V) (H' : Hp) (Q' : VK), Same H H' → xs[i]? = some x → ys[i]? = some y → (∀ H2, Same H' H2 → Q' (.bl true) H2) → sp0 [x, y] H' Q' C8.E0
def spSqL (sp0 : Sp) : Sp := fun vs H Q _ => ∃ (p q : Addr) (xs ys : List V), vs = [.ref p, .ref q] ∧ H p = some (.lst xs) ∧ H q = some (.lst ys) ∧ AlikeAt sp0 H xs ys ∧ ∀ H', Same H H' → Q (.bl true) H'
def spSqT (sp0 : Sp) : Sp := fun vs H Q _ => ∃ (p q : Addr) (xs ys : List V), vs = [.ref p, .ref q] ∧ H p = some (.tup xs) ∧ H q = some (.tup ys) ∧ AlikeAt sp0 H xs ys ∧ ∀ H', Same H H' → Q (.bl true) H'
theorem x_isLl {K : PySem.W.Frag} {H : Hp} {Q : VK} {p : Addr} {xs : List V} {n : String} {b : Bool} (h : H p = some (.lst xs)) (e : PySem.W.kitOne K (.type "list") (.type n) = some b) (k : Q (.bl b) H) : rIsi K [.ref p, .ty n] H Q := x_isTy (.lst h) e k
theorem x_isPt {K : PySem.W.Frag} {H : Hp} {Q : VK} {p : Addr} {xs : List V} {n : String} {b : Bool} (h : H p = some (.tup xs)) (e : PySem.W.kitOne K (.type "tuple") (.type n) = some b) (k : Q (.bl b) H) : rIsi K [.ref p, .ty n] H Q := x_isTy (.tup h) e k
theorem ok_likeSqL {sp0 : Sp} {n : Nat} (B : Bi K mg) (c_l_like : C8.Cal P w K mg base n "_law_like" sp0 []) (F : FnP K "_law_like" st_l_like f fd) : FnOk P w K mg base CX0 (n + 1) f fd ["told", "due"] (spSqL sp0) := by
  refine F.ok sc_l_like (fun vs H Q E h => ?_) (fun cdv A outer s H vs Q E hr h => ?_)
  · obtain ⟨p, q, xs, ys, rfl, _⟩ := h
    rfl
  · obtain ⟨p, q, xs, ys, rfl, hp, hq, ⟨hlen, hl, hal⟩, k⟩ := h
    have G := B
    refine ⟨_, PSs.nox ((pss_cons (ps_if (PW.pt (pw_or (pt_val (pe_callB call_isi (by rfl) G.isinstance (by decide +kernel) (pa_cons (pv 1) (pa_cons (pe_bltn (v := .ty "list") (u := .type "list") (by rfl) G.list (by decide +kernel) rfl) pa_nil)))) (pw_or1 (pt_val (pe_callB call_isi (by rfl) G.isinstance (by decide +kernel) (pa_cons (pv 1) (pa_cons (pe_bltn (v := .ty "tuple") (u := .type "tuple") (by rfl) G.tuple (by decide +kernel) rfl) pa_nil)))))))
        (pss_cons (ps_if (PW.pt (pw_or (pt_cmpR op_ne (pe_callB call_isi (by rfl) G.isinstance (by decide +kernel) (pa_cons (pv 0) (pa_cons (pe_bltn (v := .ty "list") (u := .type "list") (by rfl) G.list (by decide +kernel) rfl) pa_nil))) (pe_callB call_isi (by rfl) G.isinstance (by decide +kernel) (pa_cons (pv 1) (pa_cons (pe_bltn (v := .ty "list") (u := .type "list") (by rfl) G.list (by decide +kernel) rfl) pa_nil))) (nomark _)) (pw_or (pt_cmpR op_ne (pe_callB call_isi (by rfl) G.isinstance (by decide +kernel) (pa_cons (pv 0) (pa_cons (pe_bltn (v := .ty "tuple") (u := .type "tuple") (by rfl) G.tuple (by decide +kernel) rfl) pa_nil))) (pe_callB call_isi (by rfl) G.isinstance (by decide +kernel) (pa_cons (pv 1) (pa_cons (pe_bltn (v := .ty "tuple") (u := .type "tuple") (by rfl) G.tuple (by decide +kernel) rfl) pa_nil))) (nomark _)) (pw_or1 (pt_cmpR op_ne (pe_callB callLenS (by rfl) G.len PySem.boot_len (pa_cons (pv 0) pa_nil)) (pe_callB callLenS (by rfl) G.len PySem.boot_len (pa_cons (pv 1) pa_nil)) (nomark _))))))
          (pss_one ps_never)
          pss_nil)
        (pss_one (ps_ret (pe_cmpR (op_eqD hr.units) (pe_lc (own := [("k", 2)]) rfl sc_l_like.nd (pi_range1 (by rfl) G.range (pa_cons (pe_callB callLenS (by rfl) G.len PySem.boot_len (pa_cons (pv 1) pa_nil)) pa_nil)) (blkOk_by (own := [("k", 2)]) (N := ["told", "due", "k", "key"]) (sc := defScope st_l_like) (by decide +kernel)) (fun _ _ _ _ _ => (pg_name (i := 2) sc_l_like.nd rfl (Or.inl rfl))) (fun _ _ _ _ _ => (pts_one (pt_not (pt_val (C8.pe_c c_l_like hr (Nat.le_refl _) rfl (pa_cons (pe_ix (ix_listK (K := K) rfl) (pv 0) (pv 2) (fun _ _ => rfl)) (pa_cons (pe_ix (ix_listK (K := K) rfl) (pv 1) (pv 2) (fun _ _ => rfl)) pa_nil))))))) (fun _ _ _ _ _ => (pv 2))) (pe_lst pa_nil) (nomark _)))))
        pss_nil)
      (pss_cons ps_never
      (pss_cons ps_never
      (pss_one ps_never))))), ?_⟩
    try dsimp only [cxOf]
    walk_at "go"
    refine x_isLl (b := true) hq (kit_ty (by decide +kernel)) ?_
    walk_at "go"
    refine x_isLl (b := true) hp (kit_ty (by decide +kernel)) ?_
    walk_at "go"
    refine x_isLl (b := true) hq (kit_ty (by decide +kernel)) ?_
    walk_at "go"
    rw [decide_eq_true rfl]
    walk_at "go"
    refine x_isLl (b := false) hp (kit_ty (by decide +kernel)) ?_
    walk_at "go"
    refine x_isLl (b := false) hq (kit_ty (by decide +kernel)) ?_
    walk_at "go"
    rw [decide_eq_true rfl]
    walk_at "go"
    rw [hlen, decide_eq_true rfl]
    walk_at "go"
    refine w_lcR1 (by omega) (by omega) (by rw [Int.toNat_natCast]; exact Nat.lt_of_le_of_lt (show _ ≤ 900 by omega) (by decide)) (fun i acc => acc = []) rfl ?_ ?_
    · rintro i H' acc hi s' rfl hai R S2 hR hS2
      have hi : i < ys.length := by omega
      have hx : xs[i]? = some (xs[i]'(by omega)) := List.getElem?_eq_getElem (by omega)
      have hy : ys[i]? = some ys[i] := List.getElem?_eq_getElem hi
      generalize xs[i]'(by omega) = x at hx
      generalize ys[i] = y at hy
      have ax : atI xs (0 + (i : Int)) = some x := atI_of (k := i) (by omega) hx
      have ay : atI ys (0 + (i : Int)) = some y := atI_of (k := i) (by omega) hy
      have hp' := s' _ _ hp
      have hq' := s' _ _ hq
      walk_at "go"
      refine ⟨rfl, ?_⟩
      walk_at "go"
      refine hal i x y H' _ s' hx hy fun H2 s2 => ?_
      walk_at "go"
      exact hS2 _ s2 rfl
    · rintro r H' acc hr0 s' hr' rfl
      walk_at "go"
      refine ⟨Nat.zero_le _, fun u hu => ?_⟩
      refine x_eqIL (ns := []) (ms := []) (SqL.of (upd_old hu hr')) (SqL.of upd_same) ?_
      rw [decide_eq_true rfl]
      walk_at "go"
      exact k _ (Same.trans s' (Same.new hu))
theorem ok_likeSqT {sp0 : Sp} {n : Nat} (B : Bi K mg) (c_l_like : C8.Cal P w K mg base n "_law_like" sp0 []) (F : FnP K "_law_like" st_l_like f fd) : FnOk P w K mg base CX0 (n + 1) f fd ["told", "due"] (spSqT sp0) := by
  refine F.ok sc_l_like (fun vs H Q E h => ?_) (fun cdv A outer s H vs Q E hr h => ?_)
  · obtain ⟨p, q, xs, ys, rfl, _⟩ := h
    rfl
  · obtain ⟨p, q, xs, ys, rfl, hp, hq, ⟨hlen, hl, hal⟩, k⟩ := h
    have G := B
    refine ⟨_, PSs.nox ((pss_cons (ps_if (PW.pt (pw_or (pt_val (pe_callB call_isi (by rfl) G.isinstance (by decide +kernel) (pa_cons (pv 1) (pa_cons (pe_bltn (v := .ty "list") (u := .type "list") (by rfl) G.list (by decide +kernel) rfl) pa_nil)))) (pw_or1 (pt_val (pe_callB call_isi (by rfl) G.isinstance (by decide +kernel) (pa_cons (pv 1) (pa_cons (pe_bltn (v := .ty "tuple") (u := .type "tuple") (by rfl) G.tuple (by decide +kernel) rfl) pa_nil)))))))
        (pss_cons (ps_if (PW.pt (pw_or (pt_cmpR op_ne (pe_callB call_isi (by rfl) G.isinstance (by decide +kernel) (pa_cons (pv 0) (pa_cons (pe_bltn (v := .ty "list") (u := .type "list") (by rfl) G.list (by decide +kernel) rfl) pa_nil))) (pe_callB call_isi (by rfl) G.isinstance (by decide +kernel) (pa_cons (pv 1) (pa_cons (pe_bltn (v := .ty "list") (u := .type "list") (by rfl) G.list (by decide +kernel) rfl) pa_nil))) (nomark _)) (pw_or (pt_cmpR op_ne (pe_callB call_isi (by rfl) G.isinstance (by decide +kernel) (pa_cons (pv 0) (pa_cons (pe_bltn (v := .ty "tuple") (u := .type "tuple") (by rfl) G.tuple (by decide +kernel) rfl) pa_nil))) (pe_callB call_isi (by rfl) G.isinstance (by decide +kernel) (pa_cons (pv 1) (pa_cons (pe_bltn (v := .ty "tuple") (u := .type "tuple") (by rfl) G.tuple (by decide +kernel) rfl) pa_nil))) (nomark _)) (pw_or1 (pt_cmpR op_ne (pe_callB callLenS (by rfl) G.len PySem.boot_len (pa_cons (pv 0) pa_nil)) (pe_callB callLenS (by rfl) G.len PySem.boot_len (pa_cons (pv 1) pa_nil)) (nomark _))))))
          (pss_one ps_never)
          pss_nil)
        (pss_one (ps_ret (pe_cmpR (op_eqD hr.units) (pe_lc (own := [("k", 2)]) rfl sc_l_like.nd (pi_range1 (by rfl) G.range (pa_cons (pe_callB callLenS (by rfl) G.len PySem.boot_len (pa_cons (pv 1) pa_nil)) pa_nil)) (blkOk_by (own := [("k", 2)]) (N := ["told", "due", "k", "key"]) (sc := defScope st_l_like) (by decide +kernel)) (fun _ _ _ _ _ => (pg_name (i := 2) sc_l_like.nd rfl (Or.inl rfl))) (fun _ _ _ _ _ => (pts_one (pt_not (pt_val (C8.pe_c c_l_like hr (Nat.le_refl _) rfl (pa_cons (pe_ix (ix_tupK (K := K) rfl) (pv 0) (pv 2) (fun _ _ => rfl)) (pa_cons (pe_ix (ix_tupK (K := K) rfl) (pv 1) (pv 2) (fun _ _ => rfl)) pa_nil))))))) (fun _ _ _ _ _ => (pv 2))) (pe_lst pa_nil) (nomark _)))))
        pss_nil)
      (pss_cons ps_never
      (pss_cons ps_never
      (pss_one ps_never))))), ?_⟩
    try dsimp only [cxOf]
    walk_at "go"
    refine x_isPt (b := false) hq (kit_ty (by decide +kernel)) ?_
    walk_at "go"
    refine x_isPt (b := true) hq (kit_ty (by decide +kernel)) ?_
    walk_at "go"
    refine x_isPt (b := false) hp (kit_ty (by decide +kernel)) ?_
    walk_at "go"
    refine x_isPt (b := false) hq (kit_ty (by decide +kernel)) ?_
    walk_at "go"
    rw [decide_eq_true rfl]
    walk_at "go"
    refine x_isPt (b := true) hp (kit_ty (by decide +kernel)) ?_
    walk_at "go"
    refine x_isPt (b := true) hq (kit_ty (by decide +kernel)) ?_
    walk_at "go"
    rw [decide_eq_true rfl]
    walk_at "go"
    refine x_lenT (SqT.of hp) ?_
    walk_at "go"
    refine x_lenT (SqT.of hq) ?_
    walk_at "go"
    rw [hlen, decide_eq_true rfl]
    walk_at "go"
    refine x_lenT (SqT.of hq) ?_
    walk_at "go"
    refine w_lcR1 (by omega) (by omega) (by rw [Int.toNat_natCast]; exact Nat.lt_of_le_of_lt (show _ ≤ 900 by omega) (by decide)) (fun i acc => acc = []) rfl ?_ ?_
    · rintro i H' acc hi s' rfl hai R S2 hR hS2
      have hi : i < ys.length := by omega
      have hx : xs[i]? = some (xs[i]'(by omega)) := List.getElem?_eq_getElem (by omega)
      have hy : ys[i]? = some ys[i] := List.getElem?_eq_getElem hi
      generalize xs[i]'(by omega) = x at hx
      generalize ys[i] = y at hy
      have ax : atI xs (0 + (i : Int)) = some x := atI_of (k := i) (by omega) hx
      have ay : atI ys (0 + (i : Int)) = some y := atI_of (k := i) (by omega) hy
      have hp' := s' _ _ hp
      have hq' := s' _ _ hq
      walk_at "go"
      refine ⟨rfl, ?_⟩
      walk_at "go"
      refine hal i x y H' _ s' hx hy fun H2 s2 => ?_
      walk_at "go"
      exact hS2 _ s2 rfl
    · rintro r H' acc hr0 s' hr' rfl
      walk_at "go"
      refine ⟨Nat.zero_le _, fun u hu => ?_⟩
      refine x_eqIL (ns := []) (ms := []) (SqL.of (upd_old hu hr')) (SqL.of upd_same) ?_
      rw [decide_eq_true rfl]
      walk_at "go"
      exact k _ (Same.trans s' (Same.new hu))
/-! ### Kind(..) with keywords -/
abbrev psK : List Str := ["self", "book", "handles", "rims", "measure", "share", "balance"]
def gK1 {α : Type} (us mv ws : List α) : List α := us ++ ws ++ mv
def gK2 {α : Type} (us mv ws : List α) : List α := us ++ mv.take 1 ++ ws ++ mv.drop 1
def gK3 {α : Type} (us mv ws : List α) : List α := us ++ (ws.drop 2).take 1 ++ ws.drop 4 ++ ws.take 1 ++ mv ++ (ws.drop 1).take 1 ++ (ws.drop 3).take 1
def gK5 {α : Type} (us mv ws : List α) : List α := us ++ ws ++ mv
theorem kbK1 (F : FnK K f fd) : ∃ mv : List Value, KBn K fd psK 4 ["measure"] (fun us ws => gK1 us mv ws) (fun vs zs => gK1 vs [.non, .non] zs) :=
  FunD.kbinds0 F 4 ["measure"] [("share", .non), ("balance", .non)] gK1 (by decide) (fun q hq => by simp at hq ⊢; rcases hq with e | e <;> simp [e]) (fun r1 r2 r3 => (r1.append r3).append r2)
    fun D doc pm an cdv ct us mv ws l1 l2 l3 => match us, mv, ws, l1, l2, l3 with | [_, _, _, _], [_, _], [_], _, _, _ => ⟨_, _, _, _, _, _, rfl, rfl, _, _, _, _, _, _, rfl, rfl, rfl⟩
theorem kbK2 (F : FnK K f fd) : ∃ mv : List Value, KBn K fd psK 4 ["share"] (fun us ws => gK2 us mv ws) (fun vs zs => gK2 vs [.non, .non] zs) :=
  FunD.kbinds0 F 4 ["share"] [("measure", .non), ("balance", .non)] gK2 (by decide) (fun q hq => by simp at hq ⊢; rcases hq with e | e <;> simp [e]) (fun r1 r2 r3 => ((r1.append (r2.take 1)).append r3).append (r2.drop 1))
    fun D doc pm an cdv ct us mv ws l1 l2 l3 => match us, mv, ws, l1, l2, l3 with | [_, _, _, _], [_, _], [_], _, _, _ => ⟨_, _, _, _, _, _, rfl, rfl, _, _, _, _, _, _, rfl, rfl, rfl⟩
theorem kbK3 (F : FnK K f fd) : ∃ mv : List Value, KBn K fd psK 1 ["rims", "share", "book", "balance", "handles"] (fun us ws => gK3 us mv ws) (fun vs zs => gK3 vs [.non] zs) :=
  FunD.kbinds0 F 1 ["rims", "share", "book", "balance", "handles"] [("measure", .non)] gK3 (by decide) (fun q hq => by simp at hq ⊢; simp [hq]) (fun r1 r2 r3 => (((((r1.append ((r3.drop 2).take 1)).append (r3.drop 4)).append (r3.take 1)).append r2).append ((r3.drop 1).take 1)).append ((r3.drop 3).take 1))
    fun D doc pm an cdv ct us mv ws l1 l2 l3 => match us, mv, ws, l1, l2, l3 with | [_], [_], [_, _, _, _, _], _, _, _ => ⟨_, _, _, _, _, _, rfl, rfl, rfl⟩
theorem kbK5 (F : FnK K f fd) : ∃ mv : List Value, KBn K fd psK 4 ["measure", "share", "balance"] (fun us ws => gK5 us mv ws) (fun vs zs => gK5 vs [] zs) :=
  FunD.kbinds0 F 4 ["measure", "share", "balance"] [] gK5 (by decide) (fun q hq => by cases hq) (fun r1 r2 r3 => (r1.append r3).append r2)
    fun D doc pm an cdv ct us mv ws l1 l2 l3 => match us, mv, ws, l1, l2, l3 with | [_, _, _, _], [], [_, _, _], _, _, _ => rfl
theorem bK4 (F : FnK K f fd) : ∃ ds, Vals ([.non, .non, .non] : List V) ds ∧ Binds K fd psK ds :=
  FunD.binds0 F 4 (by decide) rfl fun D doc pm an cdv ct us ks l1 l2 => match us, ks, l1, l2 with | [_, _, _, _], [_, _, _], _, _ => ⟨_, _, _, _, _, _, rfl, rfl, _, _, _, _, _, _, rfl, rfl, _, _, _, _, _, _, rfl, rfl, rfl⟩
theorem fnok_calm {k : Nat} {ps : List Str} {sp : Sp} (F : FnOk P w K mg base (L2N.CX P w) k f fd ps sp) : FnOk P w K mg base CX0 k f fd ps (fun vs H Q _ => sp vs H Q C8.E0) := by
  refine ⟨fun vs H Q E h => F.len _ _ _ _ h, fun A outer s H args us vs Q E hr e0 bt rv h => codeAny_mono (F.run A outer s H args us vs Q C8.E0 hr e0 bt rv h) fun r s' hq => ?_⟩
  cases r with
  | error e =>
    obtain ⟨_, _, _, _, _, _, _, _, _, _, _, _, _, z⟩ := hq
  | ok fl => cases fl <;> exact hq
/-! ### the Kind with just these counts -/
theorem x_isK {K : PySem.W.Frag} {H : Hp} {Q : VK} {a C dx : Addr} {fs : List (Str × V)} (c : C8.InsC K C) (h : H a = some (.ins C dx fs)) (k : Q (.bl true) H) : rIsi K [.ref a, .ref C] H Q :=
  ⟨_, _, _, _, _, rfl, .own C, .base (.ins h c.cl c.ha c.hn c.htk c.hm), c.me, k⟩
theorem alike_ints {H : Hp} {es : List Int} (hl : es.length ≤ 900) : AlikeAt spLikeO H (es.map V.int) (es.map V.int) := by
  refine ⟨rfl, by rw [List.length_map]; exact hl, fun i x y H' Q' s hx hy k => ?_⟩
  rw [hx] at hy
  injection hy with hy
  subst hy
  obtain ⟨z, _, rfl⟩ := List.mem_map.mp (List.mem_of_getElem? hx)
  exact ⟨some z, some z, rfl, by rw [decide_eq_true rfl]; exact k _ (Same.refl _)⟩
theorem alike_ov {sp : Sp} {H : Hp} (os : List (Option Int)) (hl : os.length ≤ 900) : AlikeAt (spOr sp spLikeO) H (os.map oV) (os.map oV) := by
  refine ⟨rfl, by rw [List.length_map]; exact hl, fun i x y H' Q' s hx hy k => ?_⟩
  rw [hx] at hy
  injection hy with hy
  subst hy
  obtain ⟨z, _, rfl⟩ := List.mem_map.mp (List.mem_of_getElem? hx)
  exact .inr ⟨z, z, rfl, by rw [decide_eq_true rfl]; exact k _ (Same.refl _)⟩
theorem alike_5 {H : Hp} {r q : Addr} {es : List Int} {h : Int} {m p sn : Option Int} (hl : es.length ≤ 900) (hr : H r = some (.tup (es.map V.int))) (hq : H q = some (.tup (es.map V.int))) : AlikeAt (spOr (spSqT spLikeO) spLikeO) H [.int h, .ref r, oV m, oV p, oV sn] [.int h, .ref q, oV m, oV p, oV sn] := by
  refine ⟨rfl, by show 5 ≤ 900; decide, fun i x y H' Q' s hx hy k => ?_⟩
  have one : ∀ z : Option Int, spOr (spSqT spLikeO) spLikeO [oV z, oV z] H' Q' C8.E0 := fun z => .inr ⟨z, z, rfl, by rw [decide_eq_true rfl]; exact k _ (Same.refl _)⟩
  match i, hx, hy with
  | 0, hx, hy => injection hx with hx; injection hy with hy; subst hx; subst hy; exact one (some h)
  | 1, hx, hy => injection hx with hx; injection hy with hy; subst hx; subst hy; exact .inl ⟨r, q, _, _, rfl, s _ _ hr, s _ _ hq, alike_ints hl, fun H2 s2 => k _ s2⟩
  | 2, hx, hy => injection hx with hx; injection hy with hy; subst hx; subst hy; exact one m
  | 3, hx, hy => injection hx with hx; injection hy with hy; subst hx; subst hy; exact one p
  | 4, hx, hy => injection hx with hx; injection hy with hy; subst hx; subst hy; exact one sn
def spIsKind (K : PySem.W.Frag) : Sp := fun vs H Q _ => ∃ (a c ep : Addr) (arm mod : Nat) (h : Int) (es : List Int) (m p sn : Option Int), vs = [.ref a, .int arm, .int mod, .ref c] ∧ KindAt K H a arm mod h es m p sn ∧ CtsAt H c ep h es m p sn ∧ es.length ≤ 900 ∧ ∀ H', Same H H' → Q (.bl true) H'
theorem ok_iskind (B : Bi K mg) (g_Kind : mg "Kind" = some (.ref (He.ga K "Kind"))) (g_Book : mg "Book" = some (.ref (He.ga K "Book"))) (iK : C8.InsC K (He.ga K "Kind")) (iB : C8.InsC K (He.ga K "Book")) (c_l_like : C8.Cal P w K mg base 3 "_law_like" (spSqL (spOr (spSqT spLikeO) spLikeO)) []) (F : FnP K "_law_is_kind" st_l_is_kind f fd) : FnOk P w K mg base CX0 4 f fd ["told", "arm", "mod", "counts"] (spIsKind K) := by
  refine F.ok sc_l_is_kind (fun vs H Q E h => ?_) (fun cdv A outer s H vs Q E hr h => ?_)
  · obtain ⟨a, c, ep, arm, mod, h, es, m, p, sn, rfl, _⟩ := h
    rfl
  · obtain ⟨a, c, ep, arm, mod, hh, es, m, p, sn, rfl, hK, hC, hl, k⟩ := h
    have G := B
    have cK := G.cls_Kind
    have cB := G.cls_Book
    have n0 := G.na_Book_arms
    have n00 := G.na_Book_modulus
    have n1 := G.na_Kind_book
    have n2 := G.na_Kind_handles
    have n3 := G.na_Kind_rims
    have n4 := G.na_Kind_measure
    have n5 := G.na_Kind_share
    have n6 := G.na_Kind_balance
    obtain ⟨dx, bk, r, hK, ⟨db, hB⟩, hr0⟩ := hK
    have hc := hC.c_
    have he := hC.e_
    refine ⟨_, PSs.nox ((pss_cons (ps_if (PW.pt (pw_or (pt_not (pt_val (pe_callB call_isi (by rfl) G.isinstance (by decide +kernel) (pa_cons (pv 0) (pa_cons (pe_glob (v := .ref (He.ga K "Kind")) rfl g_Kind rfl) pa_nil))))) (pw_or (pt_not (pt_val (pe_callB call_isi (by rfl) G.isinstance (by decide +kernel) (pa_cons (pe_fld (pv 0) (by rfl)) (pa_cons (pe_glob (v := .ref (He.ga K "Book")) rfl g_Book rfl) pa_nil))))) (pw_or1 (pt_not (pt_val (C8.pe_c c_l_like hr (by decide) rfl (pa_cons (pe_lst (pa_cons (pe_fld (pe_fld (pv 0) (by rfl)) (by rfl)) (pa_cons (pe_fld (pe_fld (pv 0) (by rfl)) (by rfl)) pa_nil))) (pa_cons (pe_lst (pa_cons (pv 1) (pa_cons (pv 2) pa_nil))) pa_nil)))))))))
        (pss_one ps_never)
        pss_nil)
      (pss_one (ps_ret (C8.pe_c c_l_like hr (by decide) rfl (pa_cons (pe_lst (pa_cons (pe_fld (pv 0) (by rfl)) (pa_cons (pe_fld (pv 0) (by rfl)) (pa_cons (pe_fld (pv 0) (by rfl)) (pa_cons (pe_fld (pv 0) (by rfl)) (pa_cons (pe_fld (pv 0) (by rfl)) pa_nil)))))) (pa_cons (pe_op op_cat (pe_lst (pa_cons (pe_ix ix_list (pv 3) pe_int (fun _ _ => rfl)) (pa_cons (pe_callTy (call_tupOf rfl) (by rfl) G.tuple (by decide +kernel) (pa_cons (pe_ix ix_list (pv 3) pe_int (fun _ _ => rfl)) pa_nil)) pa_nil))) (pe_slice sl_list (pv 3) (po_some pe_int) po_none)) pa_nil))))))), ?_⟩
    try dsimp only [cxOf]
    walk_at "go"
    refine x_isK iK hK ?_
    walk_at "go"
    refine x_isK iB hB ?_
    walk_at "go"
    refine ⟨by show 2 ≤ sizeLine; decide, fun q hq => ?_⟩
    walk_at "go"
    refine ⟨by show 2 ≤ sizeLine; decide, fun q2 hq2 => ?_⟩
    refine ⟨q, q2, _, _, rfl, upd_old hq2 upd_same, upd_same, alike_ov [some (arm : Int), some (mod : Int)] (by show 2 ≤ 900; decide), fun H1 s1 => ?_⟩
    have s2 : Same H H1 := Same.trans (Same.trans (Same.new hq) (Same.new hq2)) s1
    have hK1 := s2 _ _ hK
    have hc1 := s2 _ _ hc
    have he1 := s2 _ _ he
    have hr1 := s2 _ _ hr0
    walk_at "go"
    refine ⟨by show 5 ≤ sizeLine; decide, fun q3 hq3 => ?_⟩
    walk_at "go"
    refine x_tupL (SqL.of (upd_old hq3 he1)) fun q4 hq4 => ?_
    walk_at "go"
    refine ⟨by show 2 ≤ sizeLine; decide, fun q5 hq5 => ?_⟩
    walk_at "go"
    refine x_slL (SqL.of (upd_old hq5 (upd_old hq4 (upd_old hq3 hc1)))) fun q6 hq6 => ?_
    refine x_cat (upd_old hq6 upd_same) upd_same (by show 2 + 3 ≤ sizeLine; decide) fun q7 hq7 => ?_
    walk_at "go"
    refine ⟨q3, q7, _, _, rfl, upd_old hq7 (upd_old hq6 (upd_old hq5 (upd_old hq4 upd_same))), upd_same, ?_, fun H2 z2 => k _ ?_⟩
    · exact alike_5 hl (upd_old hq7 (upd_old hq6 (upd_old hq5 (upd_old hq4 (upd_old hq3 hr1))))) (upd_old hq7 (upd_old hq6 (upd_old hq5 upd_same)))
    · exact Same.trans s2 (Same.trans (Same.new hq3) (Same.trans (Same.new hq4) (Same.trans (Same.new hq5) (Same.trans (Same.new hq6) (Same.trans (Same.new hq7) z2)))))
/-! ### the Kind as the law makes it -/
theorem x_makeK {C : Addr} {n m : Nat} {sp : Sp} {gV : List V → List V → List V} {E : XK} {t tk : TA} {σ : L2.St} {H : Hp} {Q : VK} (h : t σ H fun vs H1 => tk σ H1 fun zs H2 => vs.length = n ∧ zs.length = m ∧ ∀ x dx, H2 x = none → H2 dx = none → dx ≠ x → sp (gV (.ref x :: vs) zs) (upd (upd H2 dx (.own x)) x (.ins C dx [])) (fun v H3 => v = .non ∧ Q (.ref x) H3) E) : tMakeK C n m sp gV E t tk σ H Q := h
theorem same_made {H H' : Hp} {x dx : Addr} {u v : HO} (hx : H x = none) (hd : H dx = none) (k : Kp x (upd (upd H dx v) x u) H') : Same H H' := fun q o h => k q o (fun e => by rw [e, hx] at h; cases h) (by
  rw [upd_ne (fun e => by rw [e, hx] at h; cases h), upd_ne (fun e => by rw [e, hd] at h; cases h)]
  exact h)
theorem book_made {K : PySem.W.Frag} {H : Hp} {arm mod : Nat} {Q : Addr → Hp → Prop} {E : XK} (ha1 : 1 ≤ arm) (ha2 : arm ≤ 12) (hm1 : mod ≠ 1) (hm2 : mod ≤ 24) (k : ∀ xb H1, Same H H1 → BookAt K H1 xb arm mod → Q xb H1) :
    ∀ x dx, H x = none → H dx = none → dx ≠ x → spBook K (.ref x :: ([.int arm, .int mod] ++ [])) (upd (upd H dx (.own x)) x (.ins (He.ga K "Book") dx [])) (fun v H2 => v = .non ∧ Q x H2) E := by
  intro x dx hx hd ne
  refine ⟨x, dx, arm, mod, rfl, upd_same, ha1, ha2, hm1, hm2, rfl, k x _ ?_ ⟨dx, upd_same⟩⟩
  rw [upd_upd]
  exact same_made hx hd fun _ _ _ z => z
abbrev spKindC (K : PySem.W.Frag) : Sp := fun vs H Q _ => spKind K vs H Q C8.E0
theorem kind_made {K : PySem.W.Frag} {H : Hp} {x dx xb rp : Addr} {arm mod : Nat} {h : Int} {es : List Int} {m p sn : Option Int} {Q : VK} {E : XK} (hx : H x = none) (hd : H dx = none) (hB : BookAt K H xb arm mod) (ha2 : arm ≤ 12) (hm2 : mod ≤ 24) (hrp : H rp = some (.lst (es.map V.int)) ∨ H rp = some (.tup (es.map V.int))) (hl : es.length ≤ 900) (hhb : h.natAbs ≤ 1000000) (hm : m.getD 0 < 1073741824) (hp : p.getD 0 < 1073741824) (hf : Formed h m p sn) (hb : brk arm mod h es m p sn = "")
    (k : ∀ H', Same H H' → KindAt K H' x arm mod h es m p sn → Q (.ref x) H') : spKindC K [.ref x, .ref xb, .int h, .ref rp, oV m, oV p, oV sn] (upd (upd H dx (.own x)) x (.ins (He.ga K "Kind") dx [])) (fun v H2 => v = .non ∧ Q (.ref x) H2) E := by
  have sm : Same H (upd (upd H dx (.own x)) x (.ins (He.ga K "Kind") dx [])) := same_made hx hd fun _ _ _ z => z
  exact ⟨x, dx, xb, rp, arm, mod, h, es, m, p, sn, rfl, upd_same, hB.same sm, by omega, by omega, hrp.elim (fun e => .inl (sm _ _ e)) (fun e => .inr (sm _ _ e)), hl, hhb, hm, hp, fun _ _ H' kp hK => ⟨rfl, k H' (same_made hx hd kp) hK⟩, fun z => absurd hf z, fun _ z => absurd hb z⟩
def spKMade (K : PySem.W.Frag) : Sp := fun vs H Q _ => ∃ (c ep : Addr) (arm mod : Nat) (h : Int) (es : List Int) (m p sn : Option Int), vs = [.int arm, .int mod, .ref c] ∧ CtsAt H c ep h es m p sn ∧ 1 ≤ arm ∧ arm ≤ 12 ∧ mod ≠ 1 ∧ mod ≤ 24 ∧ es.length ≤ 900 ∧ h.natAbs ≤ 1000000 ∧ m.getD 0 < 1073741824 ∧ p.getD 0 < 1073741824 ∧ Formed h m p sn ∧ brk arm mod h es m p sn = "" ∧ ∀ a H', Same H H' → KindAt K H' a arm mod h es m p sn → Q (.ref a) H'
theorem ok_kmade {f1 : Addr} {fd1 : FuncData} (B : Bi K mg) (g_Kind : mg "Kind" = some (.ref (He.ga K "Kind"))) (M_Kind : Mk K (He.ga K "Kind") f1) (FK : FnK K f1 fd1) (F_Kind : FnOk P w K mg base CX0 4 f1 fd1 psK (spKindC K)) (mk_Book_2 : C8.Mak P w K mg base 2 "Book" (He.ga K "Book") (spBook K) []) (F : FnP K "_law_kind_made" st_l_kind_made f fd) : FnOk P w K mg base CX0 6 f fd ["arm", "mod", "counts"] (spKMade K) := by
  obtain ⟨mv1, kb_Kind_measure⟩ := kbK1 FK
  obtain ⟨mv2, kb_Kind_share⟩ := kbK2 FK
  obtain ⟨mv3, kb_Kind_rimssharebookbalancehandles⟩ := kbK3 FK
  have mk_Kind_3 : C8.Mak P w K mg base 4 "Kind" (He.ga K "Kind") (spKindC K) [.non, .non, .non] := by
    obtain ⟨ds, vd, bd⟩ := bK4 FK
    exact ⟨_, _, _, _, M_Kind, F_Kind, g_Kind, bd, vd⟩
  refine F.ok sc_l_kind_made (fun vs H Q E h => ?_) (fun cdv A outer s H vs Q E hr h => ?_)
  · obtain ⟨c, ep, arm, mod, h, es, m, p, sn, rfl, _⟩ := h
    rfl
  · obtain ⟨c, ep, arm, mod, hh, es, m, p, sn, rfl, hC, ha1, ha2, hm1, hm2, hl, hhb, hm, hp, hf, hb, k⟩ := h
    have G := B
    have hc := hC.c_
    have he := hC.e_
    refine ⟨_, PSs.nox ((pss_cons (ps_asg (pv 2) (pg_unl rfl (pgs_cons (pg_name (i := 3) sc_l_kind_made.nd rfl (Or.inl rfl)) (pgs_cons (pg_name (i := 4) sc_l_kind_made.nd rfl (Or.inl rfl)) (pgs_cons (pg_name (i := 5) sc_l_kind_made.nd rfl (Or.inl rfl)) (pgs_cons (pg_name (i := 6) sc_l_kind_made.nd rfl (Or.inl rfl)) (pgs_cons (pg_name (i := 7) sc_l_kind_made.nd rfl (Or.inl rfl)) pgs_nil)))))))
      (pss_cons (ps_if (pt_cmpR op_eq (pv 3) pe_int (nomark _))
        (pss_one (ps_ret (pe_makeK M_Kind F_Kind (hr.mono (by decide)) rfl g_Kind kb_Kind_measure pass0 (pa_cons (C8.pe_mk mk_Book_2 hr (by decide) rfl (pa_cons (pv 0) (pa_cons (pv 1) pa_nil))) (pa_cons (pv 3) (pa_cons (pe_callTy callListS (by rfl) G.list (by decide +kernel) (pa_cons (pv 4) pa_nil)) pa_nil))) (pk_cons (pv 5) pk_nil))))
        pss_nil)
      (pss_cons (ps_if (PW.pt (pw_and (pt_cmpR op_gt (pv 3) pe_int (nomark _)) (pw_and1 (pt_cmpR op_isNn (pv 7) pe_non (nomark _)))))
        (pss_one (ps_ret (pe_makeK M_Kind F_Kind (hr.mono (by decide)) rfl g_Kind kb_Kind_share pass0 (pa_cons (C8.pe_mk mk_Book_2 hr (by decide) rfl (pa_cons (pv 0) (pa_cons (pv 1) pa_nil))) (pa_cons (pv 3) (pa_cons (pe_callTy (call_tupOf rfl) (by rfl) G.tuple (by decide +kernel) (pa_cons (pv 4) pa_nil)) pa_nil))) (pk_cons (pv 6) pk_nil))))
        pss_nil)
      (pss_cons (ps_if (pt_cmpR op_gt (pv 3) pe_int (nomark _))
        (pss_one (ps_ret (pe_makeK0 M_Kind F_Kind (hr.mono (by decide)) rfl g_Kind kb_Kind_rimssharebookbalancehandles pass0 (pk_cons (pe_callTy callListS (by rfl) G.list (by decide +kernel) (pa_cons (pv 4) pa_nil)) (pk_cons (pv 6) (pk_cons (C8.pe_mk mk_Book_2 hr (by decide) rfl (pa_cons (pv 0) (pa_cons (pv 1) pa_nil))) (pk_cons (pv 7) (pk_cons (pv 3) pk_nil))))))))
        pss_nil)
      (pss_one (ps_ret (C8.pe_mk mk_Kind_3 hr (by decide) rfl (pa_cons (C8.pe_mk mk_Book_2 hr (by decide) rfl (pa_cons (pv 0) (pa_cons (pv 1) pa_nil))) (pa_cons (pv 3) (pa_cons (pe_callTy callListS (by rfl) G.list (by decide +kernel) (pa_cons (pv 4) pa_nil)) pa_nil))))))))))), ?_⟩
    try dsimp only [cxOf]
    walk_at "go"
    refine x_iteD (fun c1 => ?_) (fun c1 => ?_)
    · walk_at "go"
      refine x_makeK ?_
      walk_at "go"
      refine book_made ha1 ha2 hm1 hm2 fun xb H1 s1 hB => ?_
      have he1 := s1 _ _ he
      walk_at "go"
      refine x_listL (SqL.of he1) fun q hq => ?_
      walk_at "go"
      refine ⟨rfl, rfl, fun x dx hx hd ne => ?_⟩
      obtain ⟨_, _, f3, f4⟩ := id hf
      obtain rfl : p = none := by cases p with | none => rfl | some _ => exact absurd (f3.mp rfl) (by omega)
      obtain rfl : sn = none := f4.elim id fun z => absurd z.1 (by omega)
      exact kind_made hx hd (hB.same (Same.new hq)) ha2 hm2 (.inl upd_same) hl hhb hm hp hf hb fun H' z hK => k _ _ (Same.trans s1 (Same.trans (Same.new hq) z)) hK
    walk_at "go"
    refine x_iteD (fun c2 => ?_) (fun c2 => ?_)
    · walk_at "go"
      cases sn with
      | none =>
        rw [decide_eq_true (show oV none = V.non from rfl)]
        walk_at "go"
        refine x_makeK ?_
        walk_at "go"
        refine book_made ha1 ha2 hm1 hm2 fun xb H1 s1 hB => ?_
        have he1 := s1 _ _ he
        walk_at "go"
        refine x_tupL (SqL.of he1) fun q hq => ?_
        walk_at "go"
        refine ⟨rfl, rfl, fun x dx hx hd ne => ?_⟩
        obtain ⟨_, f2, f3, f4⟩ := id hf
        obtain rfl : m = none := by cases m with | none => rfl | some _ => exact absurd (f2.mp rfl) (by omega)
        exact kind_made hx hd (hB.same (Same.new hq)) ha2 hm2 (.inr upd_same) hl hhb hm hp hf hb fun H' z hK => k _ _ (Same.trans s1 (Same.trans (Same.new hq) z)) hK
      | some z =>
        rw [decide_eq_false (show ¬ oV (some z) = V.non from fun e => by cases e)]
        walk_at "go"
        rw [decide_eq_true c2]
        walk_at "go"
        refine x_makeK ?_
        walk_at "go"
        refine x_listL (SqL.of he) fun q hq => ?_
        walk_at "go"
        refine book_made ha1 ha2 hm1 hm2 fun xb H1 s1 hB => ?_
        walk_at "go"
        refine ⟨rfl, rfl, fun x dx hx hd ne => ?_⟩
        obtain ⟨_, f2, f3, f4⟩ := id hf
        obtain rfl : m = none := by cases m with | none => rfl | some _ => exact absurd (f2.mp rfl) (by omega)
        exact kind_made hx hd hB ha2 hm2 (.inl (s1 _ _ upd_same)) hl hhb hm hp hf hb fun H' z hK => k _ _ (Same.trans (Same.new hq) (Same.trans s1 z)) hK
    · walk_at "go"
      refine x_iteD (fun c3 => absurd c3 c2) fun _ => ?_
      walk_at "go"
      refine book_made ha1 ha2 hm1 hm2 fun xb H1 s1 hB => ?_
      have he1 := s1 _ _ he
      walk_at "go"
      refine x_listL (SqL.of he1) fun q hq => ?_
      walk_at "go"
      intro x dx hx hd ne
      obtain ⟨f1, f2, f3, f4⟩ := id hf
      obtain rfl : m = none := by cases m with | none => rfl | some _ => exact absurd (f2.mp rfl) (by omega)
      obtain rfl : p = none := by cases p with | none => rfl | some _ => exact absurd (f3.mp rfl) (by omega)
      obtain rfl : sn = none := f4.elim id fun z => absurd z.1 (by omega)
      exact kind_made hx hd (hB.same (Same.new hq)) ha2 hm2 (.inl upd_same) hl hhb hm hp hf hb fun H' z hK => k _ _ (Same.trans s1 (Same.trans (Same.new hq) z)) hK
section
variable {σ : L2.St} {Q : VK} {te : TE} {tt : TT} {g : TG} {vs : List Nat}
/-- [e for k in range(n) if t], drawing from the bag at b; what is said of the items stays when all but the list in the making stays -/
theorem w_lcR1B {H : Hp} {b l : Addr} {n : Int} (B0 : BagAt H b l) (h1 : -(2 ^ 62) ≤ n) (h2 : n < 2 ^ 62) (hz : n.toNat < sizeLine) (Iv : Addr → Nat → List V → Hp → Prop) (mono : ∀ p i acc H1 H2, Kp p H1 H2 → Iv p i acc H1 → Iv p i acc H2) (I0 : ∀ p, H p = none → Iv p 0 [] H)
    (turn : ∀ p i H' acc, H p = none → p ≠ b → i < n.toNat → Kp b H H' → BagAt H' b l → H' p = some (.lst acc) → Iv p i acc H' → acc.length ≤ i → ∀ (R : VK) (S : Hp → Prop), (∀ y H4, Kp b H' H4 → BagAt H4 b l → Iv p (i + 1) (acc ++ [y]) H4 → R y H4) → (∀ H3, Kp b H' H3 → BagAt H3 b l → Iv p (i + 1) acc H3 → S H3) →
      g (.int (0 + i)) (wipe σ vs) H' fun σ2 H2 => wipe σ2 vs = wipe σ vs ∧ tt σ2 H2 fun b H3 => if b = true then te σ2 H3 R else S H3)
    (done : ∀ p H' acc, H p = none → p ≠ b → Kp b H H' → BagAt H' b l → H' p = some (.lst acc) → Iv p n.toNat acc H' → Q (.ref p) H') : rLcR1 g tt te vs σ [.int n] H Q := by
  refine ⟨n, rfl, h1, h2, fun p hp => ?_⟩
  have npb : p ≠ b := fun e => B0.b_some (e ▸ hp)
  have npl : p ≠ l := fun e => B0.l_some (e ▸ hp)
  refine lc_range (lo := 0) (n := n.toNat) (fun i H' => ∃ acc, Kp b H H' ∧ BagAt H' b l ∧ H' p = some (.lst acc) ∧ Iv p i acc H' ∧ acc.length ≤ i) ⟨[], fun x o _ e => Same.new hp x o e, B0.upd npb npl, upd_same, mono _ _ _ _ _ Kp.mutp (I0 p hp), Nat.le_refl _⟩ ?_ ?_
  · rintro i H' hi ⟨acc, k, B1, hd, iv, hl⟩
    refine turn p i H' acc hp npb hi k B1 hd iv hl _ _ (fun y H4 q B2 iv' => ?_) fun H3 q B2 iv' => ?_
    · refine ⟨acc, q _ _ npb hd, by omega, acc ++ [y], fun x o n e => ?_, B2.upd npb npl, upd_same, mono _ _ _ _ _ Kp.mutp iv', by rw [List.length_append, List.length_singleton]; omega⟩
      rw [upd_ne (fun z => by rw [z, hp] at e; cases e)]
      exact q _ _ n (k _ _ n e)
    · exact ⟨acc, fun x o n e => q _ _ n (k _ _ n e), B2, q _ _ npb hd, iv', by omega⟩
  · rintro H' ⟨acc, k, B1, hd, iv, _⟩
    exact done p H' acc hp npb k B1 hd iv
end
/-! ### rims with a fault -/
theorem cut_ints (ns : List Int) (lo hi : Option Int) : ∃ ms : List Int, cutV (ns.map V.int) lo hi = ms.map V.int ∧ ms.length ≤ ns.length ∧ ∀ m ∈ ms, m ∈ ns := by
  unfold cutV
  rw [← List.map_drop, ← List.map_take]
  refine ⟨_, rfl, ?_, fun m hm => List.mem_of_mem_drop (List.mem_of_mem_take hm)⟩
  rw [List.length_take, List.length_drop]
  omega
theorem redN_abs {mod : Nat} {n : Int} {b : Nat} (hm : mod ≤ b) (hn : n.natAbs ≤ b) : (redN mod n).natAbs ≤ b := by
  unfold redN
  by_cases h : mod = 0
  · rw [if_pos h]; exact hn
  · rw [if_neg h]
    have h1 := Int.emod_nonneg n (show (mod : Int) ≠ 0 by omega)
    have h2 := Int.emod_lt_of_pos n (show 0 < (mod : Int) by omega)
    omega
theorem int_ne_bag {H H' : Hp} {b l q : Addr} {es : List Int} (hB : BagAt H b l) (h : H q = some (.lst (es.map V.int))) : q ≠ b := fun z => by
  obtain ⟨ns, i, g, e, xx, qq, hb, _⟩ := hB.ex
  rw [z, hb] at h
  cases es with
  | nil => cases h
  | cons _ _ => cases h
def spEdged : Sp := fun vs H Q _ => ∃ (b l c ep : Addr) (mod N : Nat) (h : Int) (es : List Int) (m p sn : Option Int), vs = [.ref b, .int mod, .ref c] ∧ BagAt H b l ∧ CtsAt H c ep h es m p sn ∧ mod ≤ 24 ∧ es ≠ [] ∧ es.length ≤ 800 ∧ 24 ≤ N ∧ N ≤ 100000 ∧ (∀ e ∈ es, e.natAbs ≤ N) ∧ ∀ (q : Addr) (H' : Hp) (es' : List Int), BagAt H' b l → Kp b H H' → H' q = some (.lst (es'.map V.int)) → es'.length ≤ es.length + 1 → (∀ e ∈ es', e.natAbs ≤ N + 40) → Q (.ref q) H'
theorem ok_edged (B : Bi K mg) (c_l_draw : C8.Cal P w K mg base 1 "_law_draw" spDraw []) (c_l_of : C8.Cal P w K mg base 2 "_law_of" spOf []) (c_l_red : C8.Cal P w K mg base 1 "_law_red" spRed []) (F : FnP K "_law_edged" st_l_edged f fd) : FnOk P w K mg base CX0 3 f fd ["bag", "mod", "counts"] spEdged := by
  refine F.ok sc_l_edged (fun vs H Q E h => ?_) (fun cdv A outer s H vs Q E hr h => ?_)
  · obtain ⟨b, l, c, ep, mod, N, h, es, m, p, sn, rfl, _⟩ := h
    rfl
  · obtain ⟨b, l, c, ep, mod, N, hh, es, m, p, sn, rfl, hB, hC, hm, hne, hl, hN, hN2, heb, k⟩ := h
    have G := B
    have hc := hC.c_
    have he := hC.e_
    refine ⟨_, PSs.nox ((pss_cons (ps_set (i := 3) sc_l_edged.nd rfl (Or.inl rfl) (pe_callTy callListS (by rfl) G.list (by decide +kernel) (pa_cons (pe_ix ix_list (pv 2) pe_int (fun _ _ => rfl)) pa_nil)))
      (pss_cons (ps_set (i := 4) sc_l_edged.nd rfl (Or.inl rfl) (C8.pe_c c_l_draw hr (by decide) rfl (pa_cons (pv 0) (pa_cons (pe_callB callLenS (by rfl) G.len PySem.boot_len (pa_cons (pv 3) pa_nil)) pa_nil))))
      (pss_cons (ps_set (i := 5) sc_l_edged.nd rfl (Or.inl rfl) (C8.pe_c c_l_draw hr (by decide) rfl (pa_cons (pv 0) (pa_cons pe_int pa_nil))))
      (pss_cons (ps_if (pt_cmpR op_eq (pv 5) pe_int (nomark _))
        (pss_one (ps_ret (pe_lst pa_nil)))
        pss_nil)
      (pss_cons (ps_if (pt_cmpR op_eq (pv 5) pe_int (nomark _))
        (pss_one (ps_ret (pe_revL (pv 3))))
        pss_nil)
      (pss_cons (ps_if (pt_cmpR op_eq (pv 5) pe_int (nomark _))
        (pss_one (ps_ret (pe_op op_cat (pe_lst (pa_cons (pe_op op_sub (pe_ix ix_list (pv 3) pe_int (fun _ _ => rfl)) (pv 1)) pa_nil)) (pe_slice sl_list (pv 3) (po_some pe_int) po_none))))
        pss_nil)
      (pss_cons (ps_if (pt_cmpR op_eq (pv 5) pe_int (nomark _))
        (pss_one (ps_ret (pe_op op_cat (pe_slice sl_list (pv 3) po_none (po_some (pe_un un_neg pe_int))) (pe_lst (pa_cons (pe_op op_add (pe_ix ix_list (pv 3) (pe_un un_neg pe_int) (fun _ _ => rfl)) (pv 1)) pa_nil)))))
        pss_nil)
      (pss_cons (ps_asg (C8.pe_c c_l_red hr (by decide) rfl (pa_cons (pv 1) (pa_cons (pe_op op_add (pe_ix ix_list (pv 3) (pv 4) (fun _ _ => rfl)) (C8.pe_c c_l_of hr (by decide) rfl (pa_cons (pv 0) (pa_cons (pe_lst (pa_cons pe_int (pa_cons (pe_un un_neg pe_int) (pa_cons pe_int (pa_cons pe_int (pa_cons pe_int pa_nil)))))) pa_nil)))) pa_nil))) (pg_sub (pv 3) (pv 4) set_list))
      (pss_one (ps_ret (pe_ifExp (pt_cmpR op_eq (pv 5) pe_int (nomark _)) (pe_callB cr_sortedI (by rfl) G.sorted (by decide +kernel) (pa_cons (pv 3) pa_nil)) (pv 3))))))))))))), ?_⟩
    try dsimp only [cxOf]
    walk_at "go"
    refine x_listL (SqL.of he) fun q hq => ?_
    have hB1 : BagAt (upd H q (.lst (es.map V.int))) b l := hB.new hq
    have kp1 : Kp b H (upd H q (.lst (es.map V.int))) := Kp.of (Same.new hq)
    have hq1 : (upd H q (.lst (es.map V.int))) q = some (.lst (es.map V.int)) := upd_same
    revert hB1 kp1 hq1
    generalize upd H q (.lst (es.map V.int)) = H1
    intro hB1 kp1 hq1
    have nqb := int_ne_bag (H' := H1) hB1 hq1
    have hpos : 0 < es.length := List.length_pos_iff.mpr hne
    walk_at "go"
    rw [List.length_map]
    refine ⟨b, l, (es.length : Nat), rfl, hB1, by omega, by omega, fun spot H2 h2 hB2 kp2 => ?_⟩
    have hq2 := kp2 _ _ nqb hq1
    walk_at "go"
    refine ⟨b, l, 6, rfl, hB2, by decide, by decide, fun pick H3 h3 hB3 kp3 => ?_⟩
    have hq3 := kp3 _ _ nqb hq2
    have kp13 := Kp.trans kp1 (Kp.trans kp2 kp3)
    have out : ∀ (t : Addr) (o : List Int) H4, Kp b H3 H4 → BagAt H4 b l → H4 t = some (.lst (o.map V.int)) → o.length ≤ es.length + 1 → (∀ e ∈ o, e.natAbs ≤ N + 40) → Q (.ref t) H4 := fun t o H4 k4 B4 ht h1 h2 => k t H4 o B4 (Kp.trans kp13 k4) ht h1 h2
    obtain ⟨e0, he0⟩ : ∃ e0, es[0]? = some e0 := ⟨_, List.getElem?_eq_getElem hpos⟩
    have a0 : atI (es.map V.int) 0 = some (.int e0) := atI_of (k := 0) rfl (by rw [List.getElem?_map, he0]; rfl)
    have m0 := heb e0 (List.mem_of_getElem? he0)
    obtain ⟨eL, meL, aL⟩ : ∃ eL, eL ∈ es ∧ atI (es.map V.int) (-1) = some (.int eL) := by
      obtain ⟨r, e, he⟩ : ∃ r e, es = r ++ [e] := ⟨_, _, (List.dropLast_concat_getLast hne).symm⟩
      exact ⟨e, by rw [he]; exact List.mem_append.mpr (.inr (List.mem_singleton_self e)), by rw [he, List.map_append]; exact atI_last _ _⟩
    have mL := heb eL meL
    obtain ⟨eS, heS⟩ : ∃ eS, es[spot]? = some eS := ⟨_, List.getElem?_eq_getElem (by omega)⟩
    have aS : atI (es.map V.int) (spot : Int) = some (.int eS) := atI_of (k := spot) rfl (by rw [List.getElem?_map, heS]; rfl)
    have mS := heb eS (List.mem_of_getElem? heS)
    have hin : ∀ e ∈ es, e.natAbs ≤ N + 40 := fun e hh => Nat.le_trans (heb e hh) (by omega)
    walk_at "go"
    refine x_iteD (fun c1 => ?_) (fun c1 => ?_)
    · walk_at "go"
      refine ⟨Nat.zero_le _, fun u hu => ?_⟩
      exact out u [] _ (Kp.of (Same.new hu)) (hB3.new hu) upd_same (Nat.zero_le _) fun e h => by cases h
    walk_at "go"
    refine x_iteD (fun c1 => ?_) (fun c1 => ?_)
    · walk_at "go"
      intro u hu
      refine out u es.reverse _ (Kp.of (Same.new hu)) (hB3.new hu) (by rw [upd_same, List.map_reverse]) (by rw [List.length_reverse]; omega) fun e h => hin e (List.mem_reverse.mp h)
    walk_at "go"
    refine x_iteD (fun c1 => ?_) (fun c1 => ?_)
    · walk_at "go"
      refine ⟨by show 1 ≤ sizeLine; decide, fun u hu => ?_⟩
      walk_at "go"
      refine x_slL (SqL.of (upd_old hu hq3)) fun v hv => ?_
      obtain ⟨ms, hms, hml, hmm⟩ := cut_ints es (some 1) none
      rw [hms]
      refine x_cat (upd_old hv upd_same) upd_same (by rw [List.length_map]; exact Nat.le_trans (show 1 + ms.length ≤ 801 by omega) (by decide)) fun t ht => ?_
      refine out t ((e0 - (mod : Int)) :: ms) _ (Kp.of (Same.trans (Same.new hu) (Same.trans (Same.new hv) (Same.new ht)))) (((hB3.new hu).new hv).new ht) upd_same (by rw [List.length_cons]; omega) fun e h => ?_
      rcases List.mem_cons.mp h with h | h
      · rw [h]; omega
      · exact hin e (hmm e h)
    walk_at "go"
    refine x_iteD (fun c1 => ?_) (fun c1 => ?_)
    · walk_at "go"
      refine x_slL (SqL.of hq3) fun v hv => ?_
      obtain ⟨ms, hms, hml, hmm⟩ := cut_ints es none (some (-1))
      rw [hms]
      walk_at "go"
      refine ⟨by show 1 ≤ sizeLine; decide, fun u hu => ?_⟩
      refine x_cat (upd_old hu upd_same) upd_same (by rw [List.length_map]; exact Nat.le_trans (show ms.length + 1 ≤ 801 by omega) (by decide)) fun t ht => ?_
      refine out t (ms ++ [eL + (mod : Int)]) _ (Kp.of (Same.trans (Same.new hv) (Same.trans (Same.new hu) (Same.new ht)))) (((hB3.new hv).new hu).new ht) (by rw [upd_same, List.map_append]; rfl) (by rw [List.length_append]; show ms.length + 1 ≤ _; omega) fun e h => ?_
      rcases List.mem_append.mp h with h | h
      · exact hin e (hmm e h)
      · rw [List.mem_singleton.mp h]; omega
    walk_at "go"
    refine ⟨by show 5 ≤ sizeLine; decide, fun u hu => ?_⟩
    have nub : u ≠ b := fun z => hB3.b_some (z ▸ hu)
    walk_at "go"
    refine ⟨b, l, u, [.int 1, .int (-1), .int 2, .int 3, .int 12], rfl, hB3.new hu, nub, upd_same, by decide, by decide, fun i v H4 hv hB4 kp4 => ?_⟩
    obtain ⟨z, rfl, hz⟩ : ∃ z : Int, v = .int z ∧ z.natAbs ≤ 12 := by
      match i, hv with
      | 0, hv => injection hv with hv; exact ⟨_, hv.symm, by decide⟩
      | 1, hv => injection hv with hv; exact ⟨_, hv.symm, by decide⟩
      | 2, hv => injection hv with hv; exact ⟨_, hv.symm, by decide⟩
      | 3, hv => injection hv with hv; exact ⟨_, hv.symm, by decide⟩
      | 4, hv => injection hv with hv; exact ⟨_, hv.symm, by decide⟩
    have kp34 : Kp b H3 H4 := Kp.trans (Kp.of (Same.new hu)) kp4
    have hq4 := kp34 _ _ nqb hq3
    walk_at "go"
    refine ⟨mod, _, rfl, by omega, ?_⟩
    have hx : ixN (es.map V.int).length (spot : Int) = some spot := ixN_of rfl (by rw [List.length_map]; omega)
    have bz : (redN mod (eS + z)).natAbs ≤ N + 40 := redN_abs (by omega) (by omega)
    generalize redN mod (eS + z) = y at bz
    walk_at "go"
    have nql : q ≠ l := fun z => hB.l_some (z ▸ hq)
    have kpF : Kp b H (upd H4 q (.lst ((es.map V.int).set spot (.int y)))) := fun x o n e => by
      rw [upd_ne (fun z => by rw [z, hq] at e; cases e)]
      exact (Kp.trans kp13 kp34) x o n e
    have hBF : BagAt (upd H4 q (.lst ((es.map V.int).set spot (.int y)))) b l := hB4.upd nqb nql
    have hqF : (upd H4 q (.lst ((es.map V.int).set spot (.int y)))) q = some (.lst ((es.set spot y).map V.int)) := by rw [upd_same, List.map_set]
    have bF : ∀ e ∈ es.set spot y, e.natAbs ≤ N + 40 := fun e h => by
      rcases List.mem_or_eq_of_mem_set h with h | h
      · exact hin e h
      · rw [h]; exact bz
    have lF : (es.set spot y).length = es.length := List.length_set
    revert kpF hBF hqF
    generalize upd H4 q (.lst ((es.map V.int).set spot (.int y))) = H5
    intro kpF hBF hqF
    refine x_iteD (fun c1 => ?_) (fun c1 => ?_)
    · walk_at "go"
      refine ⟨q, _, rfl, SqL.of hqF, fun ns' t hperm hsort ht => ?_⟩
      exact k t _ ns' (hBF.new ht) (Kp.trans kpF (Kp.of (Same.new ht))) upd_same (by rw [hperm.length_eq, lF]; omega) fun e h => bF e (hperm.mem_iff.mp h)
    · walk_at "go"
      exact k q _ _ hBF kpF hqF (by rw [lF]; omega) bF
/-! ### counts with one of them changed -/
structure Bd (N : Nat) (es : List Int) (m p : Option Int) : Prop where
  e : ∀ e ∈ es, e.natAbs ≤ N
  m : (m.getD 0).natAbs ≤ N
  p : (p.getD 0).natAbs ≤ N
theorem Bd.up {N M : Nat} {es : List Int} {m p : Option Int} (b : Bd N es m p) (h : N ≤ M) : Bd M es m p := ⟨fun e he => Nat.le_trans (b.e e he) h, Nat.le_trans b.m h, Nat.le_trans b.p h⟩
theorem cts_ne_bag {H H' : Hp} {b l q : Addr} {x1 x2 x3 x4 x5 : V} (hB : BagAt H b l) (h : H q = some (.lst [x1, x2, x3, x4, x5])) : q ≠ b := fun z => by
  obtain ⟨ns, i, g, e, xx, qq, hb, _⟩ := hB.ex
  rw [z, hb] at h
  cases h
def spBent : Sp := fun vs H Q _ => ∃ (b l c ep : Addr) (arm mod N : Nat) (h : Int) (es : List Int) (m p sn : Option Int), vs = [.ref b, .int arm, .int mod, .ref c] ∧ BagAt H b l ∧ CtsAt H c ep h es m p sn ∧ Formed h m p sn ∧ arm ≤ 12 ∧ mod ≤ 24 ∧ es ≠ [] ∧ es.length ≤ 800 ∧ 24 ≤ N ∧ N ≤ 50000 ∧ Bd N es m p ∧ ∀ (q ep' : Addr) (es' : List Int) (m' p' sn' : Option Int) (H' : Hp), BagAt H' b l → Kp b H H' → CtsAt H' q ep' h es' m' p' sn' → Formed h m' p' sn' → es'.length ≤ es.length + 1 → Bd (2 * N + 100) es' m' p' → Q (.ref q) H'
theorem ok_bent (B : Bi K mg) (c_l_draw : C8.Cal P w K mg base 1 "_law_draw" spDraw []) (c_l_of : C8.Cal P w K mg base 2 "_law_of" spOf []) (c_l_divisor : C8.Cal P w K mg base 1 "_law_divisor" (spLDiv K) []) (c_l_edged : C8.Cal P w K mg base 3 "_law_edged" spEdged []) (F : FnP K "_law_bent" st_l_bent f fd) : FnOk P w K mg base CX0 4 f fd ["bag", "arm", "mod", "counts"] spBent := by
  refine F.ok sc_l_bent (fun vs H Q E h => ?_) (fun cdv A outer s H vs Q E hr h => ?_)
  · obtain ⟨b, l, c, ep, arm, mod, N, h, es, m, p, sn, rfl, _⟩ := h
    rfl
  · obtain ⟨b, l, c, ep, arm, mod, N, hh, es, m, p, sn, rfl, hB, hC, hf, ha, hm, hne, hl, hN, hN2, hb, k⟩ := h
    have G := B
    have hc := hC.c_
    have he := hC.e_
    refine ⟨_, PSs.nox ((pss_cons (ps_set (i := 4) sc_l_bent.nd rfl (Or.inl rfl) (pe_callTy callListS (by rfl) G.list (by decide +kernel) (pa_cons (pv 3) pa_nil)))
      (pss_cons (ps_set (i := 5) sc_l_bent.nd rfl (Or.inl rfl) (C8.pe_c c_l_draw hr (by decide) rfl (pa_cons (pv 0) (pa_cons pe_int pa_nil))))
      (pss_cons (ps_if (PW.pt (pw_or (pt_cmpR op_eq (pv 5) pe_int (nomark _)) (pw_or1 (pt_cmpR op_eq (pe_ix ix_list (pv 3) pe_int (fun _ _ => rfl)) pe_int (nomark _)))))
        (pss_one (ps_asg (C8.pe_c c_l_edged hr (by decide) rfl (pa_cons (pv 0) (pa_cons (pv 2) (pa_cons (pv 3) pa_nil)))) (pg_sub (pv 4) pe_int set_list)))
        (pss_one (ps_if (pt_cmpR op_eq (pe_ix ix_list (pv 3) pe_int (fun _ _ => rfl)) pe_int (nomark _))
          (pss_cons (ps_set (i := 6) sc_l_bent.nd rfl (Or.inl rfl) (C8.pe_c c_l_divisor hr (by decide) rfl (pa_cons (pe_op op_cat (pe_lst (pa_cons (pv 2) pa_nil)) (pe_lc (own := [("num", 7)]) rfl sc_l_bent.nd (pi_list (pe_ix ix_list (pv 3) pe_int (fun _ _ => rfl))) (blkOk_by (own := [("num", 7)]) (N := ["bag", "arm", "mod", "counts", "found", "pick", "most", "num"]) (sc := defScope st_l_bent) (by decide +kernel)) (fun _ _ _ _ _ => (pg_name (i := 7) sc_l_bent.nd rfl (Or.inl rfl))) (fun _ _ _ _ _ => pts_nil) (fun _ _ _ _ _ => (pe_op op_add (pv 7) (pv 1))))) pa_nil)))
          (pss_one (ps_asg (C8.pe_c c_l_of hr (by decide) rfl (pa_cons (pv 0) (pa_cons (pe_lst (pa_cons pe_int (pa_cons (pe_un un_neg (pe_ix ix_list (pv 3) pe_int (fun _ _ => rfl))) (pa_cons (pe_op op_add (pe_ix ix_list (pv 3) pe_int (fun _ _ => rfl)) pe_int) (pa_cons (pe_op op_add (pv 6) pe_int) (pa_cons (pe_op op_mul pe_int (pv 6)) (pa_cons (pv 6) (pa_cons pe_int (pa_cons (pe_un un_neg pe_int) (pa_cons (pv 2) pa_nil)))))))))) pa_nil))) (pg_sub (pv 4) pe_int set_list))))
          (pss_one (ps_if (pt_cmpR op_eq (pv 5) pe_int (nomark _))
            (pss_one (ps_asg (C8.pe_c c_l_of hr (by decide) rfl (pa_cons (pv 0) (pa_cons (pe_lst (pa_cons pe_int (pa_cons (pe_un un_neg (pe_ix ix_list (pv 3) pe_int (fun _ _ => rfl))) (pa_cons (pe_op op_mul pe_int (pe_ix ix_list (pv 3) pe_int (fun _ _ => rfl))) (pa_cons (pe_op op_add (pe_ix ix_list (pv 3) pe_int (fun _ _ => rfl)) pe_int) (pa_cons (pv 1) (pa_cons (pe_op op_mul pe_int (pv 1)) (pa_cons pe_int (pa_cons (pe_un un_neg pe_int) pa_nil))))))))) pa_nil))) (pg_sub (pv 4) pe_int set_list)))
            (pss_one (ps_asg (C8.pe_c c_l_of hr (by decide) rfl (pa_cons (pv 0) (pa_cons (pe_lst (pa_cons pe_non (pa_cons pe_int (pa_cons pe_int (pa_cons (pe_un un_neg pe_int) pa_nil))))) pa_nil))) (pg_sub (pv 4) pe_int set_list))))))))
      (pss_one (ps_ret (pv 4))))))), ?_⟩
    try dsimp only [cxOf]
    walk_at "go"
    refine x_listL (SqL.of hc) fun q hq => ?_
    have hB1 : BagAt (upd H q (.lst [.int hh, .ref ep, oV m, oV p, oV sn])) b l := hB.new hq
    have s1 : Same H (upd H q (.lst [.int hh, .ref ep, oV m, oV p, oV sn])) := Same.new hq
    have hq1 : (upd H q (.lst [.int hh, .ref ep, oV m, oV p, oV sn])) q = some (.lst [.int hh, .ref ep, oV m, oV p, oV sn]) := upd_same
    revert hB1 s1 hq1
    generalize upd H q (.lst [.int hh, .ref ep, oV m, oV p, oV sn]) = H1
    intro hB1 s1 hq1
    have nqb := cts_ne_bag (H' := H1) hB1 hq1
    have nql : q ≠ l := fun z => hB.l_some (z ▸ hq)
    have ncb := cts_ne_bag (H' := H) hB hc
    have neb := int_ne_bag (H' := H) hB he
    walk_at "go"
    refine ⟨b, l, 4, rfl, hB1, by decide, by decide, fun pick H2 h2 hB2 kp2 => ?_⟩
    have kp12 : Kp b H H2 := Kp.trans (Kp.of s1) kp2
    have hq2 := kp2 _ _ nqb hq1
    have hc2 := kp12 _ _ ncb hc
    have he2 := kp12 _ _ neb he
    -- what is left: one of the five is put anew
    have out : ∀ (H3 : Hp) (ep' : Addr) (es' : List Int) (m' p' sn' : Option Int), BagAt H3 b l → Kp b H2 H3 → H3 ep' = some (.lst (es'.map V.int)) → ep' ≠ q → Formed hh m' p' sn' → es'.length ≤ es.length + 1 → Bd (2 * N + 100) es' m' p' → Q (.ref q) (upd H3 q (.lst [.int hh, .ref ep', oV m', oV p', oV sn'])) := fun H3 ep' es' m' p' sn' B3 k3 h3 n3 f3 l3 b3 => by
      refine k q ep' es' m' p' sn' _ (B3.upd nqb nql) (fun x o n e => ?_) ⟨upd_same, by rw [upd_ne n3]; exact h3⟩ f3 l3 b3
      rw [upd_ne (fun z => by rw [z, hq] at e; cases e)]
      exact (Kp.trans kp12 k3) x o n e
    have ints_ne : ∀ (H3 : Hp) (t : Addr) (o : List Int) (x : Addr) (x1 x3 x4 x5 : V), H3 x = some (.lst [x1, .ref t, x3, x4, x5]) → ∀ u : Addr, H3 u = some (.lst (o.map V.int)) → u ≠ x := fun H3 t o x x1 x3 x4 x5 h1 u h2 z => by
      rw [z, h1] at h2
      injection h2 with h2
      injection h2 with h2
      match o, h2 with
      | [], h2 => cases h2
      | [_], h2 => cases h2
      | _ :: _ :: _, h2 => injection h2 with _ h2; injection h2 with h2 _; cases h2
    have neq : ep ≠ q := ints_ne H2 _ es q _ _ _ _ hq2 ep he2
    have edged : ∀ (t : Addr) (H3 : Hp) (o : List Int), BagAt H3 b l → Kp b H2 H3 → H3 t = some (.lst (o.map V.int)) → o.length ≤ es.length + 1 → (∀ e ∈ o, e.natAbs ≤ N + 40) → Q (.ref q) (upd H3 q (.lst [.int hh, .ref t, oV m, oV p, oV sn])) := fun t H3 o B3 k3 h3 l3 b3 =>
      out H3 t o m p sn B3 k3 h3 (ints_ne H3 _ o q _ _ _ _ (k3 _ _ nqb hq2) t h3) hf l3 ⟨fun e h => Nat.le_trans (b3 e h) (by omega), Nat.le_trans hb.m (by omega), Nat.le_trans hb.p (by omega)⟩
    walk_at "go"
    refine x_iteD (fun c1 => ?_) (fun c1 => ?_)
    · walk_at "go"
      refine ⟨b, l, c, ep, mod, N, hh, es, m, p, sn, rfl, hB2, ⟨hc2, he2⟩, hm, hne, hl, hN, by omega, hb.e, fun t H3 o B3 k3 h3 l3 b3 => ?_⟩
      have hq3 := k3 _ _ nqb hq2
      walk_at "go"
      exact edged t H3 o B3 k3 h3 l3 b3
    walk_at "go"
    refine x_iteD (fun c2 => ?_) (fun c2 => ?_)
    · walk_at "go"
      refine ⟨b, l, c, ep, mod, N, hh, es, m, p, sn, rfl, hB2, ⟨hc2, he2⟩, hm, hne, hl, hN, by omega, hb.e, fun t H3 o B3 k3 h3 l3 b3 => ?_⟩
      have hq3 := k3 _ _ nqb hq2
      walk_at "go"
      exact edged t H3 o B3 k3 h3 l3 b3
    walk_at "go"
    refine x_iteD (fun c3 => ?_) (fun c3 => ?_)
    · walk_at "go"
      refine ⟨by show 1 ≤ sizeLine; decide, fun u hu => ?_⟩
      walk_at "go"
      refine w_lcL (xs := es.map V.int) (SqL.of (upd_old hu he2)) (by rw [List.length_map]; exact Nat.lt_of_le_of_lt hl (by decide)) (fun i acc => acc = ((es.map fun e => e + (arm : Int)).map V.int).take i) rfl ?_ ?_
      · rintro i x H' acc hi s' rfl hai R S2 hR2 hS2
        obtain ⟨e, rfl, hei⟩ := int_at hi
        walk_at "go"
        refine ⟨rfl, ?_⟩
        walk_at "go"
        refine hR2 _ _ (Same.refl _) ?_
        rw [take_snoc (show ((es.map fun e => e + (arm : Int)).map V.int)[i]? = some (.int (e + (arm : Int))) by rw [List.getElem?_map, List.getElem?_map, hei]; rfl)]
      rintro r H3 acc hr0 s3 hr3 rfl
      rw [List.length_map, List.take_of_length_le (by rw [List.length_map, List.length_map]; exact Nat.le_refl _)] at hr3
      have hu3 := s3 _ _ (show (upd H2 u (.lst [V.int (mod : Nat)])) u = some (.lst ([(mod : Int)].map V.int)) from upd_same)
      refine x_cat hu3 hr3 (by rw [List.length_map, List.length_map, List.length_map]; exact Nat.le_trans (show _ ≤ 901 by show 1 + es.length ≤ 901; omega) (by decide)) fun t ht => ?_
      have s4 : Same H2 (upd H3 t (.lst ([(mod : Int)].map V.int ++ (es.map fun e => e + (arm : Int)).map V.int))) := Same.trans (Same.new hu) (Same.trans s3 (Same.new ht))
      have ht4 : (upd H3 t (.lst ([(mod : Int)].map V.int ++ (es.map fun e => e + (arm : Int)).map V.int))) t = some (.lst (((mod : Int) :: es.map fun e => e + (arm : Int)).map V.int)) := by rw [upd_same, List.map_cons]; rfl
      revert s4 ht4
      generalize upd H3 t (.lst ([(mod : Int)].map V.int ++ (es.map fun e => e + (arm : Int)).map V.int)) = H4
      intro s4 ht4
      have hall : ∀ z ∈ (mod : Int) :: es.map (fun e => e + (arm : Int)), z.natAbs ≤ N + 24 := fun z hz => by
        rcases List.mem_cons.mp hz with e | hz
        · rw [e]; omega
        · obtain ⟨e, he, rfl⟩ := List.mem_map.mp hz
          have := hb.e e he
          omega
      walk_at "go"
      refine ⟨t, _, rfl, SqL.of ht4, fun z hz => by have := hall z hz; omega, ?_⟩
      have hg := gcdZ_le hall
      generalize gcdZ ((mod : Int) :: es.map fun e => e + (arm : Int)) = most at hg
      have hq4 := s4 _ _ hq2
      have hc4 := s4 _ _ hc2
      have hB4 := hB2.same s4
      obtain ⟨f1, f2, f3, f4⟩ := id hf
      obtain ⟨mv, rfl⟩ := Option.isSome_iff_exists.mp (f2.mpr c3)
      obtain rfl : p = none := by cases p with | none => rfl | some _ => exact absurd (f3.mp rfl) (by omega)
      obtain rfl : sn = none := f4.elim id fun z => absurd z.1 (by omega)
      have hmb : mv.natAbs ≤ N := hb.m
      rw [show oV (some mv) = V.int mv from rfl] at *
      have cm : CMul 2 (most : Int) := .inl ⟨by omega, by omega⟩
      walk_at "go"
      refine ⟨by show 9 ≤ sizeLine; decide, fun v hv => ?_⟩
      have nvb : v ≠ b := fun z => hB4.b_some (z ▸ hv)
      walk_at "go"
      refine ⟨b, l, v, _, rfl, hB4.new hv, nvb, upd_same, by show 0 < 9; decide, by show 9 < 1073741824; decide, fun i y H5 hy hB5 kp5 => ?_⟩
      obtain ⟨z, rfl, hz⟩ : ∃ z : Int, y = .int z ∧ z.natAbs ≤ 2 * N + 100 := by
        match i, hy with
        | 0, hy => injection hy with hy; exact ⟨_, hy.symm, by omega⟩
        | 1, hy => injection hy with hy; exact ⟨_, hy.symm, by omega⟩
        | 2, hy => injection hy with hy; exact ⟨_, hy.symm, by omega⟩
        | 3, hy => injection hy with hy; exact ⟨_, hy.symm, by omega⟩
        | 4, hy => injection hy with hy; exact ⟨_, hy.symm, by omega⟩
        | 5, hy => injection hy with hy; exact ⟨_, hy.symm, by omega⟩
        | 6, hy => injection hy with hy; exact ⟨_, hy.symm, by omega⟩
        | 7, hy => injection hy with hy; exact ⟨_, hy.symm, by omega⟩
        | 8, hy => injection hy with hy; exact ⟨_, hy.symm, by omega⟩
      have kp25 : Kp b H2 H5 := Kp.trans (Kp.of s4) (Kp.trans (Kp.of (Same.new hv)) kp5)
      have hq5 := kp25 _ _ nqb hq2
      walk_at "go"
      exact out H5 ep es (some z) none none hB5 kp25 (kp25 _ _ neb he2) neq ⟨f1, ⟨fun _ => c3, fun _ => rfl⟩, f3, f4⟩ (by omega) ⟨fun e h => Nat.le_trans (hb.e e h) (by omega), hz, Nat.zero_le _⟩
    obtain ⟨f1, f2, f3, f4⟩ := id hf
    obtain rfl : m = none := by cases m with | none => rfl | some _ => exact absurd (f2.mp rfl) c3
    obtain ⟨pv, rfl⟩ := Option.isSome_iff_exists.mp (f3.mpr (by omega))
    have hpb : pv.natAbs ≤ N := hb.p
    rw [show oV (some pv) = V.int pv from rfl] at *
    walk_at "go"
    refine x_iteD (fun c4 => ?_) (fun c4 => ?_)
    · have cm : CMul 2 pv := .inl ⟨by omega, by omega⟩
      have cm2 : CMul 2 (arm : Int) := .inl ⟨by omega, by omega⟩
      walk_at "go"
      refine ⟨by show 8 ≤ sizeLine; decide, fun v hv => ?_⟩
      have nvb : v ≠ b := fun z => hB2.b_some (z ▸ hv)
      walk_at "go"
      refine ⟨b, l, v, _, rfl, hB2.new hv, nvb, upd_same, by show 0 < 8; decide, by show 8 < 1073741824; decide, fun i y H5 hy hB5 kp5 => ?_⟩
      obtain ⟨z, rfl, hz⟩ : ∃ z : Int, y = .int z ∧ z.natAbs ≤ 2 * N + 100 := by
        match i, hy with
        | 0, hy => injection hy with hy; exact ⟨_, hy.symm, by omega⟩
        | 1, hy => injection hy with hy; exact ⟨_, hy.symm, by omega⟩
        | 2, hy => injection hy with hy; exact ⟨_, hy.symm, by omega⟩
        | 3, hy => injection hy with hy; exact ⟨_, hy.symm, by omega⟩
        | 4, hy => injection hy with hy; exact ⟨_, hy.symm, by omega⟩
        | 5, hy => injection hy with hy; exact ⟨_, hy.symm, by omega⟩
        | 6, hy => injection hy with hy; exact ⟨_, hy.symm, by omega⟩
        | 7, hy => injection hy with hy; exact ⟨_, hy.symm, by omega⟩
      have kp25 : Kp b H2 H5 := Kp.trans (Kp.of (Same.new hv)) kp5
      have hq5 := kp25 _ _ nqb hq2
      walk_at "go"
      exact out H5 ep es none (some z) sn hB5 kp25 (kp25 _ _ neb he2) neq ⟨f1, f2, ⟨fun _ => by omega, fun _ => rfl⟩, f4⟩ (by omega) ⟨fun e h => Nat.le_trans (hb.e e h) (by omega), Nat.zero_le _, hz⟩
    · walk_at "go"
      refine ⟨by show 4 ≤ sizeLine; decide, fun v hv => ?_⟩
      have nvb : v ≠ b := fun z => hB2.b_some (z ▸ hv)
      walk_at "go"
      refine ⟨b, l, v, _, rfl, hB2.new hv, nvb, upd_same, by show 0 < 4; decide, by show 4 < 1073741824; decide, fun i y H5 hy hB5 kp5 => ?_⟩
      obtain ⟨z, rfl, hz⟩ : ∃ z : Option Int, y = oV z ∧ (z = none ∨ z = some 1 ∨ z = some 0 ∨ z = some (-1)) := by
        match i, hy with
        | 0, hy => injection hy with hy; exact ⟨none, hy.symm, .inl rfl⟩
        | 1, hy => injection hy with hy; exact ⟨some 1, hy.symm, .inr (.inl rfl)⟩
        | 2, hy => injection hy with hy; exact ⟨some 0, hy.symm, .inr (.inr (.inl rfl))⟩
        | 3, hy => injection hy with hy; exact ⟨some (-1), hy.symm, .inr (.inr (.inr rfl))⟩
      have kp25 : Kp b H2 H5 := Kp.trans (Kp.of (Same.new hv)) kp5
      have hq5 := kp25 _ _ nqb hq2
      walk_at "go"
      exact out H5 ep es none (some pv) z hB5 kp25 (kp25 _ _ neb he2) neq ⟨f1, f2, f3, hz.imp id fun w => ⟨by omega, w⟩⟩ (by omega) ⟨fun e h => Nat.le_trans (hb.e e h) (by omega), Nat.zero_le _, Nat.le_trans hpb (by omega)⟩
/-! ### counts of a wrong form -/
def spOdd : Sp := fun vs H Q _ => ∃ (b l c ep : Addr) (N : Nat) (h : Int) (es : List Int) (m p sn : Option Int), vs = [.ref b, .ref c] ∧ BagAt H b l ∧ CtsAt H c ep h es m p sn ∧ h.natAbs ≤ 1000 ∧ 1 ≤ N ∧ Bd N es m p ∧ ∀ (q : Addr) (h' : Int) (m' p' sn' : Option Int) (H' : Hp), BagAt H' b l → Kp b H H' → CtsAt H' q ep h' es m' p' sn' → h'.natAbs ≤ 1000 → Bd N es m' p' → Q (.ref q) H'
theorem ok_odd (B : Bi K mg) (c_l_draw : C8.Cal P w K mg base 1 "_law_draw" spDraw []) (c_l_of : C8.Cal P w K mg base 2 "_law_of" spOf []) (F : FnP K "_law_odd" st_l_odd f fd) : FnOk P w K mg base CX0 3 f fd ["bag", "counts"] spOdd := by
  refine F.ok sc_l_odd (fun vs H Q E h => ?_) (fun cdv A outer s H vs Q E hr h => ?_)
  · obtain ⟨b, l, c, ep, N, h, es, m, p, sn, rfl, _⟩ := h
    rfl
  · obtain ⟨b, l, c, ep, N, hh, es, m, p, sn, rfl, hB, hC, hhb, hN, hb, k⟩ := h
    have G := B
    have hc := hC.c_
    have he := hC.e_
    refine ⟨_, PSs.nox ((pss_cons (ps_asg (pv 1) (pg_unl rfl (pgs_cons (pg_name (i := 2) sc_l_odd.nd rfl (Or.inl rfl)) (pgs_cons (pg_name (i := 3) sc_l_odd.nd rfl (Or.inl rfl)) (pgs_cons (pg_name (i := 4) sc_l_odd.nd rfl (Or.inl rfl)) (pgs_cons (pg_name (i := 5) sc_l_odd.nd rfl (Or.inl rfl)) (pgs_cons (pg_name (i := 6) sc_l_odd.nd rfl (Or.inl rfl)) pgs_nil)))))))
      (pss_cons (ps_set (i := 7) sc_l_odd.nd rfl (Or.inl rfl) (C8.pe_c c_l_draw hr (by decide) rfl (pa_cons (pv 0) (pa_cons pe_int pa_nil))))
      (pss_cons (ps_if (pt_cmpR op_eq (pv 7) pe_int (nomark _))
        (pss_one (ps_ret (pe_lst (pa_cons (pe_op op_sub (pe_un un_neg pe_int) (C8.pe_c c_l_draw hr (by decide) rfl (pa_cons (pv 0) (pa_cons pe_int pa_nil)))) (pa_cons (pv 3) (pa_cons pe_non (pa_cons pe_non (pa_cons pe_non pa_nil))))))))
        pss_nil)
      (pss_cons (ps_if (pt_cmpR op_eq (pv 7) pe_int (nomark _))
        (pss_one (ps_ret (pe_lst (pa_cons (pv 2) (pa_cons (pv 3) (pa_cons (pe_ifExp (pt_cmpR op_eq (pv 2) pe_int (nomark _)) pe_non pe_int) (pa_cons (pv 5) (pa_cons (pv 6) pa_nil))))))))
        pss_nil)
      (pss_cons (ps_if (pt_cmpR op_eq (pv 7) pe_int (nomark _))
        (pss_one (ps_ret (pe_lst (pa_cons (pv 2) (pa_cons (pv 3) (pa_cons (pv 4) (pa_cons (pe_ifExp (pt_cmpR op_gt (pv 2) pe_int (nomark _)) pe_non pe_int) (pa_cons (pv 6) pa_nil))))))))
        pss_nil)
      (pss_cons (ps_if (pt_cmpR op_eq (pv 7) pe_int (nomark _))
        (pss_one (ps_ret (pe_lst (pa_cons (pv 2) (pa_cons (pv 3) (pa_cons (pv 4) (pa_cons (pv 5) (pa_cons (pe_ifExp (pt_cmpR op_gt (pv 2) pe_int (nomark _)) pe_int (C8.pe_c c_l_of hr (by decide) rfl (pa_cons (pv 0) (pa_cons (pe_lst (pa_cons pe_int (pa_cons pe_int (pa_cons (pe_un un_neg pe_int) pa_nil)))) pa_nil)))) pa_nil))))))))
        pss_nil)
      (pss_cons (ps_if (pt_cmpR op_eq (pv 7) pe_int (nomark _))
        (pss_one (ps_ret (pe_lst (pa_cons (pv 2) (pa_cons (pv 3) (pa_cons (pv 4) (pa_cons (pv 5) (pa_cons (C8.pe_c c_l_of hr (by decide) rfl (pa_cons (pv 0) (pa_cons (pe_lst (pa_cons pe_int (pa_cons (pe_un un_neg pe_int) (pa_cons pe_int pa_nil)))) pa_nil))) pa_nil))))))))
        pss_nil)
      (pss_one (ps_ret (pe_ifExp (pt_cmpR op_gt (pv 2) pe_int (nomark _)) (pe_lst (pa_cons pe_int (pa_cons (pv 3) (pa_cons pe_non (pa_cons pe_int (pa_cons pe_non pa_nil)))))) (pe_lst (pa_cons pe_int (pa_cons (pv 3) (pa_cons pe_int (pa_cons pe_non (pa_cons pe_non pa_nil))))))))))))))))), ?_⟩
    try dsimp only [cxOf]
    have neb := int_ne_bag (H' := H) hB he
    walk_at "go"
    refine ⟨b, l, 6, rfl, hB, by decide, by decide, fun pick H2 h2 hB2 kp2 => ?_⟩
    have he2 := kp2 _ _ neb he
    have out : ∀ (H3 : Hp) (h' : Int) (m' p' sn' : Option Int), BagAt H3 b l → Kp b H2 H3 → h'.natAbs ≤ 1000 → (m'.getD 0).natAbs ≤ N → (p'.getD 0).natAbs ≤ N → ∀ q, H3 q = none → Q (.ref q) (upd H3 q (.lst [.int h', .ref ep, oV m', oV p', oV sn'])) := fun H3 h' m' p' sn' B3 k3 b1 b2 b3 q hq =>
      k q h' m' p' sn' _ (B3.new hq) (Kp.trans kp2 (Kp.trans k3 (Kp.of (Same.new hq)))) ⟨upd_same, upd_old hq (k3 _ _ neb he2)⟩ b1 ⟨hb.e, b2, b3⟩
    have z5 : 5 ≤ sizeLine := by decide
    walk_at "go"
    refine x_iteD (fun c1 => ?_) (fun c1 => ?_)
    · walk_at "go"
      refine ⟨b, l, 3, rfl, hB2, by decide, by decide, fun r H3 h3 hB3 kp3 => ?_⟩
      walk_at "go"
      exact ⟨z5, fun q hq => out H3 (-1 - (r : Int)) none none none hB3 kp3 (by omega) (Nat.zero_le _) (Nat.zero_le _) q hq⟩
    walk_at "go"
    refine x_iteD (fun c1 => ?_) (fun c1 => ?_)
    · walk_at "go"
      refine x_iteD (fun c2 => ?_) (fun c2 => ?_)
      · walk_at "go"
        exact ⟨z5, fun q hq => out H2 hh none p sn hB2 Kp.refl hhb (Nat.zero_le _) hb.p q hq⟩
      · walk_at "go"
        exact ⟨z5, fun q hq => out H2 hh (some 1) p sn hB2 Kp.refl hhb hN hb.p q hq⟩
    walk_at "go"
    refine x_iteD (fun c1 => ?_) (fun c1 => ?_)
    · walk_at "go"
      refine x_iteD (fun c2 => ?_) (fun c2 => ?_)
      · walk_at "go"
        exact ⟨z5, fun q hq => out H2 hh m none sn hB2 Kp.refl hhb hb.m (Nat.zero_le _) q hq⟩
      · walk_at "go"
        exact ⟨z5, fun q hq => out H2 hh m (some 1) sn hB2 Kp.refl hhb hb.m hN q hq⟩
    walk_at "go"
    refine x_iteD (fun c1 => ?_) (fun c1 => ?_)
    · walk_at "go"
      refine x_iteD (fun c2 => ?_) (fun c2 => ?_)
      · walk_at "go"
        exact ⟨z5, fun q hq => out H2 hh m p (some 2) hB2 Kp.refl hhb hb.m hb.p q hq⟩
      · walk_at "go"
        refine ⟨by show 3 ≤ sizeLine; decide, fun v hv => ?_⟩
        have nvb : v ≠ b := fun z => hB2.b_some (z ▸ hv)
        walk_at "go"
        refine ⟨b, l, v, _, rfl, hB2.new hv, nvb, upd_same, by show 0 < 3; decide, by show 3 < 1073741824; decide, fun i y H5 hy hB5 kp5 => ?_⟩
        obtain ⟨z, rfl⟩ : ∃ z : Int, y = .int z := by
          match i, hy with
          | 0, hy => injection hy with hy; exact ⟨_, hy.symm⟩
          | 1, hy => injection hy with hy; exact ⟨_, hy.symm⟩
          | 2, hy => injection hy with hy; exact ⟨_, hy.symm⟩
        walk_at "go"
        exact ⟨z5, fun q hq => out H5 hh m p (some z) hB5 (Kp.trans (Kp.of (Same.new hv)) kp5) hhb hb.m hb.p q hq⟩
    walk_at "go"
    refine x_iteD (fun c1 => ?_) (fun c1 => ?_)
    · walk_at "go"
      refine ⟨by show 3 ≤ sizeLine; decide, fun v hv => ?_⟩
      have nvb : v ≠ b := fun z => hB2.b_some (z ▸ hv)
      walk_at "go"
      refine ⟨b, l, v, _, rfl, hB2.new hv, nvb, upd_same, by show 0 < 3; decide, by show 3 < 1073741824; decide, fun i y H5 hy hB5 kp5 => ?_⟩
      obtain ⟨z, rfl⟩ : ∃ z : Int, y = .int z := by
        match i, hy with
        | 0, hy => injection hy with hy; exact ⟨_, hy.symm⟩
        | 1, hy => injection hy with hy; exact ⟨_, hy.symm⟩
        | 2, hy => injection hy with hy; exact ⟨_, hy.symm⟩
      walk_at "go"
      exact ⟨z5, fun q hq => out H5 hh m p (some z) hB5 (Kp.trans (Kp.of (Same.new hv)) kp5) hhb hb.m hb.p q hq⟩
    walk_at "go"
    refine x_iteD (fun c2 => ?_) (fun c2 => ?_)
    · walk_at "go"
      exact ⟨z5, fun q hq => out H2 1 none (some 1) none hB2 Kp.refl (by decide) (Nat.zero_le _) hN q hq⟩
    · walk_at "go"
      exact ⟨z5, fun q hq => out H2 2 (some 1) none none hB2 Kp.refl (by decide) hN (Nat.zero_le _) q hq⟩
/-! ### what right counts keep to -/
theorem perm_sum {a b : List Int} (h : a.Perm b) : a.sum = b.sum := by
  induction h with
  | nil => rfl
  | cons x _ ih => rw [List.sum_cons, List.sum_cons, ih]
  | swap x y l => rw [List.sum_cons, List.sum_cons, List.sum_cons, List.sum_cons]; omega
  | trans _ _ i1 i2 => rw [i1, i2]
theorem redN_cong (mod : Nat) (n : Int) : (mod : Int) ∣ redN mod n - n := by
  unfold redN
  by_cases h : mod = 0
  · rw [if_pos h, Int.sub_self]; exact Int.dvd_zero _
  · rw [if_neg h]
    have := Int.emod_add_mul_ediv n (mod : Int)
    exact ⟨-(n / (mod : Int)), by rw [Int.mul_neg]; omega⟩
theorem red_sum (mod : Nat) : ∀ raw : List Int, (mod : Int) ∣ (raw.map (redN mod)).sum - raw.sum
  | [] => ⟨0, by simp⟩
  | x :: raw => by
    have h1 := redN_cong mod x
    have h2 := red_sum mod raw
    rw [List.map_cons, List.sum_cons, List.sum_cons, show redN mod x + (raw.map (redN mod)).sum - (x + raw.sum) = (redN mod x - x) + ((raw.map (redN mod)).sum - raw.sum) by omega]
    exact Int.dvd_add h1 h2
theorem rims_right {arm mod : Nat} {h : Int} {raw es : List Int} (hp : es.Perm (raw.map (redN mod))) (hs : es.Pairwise (· ≤ ·)) (hn : raw ≠ []) (hsum : raw.sum = (arm : Int) * (2 - 2 * h - (raw.length : Int))) : RimsOk mod es ∧ SumOk arm mod h es := by
  have hl : es.length = raw.length := by rw [hp.length_eq, List.length_map]
  refine ⟨⟨fun z => hn (List.eq_nil_of_length_eq_zero (by rw [← hl, z]; rfl)), hs, fun hm e he => ?_⟩, ?_⟩
  · obtain ⟨x, _, rfl⟩ := List.mem_map.mp (hp.mem_iff.mp he)
    unfold redN
    rw [if_neg (by omega)]
    exact ⟨Int.emod_nonneg _ (by omega), Int.emod_lt_of_pos _ (by omega)⟩
  · show (mod : Int) ∣ es.sum - (arm : Int) * (2 - 2 * h - (es.length : Int))
    rw [hl, ← hsum, perm_sum hp]
    exact red_sum mod raw
theorem sum_abs {b : Nat} : ∀ {l : List Int}, (∀ e ∈ l, e.natAbs ≤ b) → l.sum.natAbs ≤ b * l.length
  | [], _ => by simp
  | x :: l, h => by
    have h1 := h x (List.mem_cons_self ..)
    have h2 := sum_abs (l := l) fun e he => h e (List.mem_cons_of_mem _ he)
    rw [List.sum_cons, List.length_cons, Nat.mul_add, Nat.mul_one]
    have := Int.natAbs_add_le x l.sum
    omega
theorem bal_some (arm mod : Nat) (es : List Int) (p : Int) : ∃ s : Option Int, s ∈ ([none, some 1, some 0, some (-1)] : List (Option Int)) ∧ BalOk arm mod es p s := by
  by_cases h : HasBal arm mod p
  · by_cases o : OddRim arm es p
    · exact ⟨some 0, by simp, .inl ⟨h, 0, rfl, ⟨fun _ => o, fun _ => rfl⟩⟩⟩
    · exact ⟨some 1, by simp, .inl ⟨h, 1, rfl, ⟨fun z => absurd z (by decide), fun z => absurd z o⟩⟩⟩
  · exact ⟨none, by simp, .inr ⟨h, rfl⟩⟩
theorem meas_of {arm mod : Nat} {es : List Int} {m : Int} (h0 : 0 ≤ m) (hd : m ∣ ((gcdZ ((mod : Int) :: es.map fun e => e + (arm : Int)) : Nat) : Int)) : MeasOk arm mod es m := by
  have h := (dvd_gcdZ (gcdZ ((mod : Int) :: es.map fun e => e + (arm : Int))) _).mp (Nat.dvd_refl _)
  exact ⟨h0, Int.dvd_trans hd (h _ (List.mem_cons_self ..)), fun e he => Int.dvd_trans hd (h _ (List.mem_cons_of_mem _ (List.mem_map.mpr ⟨e, he, rfl⟩)))⟩
theorem share_ofG {arm mod : Nat} {es : List Int} {p : Int} (h1 : 1 ≤ p) (hd : p ∣ ((gcdZ ((arm : Int) :: (mod : Int) :: es) : Nat) : Int)) : ShareOk arm mod es p := by
  have h := (dvd_gcdZ (gcdZ ((arm : Int) :: (mod : Int) :: es)) _).mp (Nat.dvd_refl _)
  exact ⟨h1, Int.dvd_trans hd (h _ (List.mem_cons_self ..)), Int.dvd_trans hd (h _ (List.mem_cons_of_mem _ (List.mem_cons_self ..))), fun e he => Int.dvd_trans hd (h _ (List.mem_cons_of_mem _ (List.mem_cons_of_mem _ he)))⟩
theorem gcdZ_head {a : Nat} {ns : List Int} (ha : 1 ≤ a) : 1 ≤ gcdZ ((a : Int) :: ns) ∧ gcdZ ((a : Int) :: ns) ≤ a := by
  have h := (dvd_gcdZ (gcdZ ((a : Int) :: ns)) _).mp (Nat.dvd_refl _) (a : Int) (List.mem_cons_self ..)
  have h2 : gcdZ ((a : Int) :: ns) ∣ a := Int.natCast_dvd_natCast.mp h
  exact ⟨Nat.pos_of_dvd_of_pos h2 ha, Nat.le_of_dvd ha h2⟩
theorem of_divs {ds : List Nat} {i : Nat} {v : V} (h : (ds.map fun d : Nat => V.int (d : Nat))[i]? = some v) : ∃ d : Nat, d ∈ ds ∧ v = .int (d : Nat) := by
  obtain ⟨d, hd, e⟩ := List.mem_map.mp (List.mem_of_getElem? h)
  exact ⟨d, hd, e.symm⟩
theorem pos_of_mem {ds : List Nat} {d : Nat} (h : d ∈ ds) : 0 < (ds.map fun d : Nat => V.int (d : Nat)).length := by
  rw [List.length_map]
  exact List.length_pos_of_mem h
theorem pick_div {b l : Addr} {n : Nat} {H : Hp} {σ : L2.St} {Q : VK} {E1 E2 : XK} (hB : BagAt H b l) (h1 : 1 ≤ n) (h2 : n ≤ 1000) (k : ∀ (d : Nat) H', d ∣ n → 1 ≤ d → d ≤ n → BagAt H' b l → Kp b H H' → Q (.int (d : Nat)) H') :
    spDivsD ([.int (n : Nat)] ++ []) H (fun x H1 => tNil σ H1 fun xs H2 => spOf (V.ref b :: x :: xs ++ []) H2 Q E1) E2 := by
  refine ⟨n, rfl, h1, h2, fun p H' hp s ⟨ds, hds, d1, d2, d3⟩ => ?_⟩
  have npb : p ≠ b := fun z => hB.b_some (z ▸ hp)
  refine ⟨b, l, p, _, rfl, hB.same s, npb, hds, pos_of_mem d1, by rw [List.length_map]; omega, fun i v H2 hv hB2 kp2 => ?_⟩
  obtain ⟨d, hd, rfl⟩ := of_divs hv
  obtain ⟨e1, e2, e3⟩ := d2 d hd
  exact k d H2 e3 e1 e2 hB2 (Kp.trans (Kp.of s) kp2)
def spRight : Sp := fun vs H Q _ => ∃ (b l : Addr) (arm mod n : Nat) (h : Nat), vs = [.ref b, .int arm, .int mod, .int h, .int n] ∧ BagAt H b l ∧ 1 ≤ arm ∧ arm ≤ 12 ∧ mod ≠ 1 ∧ mod ≤ 24 ∧ h ≤ 4 ∧ 1 ≤ n ∧ n ≤ 5 ∧ ∀ (q ep : Addr) (es : List Int) (m p sn : Option Int) (H' : Hp), BagAt H' b l → Kp b H H' → CtsAt H' q ep h es m p sn → Formed h m p sn → es.length = n → brk arm mod h es m p sn = "" → Bd 1000 es m p → Q (.ref q) H'
theorem ok_right (B : Bi K mg) (c_l_draw : C8.Cal P w K mg base 1 "_law_draw" spDraw []) (c_l_of : C8.Cal P w K mg base 2 "_law_of" spOf []) (c_l_red : C8.Cal P w K mg base 1 "_law_red" spRed []) (c_l_divisor : C8.Cal P w K mg base 1 "_law_divisor" (spLDiv K) []) (c_l_divisors : C8.Cal P w K mg base 1 "_law_divisors" spDivsD []) (c_l_broken : C8.Cal P w K mg base 2 "_law_broken" spLBroken []) (F : FnP K "_law_right" st_l_right f fd) : FnOk P w K mg base CX0 3 f fd ["bag", "arm", "mod", "hands", "many"] spRight := by
  refine F.ok sc_l_right (fun vs H Q E h => ?_) (fun cdv A outer s H vs Q E hr h => ?_)
  · obtain ⟨b, l, arm, mod, n, h, rfl, _⟩ := h
    rfl
  · obtain ⟨b, l, arm, mod, n, hh, rfl, hB, ha1, ha2, hm1, hm2, hh4, hn1, hn5, k⟩ := h
    have G := B
    refine ⟨_, PSs.nox ((C8.pss_cut (ps_set (i := 5) sc_l_right.nd rfl (Or.inl rfl) (C8.pe_c c_l_of hr (by decide) rfl (pa_cons (pv 0) (pa_cons (C8.pe_c c_l_divisors hr (by decide) rfl (pa_cons (C8.pe_c c_l_divisor hr (by decide) rfl (pa_cons (pe_lst (pa_cons (pv 1) (pa_cons (pv 2) pa_nil))) pa_nil)) pa_nil)) pa_nil))))
      (C8.pss_cut (ps_if (pt_cmpR op_eq (pv 3) pe_int (nomark _))
        (pss_one (ps_set (i := 5) sc_l_right.nd rfl (Or.inl rfl) (pe_ifExp (pt_cmpR op_gt (pv 2) pe_int (nomark _)) (C8.pe_c c_l_of hr (by decide) rfl (pa_cons (pv 0) (pa_cons (C8.pe_c c_l_divisors hr (by decide) rfl (pa_cons (pv 2) pa_nil)) pa_nil))) (C8.pe_c c_l_draw hr (by decide) rfl (pa_cons (pv 0) (pa_cons pe_int pa_nil))))))
        pss_nil)
      (C8.pss_cut (ps_set (i := 6) sc_l_right.nd rfl (Or.inr rfl) (pe_op op_mul (pv 5) (pe_op op_add pe_int (C8.pe_c c_l_draw hr (by decide) rfl (pa_cons (pv 0) (pa_cons pe_int pa_nil))))))
      (C8.pss_cut (ps_set (i := 7) sc_l_right.nd rfl (Or.inr rfl) (pe_lc (own := [("k", 10)]) rfl sc_l_right.nd (pi_range1 (by rfl) G.range (pa_cons (pe_op op_sub (pv 4) pe_int) pa_nil)) (blkOk_by (own := [("k", 10)]) (N := ["bag", "arm", "mod", "hands", "many", "unit", "step", "edges", "most", "part", "k", "num", "sign"]) (sc := defScope st_l_right) (by decide +kernel)) (fun _ _ _ _ _ => (pg_name (i := 10) sc_l_right.nd rfl (Or.inl rfl))) (fun _ _ _ _ _ => pts_nil) (fun _ _ _ _ _ => (pe_op op_sub (pe_op op_mul (pv 6) (pe_op op_sub (C8.pe_c c_l_draw hr (by decide) rfl (pa_cons (pv 0) (pa_cons pe_int pa_nil))) pe_int)) (pv 1)))))
      (C8.pss_cut (ps_set (i := 7) sc_l_right.nd rfl (Or.inr rfl) (pe_callB cr_sortedI (by rfl) G.sorted (by decide +kernel) (pa_cons (pe_lc (own := [("num", 11)]) rfl sc_l_right.nd (pi_list (pe_op op_cat (pv 7) (pe_lst (pa_cons (pe_op op_sub (pe_op op_mul (pv 1) (pe_op op_sub (pe_op op_sub pe_int (pe_op op_mul pe_int (pv 3))) (pv 4))) (pe_callB (cr_sum rfl) (by rfl) G.sum (by decide +kernel) (pa_cons (pv 7) pa_nil))) pa_nil)))) (blkOk_by (own := [("num", 11)]) (N := ["bag", "arm", "mod", "hands", "many", "unit", "step", "edges", "most", "part", "k", "num", "sign"]) (sc := defScope st_l_right) (by decide +kernel)) (fun _ _ _ _ _ => (pg_name (i := 11) sc_l_right.nd rfl (Or.inl rfl))) (fun _ _ _ _ _ => pts_nil) (fun _ _ _ _ _ => (C8.pe_c c_l_red hr (by decide) rfl (pa_cons (pv 2) (pa_cons (pv 11) pa_nil))))) pa_nil)))
      (pss_cons (ps_if (pt_cmpR op_eq (pv 3) pe_int (nomark _))
        (pss_one (ps_ret (pe_lst (pa_cons pe_int (pa_cons (pv 7) (pa_cons pe_non (pa_cons pe_non (pa_cons pe_non pa_nil))))))))
        pss_nil)
      (pss_cons (ps_if (pt_cmpR op_eq (pv 3) pe_int (nomark _))
        (pss_cons (ps_set (i := 8) sc_l_right.nd rfl (Or.inl rfl) (C8.pe_c c_l_divisor hr (by decide) rfl (pa_cons (pe_op op_cat (pe_lst (pa_cons (pv 2) pa_nil)) (pe_lc (own := [("num", 11)]) rfl sc_l_right.nd (pi_list (pv 7)) (blkOk_by (own := [("num", 11)]) (N := ["bag", "arm", "mod", "hands", "many", "unit", "step", "edges", "most", "part", "k", "num", "sign"]) (sc := defScope st_l_right) (by decide +kernel)) (fun _ _ _ _ _ => (pg_name (i := 11) sc_l_right.nd rfl (Or.inl rfl))) (fun _ _ _ _ _ => pts_nil) (fun _ _ _ _ _ => (pe_op op_add (pv 11) (pv 1))))) pa_nil)))
        (pss_one (ps_ret (pe_lst (pa_cons pe_int (pa_cons (pv 7) (pa_cons (pe_ifExp (pt_cmpR op_gt (pv 8) pe_int (nomark _)) (C8.pe_c c_l_of hr (by decide) rfl (pa_cons (pv 0) (pa_cons (C8.pe_c c_l_divisors hr (by decide) rfl (pa_cons (pv 8) pa_nil)) pa_nil))) (C8.pe_c c_l_draw hr (by decide) rfl (pa_cons (pv 0) (pa_cons pe_int pa_nil)))) (pa_cons pe_non (pa_cons pe_non pa_nil)))))))))
        pss_nil)
      (pss_cons (ps_set (i := 9) sc_l_right.nd rfl (Or.inr rfl) (C8.pe_c c_l_of hr (by decide) rfl (pa_cons (pv 0) (pa_cons (C8.pe_c c_l_divisors hr (by decide) rfl (pa_cons (C8.pe_c c_l_divisor hr (by decide) rfl (pa_cons (pe_op op_cat (pe_lst (pa_cons (pv 1) (pa_cons (pv 2) pa_nil))) (pv 7)) pa_nil)) pa_nil)) pa_nil))))
      (pss_one (ps_ret (pe_lst (pa_cons (pv 3) (pa_cons (pv 7) (pa_cons pe_non (pa_cons (pv 9) (pa_cons (C8.pe_c c_l_of hr (by decide) rfl (pa_cons (pv 0) (pa_cons (pe_lc (own := [("sign", 12)]) rfl sc_l_right.nd (pi_list (pe_lst (pa_cons pe_non (pa_cons pe_int (pa_cons pe_int (pa_cons (pe_un un_neg pe_int) pa_nil)))))) (blkOk_by (own := [("sign", 12)]) (N := ["bag", "arm", "mod", "hands", "many", "unit", "step", "edges", "most", "part", "k", "num", "sign"]) (sc := defScope st_l_right) (by decide +kernel)) (fun _ _ _ _ _ => (pg_name (i := 12) sc_l_right.nd rfl (Or.inl rfl))) (fun _ _ _ _ _ => (pts_one (pt_cmpR op_eq (C8.pe_c c_l_broken hr (by decide) rfl (pa_cons (pv 1) (pa_cons (pv 2) (pa_cons (pe_lst (pa_cons (pv 3) (pa_cons (pv 7) (pa_cons pe_non (pa_cons (pv 9) (pa_cons (pv 12) pa_nil)))))) pa_nil)))) pe_str (nomark _)))) (fun _ _ _ _ _ => (pv 12))) pa_nil))) pa_nil))))))))))))))))), ?_⟩
    try dsimp only [cxOf]
    refine x_cut (fun σ H' => ∃ u : Nat, u ≤ 24 ∧ Kp b H H' ∧ BagAt H' b l ∧ σ = [some (.ref b), some (.int (arm : Nat)), some (.int (mod : Nat)), some (.int (hh : Nat)), some (.int (n : Nat)), some (.int (u : Nat)), none, none, none, none, none, none, none]) ?_ ?_
    · walk_at "go"
      refine ⟨by show 2 ≤ sizeLine; decide, fun v hv => ?_⟩
      refine ⟨v, [(arm : Int), (mod : Int)], rfl, SqL.of upd_same, fun z hz => ?_, ?_⟩
      · rcases List.mem_cons.mp hz with e | hz
        · rw [e]; omega
        · rw [List.mem_singleton.mp hz]; omega
      obtain ⟨g1, g2⟩ := gcdZ_head (ns := [(mod : Int)]) ha1
      generalize gcdZ [(arm : Int), (mod : Int)] = gg at g1 g2
      walk_at "go"
      refine pick_div (hB.new hv) g1 (by omega) fun d H1 hd d1 d2 hB1 kp1 => ?_
      walk_at "go"
      exact ⟨d, by omega, Kp.trans (Kp.of (Same.new hv)) kp1, hB1, rfl⟩
    rintro σ H1 ⟨u0, hu0, kp1, hB1, rfl⟩
    refine x_cut (fun σ H' => ∃ u : Nat, u ≤ 24 ∧ Kp b H H' ∧ BagAt H' b l ∧ σ = [some (.ref b), some (.int (arm : Nat)), some (.int (mod : Nat)), some (.int (hh : Nat)), some (.int (n : Nat)), some (.int (u : Nat)), none, none, none, none, none, none, none]) ?_ ?_
    · walk_at "go"
      refine x_iteD (fun c1 => ?_) (fun c1 => ?_)
      · walk_at "go"
        refine x_iteD (fun c2 => ?_) (fun c2 => ?_)
        · walk_at "go"
          refine pick_div hB1 (by omega) (by omega) fun d H2 hd d1 d2 hB2 kp2 => ?_
          walk_at "go"
          exact ⟨d, by omega, Kp.trans kp1 kp2, hB2, rfl⟩
        · walk_at "go"
          refine ⟨b, l, 7, rfl, hB1, by decide, by decide, fun r H2 h2 hB2 kp2 => ?_⟩
          walk_at "go"
          exact ⟨r, by omega, Kp.trans kp1 kp2, hB2, rfl⟩
      · walk_at "go"
        exact ⟨u0, hu0, kp1, hB1, rfl⟩
    rintro σ H2 ⟨u, hu, kp2, hB2, rfl⟩
    refine x_cut (fun σ H' => ∃ u : Nat, u ≤ 48 ∧ Kp b H H' ∧ BagAt H' b l ∧ ∃ u0 : Nat, σ = [some (.ref b), some (.int (arm : Nat)), some (.int (mod : Nat)), some (.int (hh : Nat)), some (.int (n : Nat)), some (.int (u0 : Nat)), some (.int (u : Nat)), none, none, none, none, none, none]) ?_ ?_
    · walk_at "go"
      refine ⟨b, l, 2, rfl, hB2, by decide, by decide, fun r H3 h3 hB3 kp3 => ?_⟩
      have cm : CMul (u : Int) (1 + (r : Int)) := .inl ⟨by omega, by omega⟩
      walk_at "go"
      have : u * (1 + r) ≤ 24 * 2 := Nat.mul_le_mul hu (by omega)
      exact ⟨u * (1 + r), this, Kp.trans kp2 kp3, hB3, u, by rw [Int.natCast_mul, Int.natCast_add]; rfl⟩
    rintro σ H3 ⟨st, hst, kp3, hB3, u1, rfl⟩
    refine x_cut (fun σ H' => ∃ (p : Addr) (rs : List Int), rs.length + 1 = n ∧ (∀ e ∈ rs, e.natAbs ≤ 204) ∧ Kp b H H' ∧ BagAt H' b l ∧ H' p = some (.lst (rs.map V.int)) ∧ σ = [some (.ref b), some (.int (arm : Nat)), some (.int (mod : Nat)), some (.int (hh : Nat)), some (.int (n : Nat)), some (.int (u1 : Nat)), some (.int (st : Nat)), some (.ref p), none, none, none, none, none]) ?_ ?_
    · walk_at "go"
      refine w_lcR1B (l := l) hB3 (by omega) (by omega) (Nat.lt_of_le_of_lt (show _ ≤ 5 by omega) (by decide)) (fun _ i acc _ => ∃ rs : List Int, acc = rs.map V.int ∧ rs.length = i ∧ ∀ e ∈ rs, e.natAbs ≤ 204) (fun p i acc H1 H2 _ h => h) (fun p _ => ⟨[], rfl, rfl, fun e h => by cases h⟩) ?_ ?_
      · rintro p i H' acc hp npb hi kpi B1 hpa ⟨rs, rfl, hrl, hrb⟩ hai R S2 hR hS2
        walk_at "go"
        refine ⟨rfl, ?_⟩
        walk_at "go"
        refine ⟨b, l, 9, rfl, B1, by decide, by decide, fun r H4 h4 hB4 kp4 => ?_⟩
        have cm : CMul (st : Int) ((r : Int) - 4) := .inl ⟨by omega, by omega⟩
        have ab : ((st : Int) * ((r : Int) - 4)).natAbs ≤ 192 := by
          rw [Int.natAbs_mul]
          exact Nat.mul_le_mul (show (st : Int).natAbs ≤ 48 by omega) (show ((r : Int) - 4).natAbs ≤ 4 by omega)
        walk_at "go"
        refine hR _ _ kp4 hB4 ⟨rs ++ [(st : Int) * ((r : Int) - 4) - (arm : Int)], by rw [List.map_append]; rfl, by rw [List.length_append, hrl]; rfl, fun e he => ?_⟩
        rcases List.mem_append.mp he with he | he
        · exact hrb e he
        · rw [List.mem_singleton.mp he]; omega
      · rintro p H' acc hp npb kpi B1 hpa ⟨rs, rfl, hrl, hrb⟩
        walk_at "go"
        exact ⟨p, rs, by omega, hrb, Kp.trans kp3 kpi, B1, hpa, rfl⟩
    rintro σ H4 ⟨p0, rs, hrl, hrb, kp4, hB4, hp0, rfl⟩
    have hsb := sum_abs hrb
    have hsb2 : rs.sum.natAbs ≤ 816 := Nat.le_trans hsb (show 204 * rs.length ≤ 204 * 4 from Nat.mul_le_mul_left _ (by omega))
    have np0 := int_ne_bag (H' := H4) hB4 hp0
    refine x_cut (fun σ H' => ∃ (ep : Addr) (es : List Int), es.length = n ∧ (∀ e ∈ es, e.natAbs ≤ 948) ∧ RimsOk mod es ∧ SumOk arm mod (hh : Int) es ∧ Kp b H H' ∧ BagAt H' b l ∧ H' ep = some (.lst (es.map V.int)) ∧ σ = [some (.ref b), some (.int (arm : Nat)), some (.int (mod : Nat)), some (.int (hh : Nat)), some (.int (n : Nat)), some (.int (u1 : Nat)), some (.int (st : Nat)), some (.ref ep), none, none, none, none, none]) ?_ ?_
    · have cm1 : CMul 2 (hh : Int) := .inl ⟨by omega, by omega⟩
      have cm2 : CMul (arm : Int) (2 - 2 * (hh : Int) - (n : Int)) := .inl ⟨by omega, by omega⟩
      have ab : ((arm : Int) * (2 - 2 * (hh : Int) - (n : Int))).natAbs ≤ 132 := by
        rw [Int.natAbs_mul]
        exact Nat.mul_le_mul (show (arm : Int).natAbs ≤ 12 by omega) (show (2 - 2 * (hh : Int) - (n : Int)).natAbs ≤ 11 by omega)
      walk_at "go"
      refine x_sum (SqL.of hp0) ?_
      generalize hw : (arm : Int) * (2 - 2 * (hh : Int) - (n : Int)) = w at *
      walk_at "go"
      refine ⟨by show 1 ≤ sizeLine; decide, fun u hu => ?_⟩
      refine x_cat (upd_old hu hp0) upd_same (by rw [List.length_map]; exact Nat.le_trans (show _ ≤ 6 by show rs.length + 1 ≤ 6; omega) (by decide)) fun t ht => ?_
      have s5 : Same H4 (upd (upd H4 u (.lst [V.int (w - rs.sum)])) t (.lst (rs.map V.int ++ [V.int (w - rs.sum)]))) := Same.trans (Same.new hu) (Same.new ht)
      have ht5 : (upd (upd H4 u (.lst [V.int (w - rs.sum)])) t (.lst (rs.map V.int ++ [V.int (w - rs.sum)]))) t = some (.lst ((rs ++ [w - rs.sum]).map V.int)) := by rw [upd_same, List.map_append]; rfl
      revert s5 ht5
      generalize upd (upd H4 u (.lst [V.int (w - rs.sum)])) t (.lst (rs.map V.int ++ [V.int (w - rs.sum)])) = H5
      intro s5 ht5
      have rb : ∀ e ∈ rs ++ [w - rs.sum], e.natAbs ≤ 948 := fun e he => by
        rcases List.mem_append.mp he with he | he
        · exact Nat.le_trans (hrb e he) (by decide)
        · rw [List.mem_singleton.mp he]; omega
      have rl : (rs ++ [w - rs.sum]).length = n := by rw [List.length_append]; exact hrl
      have rsum : (rs ++ [w - rs.sum]).sum = (arm : Int) * (2 - 2 * (hh : Int) - ((rs ++ [w - rs.sum]).length : Int)) := by
        rw [rl, hw, List.sum_append, List.sum_singleton]; omega
      have rne : rs ++ [w - rs.sum] ≠ [] := fun z => by rw [z] at rl; exact absurd rl (by show ¬0 = n; omega)
      generalize rs ++ [w - rs.sum] = raw at *
      walk_at "go"
      refine w_lcL (xs := raw.map V.int) (SqL.of ht5) (by rw [List.length_map]; exact Nat.lt_of_le_of_lt (show _ ≤ 5 by omega) (by decide)) (fun i acc => acc = ((raw.map (redN mod)).map V.int).take i) rfl ?_ ?_
      · rintro i x H' acc hi s' rfl hai R S2 hR2 hS2
        obtain ⟨e, rfl, hei⟩ := int_at hi
        walk_at "go"
        refine ⟨rfl, ?_⟩
        walk_at "go"
        refine ⟨mod, e, rfl, by omega, ?_⟩
        refine hR2 _ _ (Same.refl _) ?_
        rw [take_snoc (show ((raw.map (redN mod)).map V.int)[i]? = some (.int (redN mod e)) by rw [List.getElem?_map, List.getElem?_map, hei]; rfl)]
      rintro r H6 acc hr0 s6 hr6 rfl
      rw [List.length_map, List.take_of_length_le (by rw [List.length_map, List.length_map]; exact Nat.le_refl _)] at hr6
      walk_at "go"
      refine ⟨r, _, rfl, SqL.of hr6, fun es q hperm hsort hq => ?_⟩
      walk_at "go"
      obtain ⟨o1, o2⟩ := rims_right hperm hsort rne rsum
      have kp6 : Kp b H4 (upd H6 q (.lst (es.map V.int))) := Kp.of (Same.trans s5 (Same.trans s6 (Same.new hq)))
      refine ⟨q, es, by rw [hperm.length_eq, List.length_map, rl], fun e he => ?_, o1, o2, Kp.trans kp4 kp6, hB4.same (Same.trans s5 (Same.trans s6 (Same.new hq))), upd_same, rfl⟩
      obtain ⟨x, hx, rfl⟩ := List.mem_map.mp (hperm.mem_iff.mp he)
      exact redN_abs (by omega) (rb x hx)
    rintro σ H5 ⟨ep, es, hel, heb, hR, hS, kp5, hB5, hep, rfl⟩
    have nep := int_ne_bag (H' := H5) hB5 hep
    have z5 : 5 ≤ sizeLine := by decide
    have out : ∀ (H6 : Hp) (m p sn : Option Int), BagAt H6 b l → Kp b H5 H6 → Formed (hh : Int) m p sn → brk arm mod (hh : Int) es m p sn = "" → (m.getD 0).natAbs ≤ 1000 → (p.getD 0).natAbs ≤ 1000 → ∀ q, H6 q = none → Q (.ref q) (upd H6 q (.lst [.int (hh : Nat), .ref ep, oV m, oV p, oV sn])) := fun H6 m p sn B6 k6 f6 b6 m6 p6 q hq =>
      k q ep es m p sn _ (B6.new hq) (Kp.trans kp5 (Kp.trans k6 (Kp.of (Same.new hq)))) ⟨upd_same, upd_old hq (k6 _ _ nep hep)⟩ f6 hel b6 ⟨fun e he => Nat.le_trans (heb e he) (by decide), m6, p6⟩
    walk_at "go"
    refine x_iteD (fun c1 => ?_) (fun c1 => ?_)
    · walk_at "go"
      obtain rfl : hh = 0 := by omega
      exact ⟨z5, fun q hq => out H5 none none none hB5 Kp.refl ⟨by decide, ⟨fun z => (by cases z), fun z => absurd z (by decide)⟩, ⟨fun z => (by cases z), fun z => absurd z (by decide)⟩, .inl rfl⟩ (brk_4 hR hS (by decide)) (Nat.zero_le _) (Nat.zero_le _) q hq⟩
    walk_at "go"
    refine x_iteD (fun c2 => ?_) (fun c2 => ?_)
    · walk_at "go"
      have h1 : (hh : Int) = 1 := c2
      refine ⟨by show 1 ≤ sizeLine; decide, fun u hu => ?_⟩
      walk_at "go"
      refine w_lcL (xs := es.map V.int) (SqL.of (upd_old hu hep)) (by rw [List.length_map]; exact Nat.lt_of_le_of_lt (show _ ≤ 5 by omega) (by decide)) (fun i acc => acc = ((es.map fun e => e + (arm : Int)).map V.int).take i) rfl ?_ ?_
      · rintro i x H' acc hi s' rfl hai R S2 hR2 hS2
        obtain ⟨e, rfl, hei⟩ := int_at hi
        walk_at "go"
        refine ⟨rfl, ?_⟩
        walk_at "go"
        refine hR2 _ _ (Same.refl _) ?_
        rw [take_snoc (show ((es.map fun e => e + (arm : Int)).map V.int)[i]? = some (.int (e + (arm : Int))) by rw [List.getElem?_map, List.getElem?_map, hei]; rfl)]
      rintro r H3 acc hr0 s3 hr3 rfl
      rw [List.length_map, List.take_of_length_le (by rw [List.length_map, List.length_map]; exact Nat.le_refl _)] at hr3
      have hu3 := s3 _ _ (show (upd H5 u (.lst [V.int (mod : Nat)])) u = some (.lst ([(mod : Int)].map V.int)) from upd_same)
      refine x_cat hu3 hr3 (by rw [List.length_map, List.length_map, List.length_map]; exact Nat.le_trans (show _ ≤ 6 by show 1 + es.length ≤ 6; omega) (by decide)) fun t ht => ?_
      have s4 : Same H5 (upd H3 t (.lst ([(mod : Int)].map V.int ++ (es.map fun e => e + (arm : Int)).map V.int))) := Same.trans (Same.new hu) (Same.trans s3 (Same.new ht))
      have ht4 : (upd H3 t (.lst ([(mod : Int)].map V.int ++ (es.map fun e => e + (arm : Int)).map V.int))) t = some (.lst (((mod : Int) :: es.map fun e => e + (arm : Int)).map V.int)) := by rw [upd_same, List.map_cons]; rfl
      revert s4 ht4
      generalize upd H3 t (.lst ([(mod : Int)].map V.int ++ (es.map fun e => e + (arm : Int)).map V.int)) = H6
      intro s4 ht4
      have hall : ∀ z ∈ (mod : Int) :: es.map (fun e => e + (arm : Int)), z.natAbs ≤ 960 := fun z hz => by
        rcases List.mem_cons.mp hz with e | hz
        · rw [e]; omega
        · obtain ⟨e, he, rfl⟩ := List.mem_map.mp hz
          have := heb e he
          omega
      walk_at "go"
      refine ⟨t, _, rfl, SqL.of ht4, fun z hz => by have := hall z hz; omega, ?_⟩
      have hg := gcdZ_le hall
      have hmeas : ∀ m : Int, 0 ≤ m → m ∣ ((gcdZ ((mod : Int) :: es.map fun e => e + (arm : Int)) : Nat) : Int) → MeasOk arm mod es m := fun m => meas_of
      generalize gcdZ ((mod : Int) :: es.map fun e => e + (arm : Int)) = most at hg hmeas
      have hB6 := hB5.same s4
      have fm : ∀ mv : Int, Formed (hh : Int) (some mv) none none := fun mv => by rw [h1]; exact ⟨by decide, ⟨fun _ => rfl, fun _ => rfl⟩, ⟨fun z => (by cases z), fun z => absurd z (by decide)⟩, .inl rfl⟩
      have eh : V.int (1 : Int) = V.int (hh : Int) := by rw [h1]
      walk_at "go"
      refine x_iteD (fun c3 => ?_) (fun c3 => ?_)
      · walk_at "go"
        refine pick_div hB6 (by omega) (by omega) fun d H7 hd d1 d2 hB7 kp7 => ?_
        walk_at "go"
        refine ⟨z5, fun q hq => ?_⟩
        rw [eh]
        exact out H7 (some (d : Int)) none none hB7 (Kp.trans (Kp.of s4) kp7) (fm _) (brk_3 hR hS h1 (hmeas _ (Int.natCast_nonneg _) (Int.natCast_dvd_natCast.mpr hd))) (by show ((d : Nat) : Int).natAbs ≤ 1000; omega) (Nat.zero_le _) q hq
      · walk_at "go"
        refine ⟨b, l, 9, rfl, hB6, by decide, by decide, fun r H7 h7 hB7 kp7 => ?_⟩
        walk_at "go"
        refine ⟨z5, fun q hq => ?_⟩
        rw [eh]
        exact out H7 (some (r : Int)) none none hB7 (Kp.trans (Kp.of s4) kp7) (fm _) (brk_3 hR hS h1 (hmeas _ (Int.natCast_nonneg _) (by rw [show most = 0 by omega]; exact Int.dvd_zero _))) (by show ((r : Nat) : Int).natAbs ≤ 1000; omega) (Nat.zero_le _) q hq
    walk_at "go"
    refine ⟨by show 2 ≤ sizeLine; decide, fun u hu => ?_⟩
    walk_at "go"
    refine x_cat (show _ = some (.lst ([(arm : Int), (mod : Int)].map V.int)) from upd_same) (upd_old hu hep) (by rw [List.length_map, List.length_map]; exact Nat.le_trans (show _ ≤ 7 by show 2 + es.length ≤ 7; omega) (by decide)) fun t ht => ?_
    have s6 : Same H5 (upd (upd H5 u (.lst [V.int (arm : Nat), V.int (mod : Nat)])) t (.lst ([(arm : Int), (mod : Int)].map V.int ++ es.map V.int))) := Same.trans (Same.new hu) (Same.new ht)
    have ht6 : (upd (upd H5 u (.lst [V.int (arm : Nat), V.int (mod : Nat)])) t (.lst ([(arm : Int), (mod : Int)].map V.int ++ es.map V.int))) t = some (.lst (((arm : Int) :: (mod : Int) :: es).map V.int)) := upd_same
    revert s6 ht6
    generalize upd (upd H5 u (.lst [V.int (arm : Nat), V.int (mod : Nat)])) t (.lst ([(arm : Int), (mod : Int)].map V.int ++ es.map V.int)) = H6
    intro s6 ht6
    walk_at "go"
    refine ⟨t, _, rfl, SqL.of ht6, fun z hz => ?_, ?_⟩
    · rcases List.mem_cons.mp hz with e | hz
      · rw [e]; omega
      · rcases List.mem_cons.mp hz with e | hz
        · rw [e]; omega
        · have := heb z hz; omega
    obtain ⟨g1, g2⟩ := gcdZ_head (ns := (mod : Int) :: es) ha1
    have hshare : ∀ p : Int, 1 ≤ p → p ∣ ((gcdZ ((arm : Int) :: (mod : Int) :: es) : Nat) : Int) → ShareOk arm mod es p := fun p => share_ofG
    generalize gcdZ ((arm : Int) :: (mod : Int) :: es) = gg at g1 g2 hshare
    have hB6 := hB5.same s6
    walk_at "go"
    refine pick_div hB6 g1 (by omega) fun pt H7 hd d1 d2 hB7 kp7 => ?_
    have kp57 : Kp b H5 H7 := Kp.trans (Kp.of s6) kp7
    have hSh := hshare (pt : Int) (by omega) (Int.natCast_dvd_natCast.mpr hd)
    have hep7 := kp57 _ _ nep hep
    have h2 : 2 ≤ (hh : Int) := by omega
    have fm : ∀ sv : Option Int, sv ∈ ([none, some 1, some 0, some (-1)] : List (Option Int)) → Formed (hh : Int) none (some (pt : Int)) sv := fun sv hs => by
      refine ⟨by omega, ⟨fun z => (by cases z), fun z => absurd z (by omega)⟩, ⟨fun _ => h2, fun _ => rfl⟩, ?_⟩
      simp at hs
      rcases hs with e | e | e | e
      · exact .inl e
      · exact .inr ⟨h2, .inl e⟩
      · exact .inr ⟨h2, .inr (.inl e)⟩
      · exact .inr ⟨h2, .inr (.inr e)⟩
    walk_at "go"
    refine ⟨by show 4 ≤ sizeLine; decide, fun v hv => ?_⟩
    refine w_lcL (xs := ([none, some 1, some 0, some (-1)] : List (Option Int)).map oV) (SqL.of upd_same) (by show 4 < sizeLine; decide) (fun i acc => ∃ ss : List (Option Int), acc = ss.map oV ∧ ss.length ≤ i ∧ ∀ z, z ∈ ss ↔ (z ∈ ([none, some 1, some 0, some (-1)] : List (Option Int)).take i ∧ brk arm mod (hh : Int) es none (some (pt : Int)) z = "")) ⟨[], rfl, Nat.le_refl _, fun z => ⟨fun h => (by cases h), fun h => (by cases h.1)⟩⟩ ?_ ?_
    · rintro i x H' acc hi s' ⟨ss, rfl, hsl, hss⟩ hai R S2 hR2 hS2
      rw [List.getElem?_map] at hi
      obtain ⟨z, hz, rfl⟩ := Option.map_eq_some_iff.mp hi
      have hzm := List.mem_of_getElem? hz
      have ht := take_snoc hz
      have hep8 := s' _ _ (upd_old hv hep7)
      walk_at "go"
      refine ⟨rfl, ?_⟩
      walk_at "go"
      refine ⟨z5, fun y hy => ?_⟩
      walk_at "go"
      refine ⟨arm, mod, y, ep, (hh : Int), es, none, some (pt : Int), z, rfl, ⟨upd_same, upd_old hy hep8⟩, fm z hzm, by omega, by omega, by omega, fun e he => by have := heb e he; omega, by omega, by show (0 : Int) < 1073741824; decide, by show (pt : Int) < 1073741824; omega, fun H9 s9 => ?_⟩
      walk_at "go"
      have s10 : Same H' H9 := Same.trans (Same.new hy) s9
      by_cases cb : brk arm mod (hh : Int) es none (some (pt : Int)) z = ""
      · rw [decide_eq_true cb]
        walk_at "go"
        refine hR2 _ _ s10 ⟨ss ++ [z], by rw [List.map_append]; rfl, by rw [List.length_append]; exact Nat.succ_le_succ hsl, fun w => ?_⟩
        rw [ht, List.mem_append, List.mem_append, hss, List.mem_singleton]
        constructor
        · rintro (⟨a, b⟩ | e)
          · exact ⟨.inl a, b⟩
          · exact ⟨.inr e, by rw [e]; exact cb⟩
        · rintro ⟨a | e, b⟩
          · exact .inl ⟨a, b⟩
          · exact .inr e
      · rw [decide_eq_false cb]
        walk_at "go"
        refine hS2 _ s10 ⟨ss, rfl, Nat.le_succ_of_le hsl, fun w => ?_⟩
        rw [ht, List.mem_append, hss, List.mem_singleton]
        constructor
        · rintro ⟨a, b⟩
          exact ⟨.inl a, b⟩
        · rintro ⟨a | e, b⟩
          · exact ⟨a, b⟩
          · exact absurd (e ▸ b) cb
    rintro r H8 acc hr0 s8 hr8 ⟨ss, rfl, hsl, hss⟩
    have hss' : ∀ z, z ∈ ss ↔ (z ∈ ([none, some 1, some 0, some (-1)] : List (Option Int)) ∧ brk arm mod (hh : Int) es none (some (pt : Int)) z = "") := hss
    obtain ⟨z0, hz0, hb0⟩ := bal_some arm mod es (pt : Int)
    have m0 : z0 ∈ ss := (hss' z0).mpr ⟨hz0, brk_6 hR hS h2 hSh hb0⟩
    have s78 : Same H7 H8 := Same.trans (Same.new hv) s8
    have hB8 := hB7.same s78
    have nrb : r ≠ b := fun z => by rw [z] at hr0; exact (hB7.new (o := _) hv).b_some hr0
    walk_at "go"
    have hsl4 : ss.length ≤ 4 := hsl
    refine ⟨b, l, r, _, rfl, hB8, nrb, hr8, by rw [List.length_map]; exact List.length_pos_of_mem m0, by rw [List.length_map]; omega, fun i v H9 hv9 hB9 kp9 => ?_⟩
    obtain ⟨sv, hsv, rfl⟩ := List.mem_map.mp (List.mem_of_getElem? hv9)
    obtain ⟨q1, q2⟩ := (hss' sv).mp hsv
    walk_at "go"
    exact ⟨z5, fun q hq => out H9 none (some (pt : Int)) sv hB9 (Kp.trans kp57 (Kp.trans (Kp.of s78) kp9)) (fm sv q1) q2 (Nat.zero_le _) (by show ((pt : Nat) : Int).natAbs ≤ 1000; omega) q hq⟩
section
variable {σ : L2.St} {H : Hp} {Q : VK}
theorem x_callS {sp : Sp} {E : L2.St → XK} {tr : TA} (h : tr σ H fun vs H1 => sp vs H1 Q (E σ)) : tCallS sp E tr σ H Q := h
theorem x_xf {a C dd : Addr} {cls : Value} {g : Str} {fs : List (Str × V)} {v : V} {k : Nat} (ec : cls = .ref C) (e : σ[k]? = some (some (.ref a))) (hd : H dd = some (.xd fs)) (hl : fs.lookup g = some v) (h : Q v H) : tXf a cls (some dd) C g (tVar k) σ H Q :=
  x_var e ⟨rfl, ec, dd, fs, v, rfl, hd, hl, h⟩
end
theorem vals_rev {zs : List V} {ws : List Value} (r : Vals zs ws) : Vals zs.reverse ws.reverse := by
  have key : ∀ {zs : List V} {ws : List Value} (az : List V) (aw : List Value), Vals zs ws → Vals az aw → Vals (zs.reverseAux az) (ws.reverseAux aw) := by
    intro zs
    induction zs with
    | nil => intro ws az aw r q; cases r; exact q
    | cons z zs ih => intro ws az aw r q; cases r with | cons h t => (have k := ih (z :: az) (_ :: aw) t (.cons h q); exact k)
  exact key [] [] r .nil
theorem takesN0 {X : Cx} : L2N.Takes X (fun _ _ _ _ => False) := fun _ _ x => by
  obtain ⟨_, _, _, _, _, _, _, _, _, _, _, _, _, _, _, _, z⟩ := x
  exact z.elim
/-- a def that may be called, whatever it lets out -/
structure CalX (P : Program) (w : World) (K : PySem.W.Frag) (mg : Str → Option Value) (base : Heap) (k : Nat) (x : Str) (ps : List Str) (sp : Sp) : Prop where
  ex : ∃ (f : Addr) (fd : FuncData), FnOk P w K mg base (L2N.CX P w) k f fd ps sp ∧ mg x = some (.ref f) ∧ PySem.W.keepIn K (.ref f) = true ∧ Binds K fd ps []
/-- a def that may be called where an error is handled -/
structure CalH (P : Program) (w : World) (K : PySem.W.Frag) (mg : Str → Option Value) (base : Heap) (k : Nat) (x : Str) (ps : List Str) (sp : Sp) : Prop where
  ex : ∃ (f : Addr) (fd : FuncData), L2H.FnH P w K mg base CX0 k f fd ps sp ∧ mg x = some (.ref f) ∧ PySem.W.keepIn K (.ref f) = true ∧ Binds K fd ps []
theorem hot_suite {X : Cx} {a : Addr} {oe : Obj} {cls : Value} {d : Option Addr} {pn : List (Addr × Obj)} (hz : L2N.Zn cls d oe) (hf : ∃ vs, oe.data = .fields vs) : L2H.HotC (X.suite a ((a, oe) :: pn)) := by
  obtain ⟨vs, e⟩ := hf
  exact ⟨(a, oe), ⟨rfl, vs, e, hz.2.2 vs e⟩, List.mem_cons_self ..⟩
/-! ### texts alike, asked where an error is handled -/
def spLikeS : Sp := fun vs H Q _ => ∃ i j : Str, vs = [.str i, .str j] ∧ Q (.bl (decide (i = j))) H
theorem x_isSf {K : PySem.W.Frag} {H : Hp} {Q : VK} {z : Str} {n : String} (e : PySem.W.kitOne K (.type "str") (.type n) = some false) (h : Q (.bl false) H) : rIsi K [.str z, .ty n] H Q := x_isTy (.str _) e h
theorem ok_likeH (B : Bi K mg) (F : FnP K "_law_like" st_l_like f fd) : L2H.FnH P w K mg base CX0 1 f fd ["told", "due"] spLikeS := by
  obtain ⟨⟨oc, od, kV, doc, pm, an, cdv, ct, osl, rfl, lk, hcd⟩, kp⟩ := fun_ofD F
  refine L2H.fn_ofH lk hcd sc_l_like (fun vs H Q E h => ?_) (fun A outer s H vs Q E p hot hr h => ?_)
  · obtain ⟨i, j, rfl, _⟩ := h
    rfl
  · obtain ⟨i, j, rfl, k⟩ := h
    have G := B
    refine ⟨_, PSs.nox ((pss_cons (ps_if (PW.pt (pw_or (pt_val (pe_callB call_isi (by rfl) G.isinstance (by decide +kernel) (pa_cons (pv 1) (pa_cons (pe_bltn (v := .ty "list") (u := .type "list") (by rfl) G.list (by decide +kernel) rfl) pa_nil)))) (pw_or1 (pt_val (pe_callB call_isi (by rfl) G.isinstance (by decide +kernel) (pa_cons (pv 1) (pa_cons (pe_bltn (v := .ty "tuple") (u := .type "tuple") (by rfl) G.tuple (by decide +kernel) rfl) pa_nil)))))))
        (pss_cons ps_never
        (pss_one ps_never))
        pss_nil)
      (pss_cons (ps_if (pt_val (pe_callB call_isi (by rfl) G.isinstance (by decide +kernel) (pa_cons (pv 1) (pa_cons (pe_bltn (v := .ty "dict") (u := .type "dict") (by rfl) G.dict (by decide +kernel) rfl) pa_nil))))
        (pss_cons ps_never
        (pss_one ps_never))
        pss_nil)
      (pss_cons (ps_if (PW.pt (pw_or (pt_cmpR op_ne (pe_callB call_isi (by rfl) G.isinstance (by decide +kernel) (pa_cons (pv 0) (pa_cons (pe_bltn (v := .ty "bool") (u := .type "bool") (by rfl) G.bool (by decide +kernel) rfl) pa_nil))) (pe_callB call_isi (by rfl) G.isinstance (by decide +kernel) (pa_cons (pv 1) (pa_cons (pe_bltn (v := .ty "bool") (u := .type "bool") (by rfl) G.bool (by decide +kernel) rfl) pa_nil))) (nomark _)) (pw_or1 (pt_cmpR op_ne (pe_callB call_isi (by rfl) G.isinstance (by decide +kernel) (pa_cons (pv 0) (pa_cons (pe_bltn (v := .ty "int") (u := .type "int") (by rfl) G.int (by decide +kernel) rfl) pa_nil))) (pe_callB call_isi (by rfl) G.isinstance (by decide +kernel) (pa_cons (pv 1) (pa_cons (pe_bltn (v := .ty "int") (u := .type "int") (by rfl) G.int (by decide +kernel) rfl) pa_nil))) (nomark _)))))
        (pss_one (ps_ret pe_bl))
        pss_nil)
      (pss_one (ps_ret (pe_ifExp (pt_cmpR op_isNn (pv 1) pe_non (nomark _)) (pe_cmpR op_isNn (pv 0) pe_non (nomark _)) (pe_and (pe_cmpR op_eq (pe_callB call_isi (by rfl) G.isinstance (by decide +kernel) (pa_cons (pv 0) (pa_cons (pe_bltn (v := .ty "str") (u := .type "str") (by rfl) G.str (by decide +kernel) rfl) pa_nil))) (pe_callB call_isi (by rfl) G.isinstance (by decide +kernel) (pa_cons (pv 1) (pa_cons (pe_bltn (v := .ty "str") (u := .type "str") (by rfl) G.str (by decide +kernel) rfl) pa_nil))) (nomark _)) (pe_one (pe_cmpR op_eq (pv 0) (pv 1) (nomark _))))))))))), ?_⟩
    try dsimp only [cxOf, L2H.cxH]
    walk_at "go"
    refine x_isSf (kit_ty (by decide +kernel)) ?_
    walk_at "go"
    refine x_isSf (kit_ty (by decide +kernel)) ?_
    walk_at "go"
    refine x_isSf (kit_ty (by decide +kernel)) ?_
    walk_at "go"
    refine x_isSf (kit_ty (by decide +kernel)) ?_
    walk_at "go"
    refine x_isSf (kit_ty (by decide +kernel)) ?_
    walk_at "go"
    rw [decide_eq_true rfl]
    walk_at "go"
    refine x_isSf (kit_ty (by decide +kernel)) ?_
    walk_at "go"
    refine x_isSf (kit_ty (by decide +kernel)) ?_
    walk_at "go"
    rw [decide_eq_true rfl]
    walk_at "go"
    rw [decide_eq_false (fun z : V.str j = V.non => by cases z)]
    walk_at "go"
    rw [decide_eq_true rfl]
    walk_at "go"
    exact k
def spLikeI : Sp := fun vs H Q _ => ∃ i j : Int, vs = [.int i, .int j] ∧ Q (.bl (decide (i = j))) H
theorem ok_likeHi (B : Bi K mg) (F : FnP K "_law_like" st_l_like f fd) : L2H.FnH P w K mg base CX0 1 f fd ["told", "due"] spLikeI := by
  obtain ⟨⟨oc, od, kV, doc, pm, an, cdv, ct, osl, rfl, lk, hcd⟩, kp⟩ := fun_ofD F
  refine L2H.fn_ofH lk hcd sc_l_like (fun vs H Q E h => ?_) (fun A outer s H vs Q E p hot hr h => ?_)
  · obtain ⟨i, j, rfl, _⟩ := h
    rfl
  · obtain ⟨i, j, rfl, k⟩ := h
    have G := B
    refine ⟨_, PSs.nox ((pss_cons (ps_if (PW.pt (pw_or (pt_val (pe_callB call_isi (by rfl) G.isinstance (by decide +kernel) (pa_cons (pv 1) (pa_cons (pe_bltn (v := .ty "list") (u := .type "list") (by rfl) G.list (by decide +kernel) rfl) pa_nil)))) (pw_or1 (pt_val (pe_callB call_isi (by rfl) G.isinstance (by decide +kernel) (pa_cons (pv 1) (pa_cons (pe_bltn (v := .ty "tuple") (u := .type "tuple") (by rfl) G.tuple (by decide +kernel) rfl) pa_nil)))))))
        (pss_cons ps_never
        (pss_one ps_never))
        pss_nil)
      (pss_cons (ps_if (pt_val (pe_callB call_isi (by rfl) G.isinstance (by decide +kernel) (pa_cons (pv 1) (pa_cons (pe_bltn (v := .ty "dict") (u := .type "dict") (by rfl) G.dict (by decide +kernel) rfl) pa_nil))))
        (pss_cons ps_never
        (pss_one ps_never))
        pss_nil)
      (pss_cons (ps_if (PW.pt (pw_or (pt_cmpR op_ne (pe_callB call_isi (by rfl) G.isinstance (by decide +kernel) (pa_cons (pv 0) (pa_cons (pe_bltn (v := .ty "bool") (u := .type "bool") (by rfl) G.bool (by decide +kernel) rfl) pa_nil))) (pe_callB call_isi (by rfl) G.isinstance (by decide +kernel) (pa_cons (pv 1) (pa_cons (pe_bltn (v := .ty "bool") (u := .type "bool") (by rfl) G.bool (by decide +kernel) rfl) pa_nil))) (nomark _)) (pw_or1 (pt_cmpR op_ne (pe_callB call_isi (by rfl) G.isinstance (by decide +kernel) (pa_cons (pv 0) (pa_cons (pe_bltn (v := .ty "int") (u := .type "int") (by rfl) G.int (by decide +kernel) rfl) pa_nil))) (pe_callB call_isi (by rfl) G.isinstance (by decide +kernel) (pa_cons (pv 1) (pa_cons (pe_bltn (v := .ty "int") (u := .type "int") (by rfl) G.int (by decide +kernel) rfl) pa_nil))) (nomark _)))))
        (pss_one (ps_ret pe_bl))
        pss_nil)
      (pss_one (ps_ret (pe_ifExp (pt_cmpR op_isNn (pv 1) pe_non (nomark _)) (pe_cmpR op_isNn (pv 0) pe_non (nomark _)) (pe_and (pe_cmpR op_eq (pe_callB call_isi (by rfl) G.isinstance (by decide +kernel) (pa_cons (pv 0) (pa_cons (pe_bltn (v := .ty "str") (u := .type "str") (by rfl) G.str (by decide +kernel) rfl) pa_nil))) (pe_callB call_isi (by rfl) G.isinstance (by decide +kernel) (pa_cons (pv 1) (pa_cons (pe_bltn (v := .ty "str") (u := .type "str") (by rfl) G.str (by decide +kernel) rfl) pa_nil))) (nomark _)) (pe_one (pe_cmpR op_eq (pv 0) (pv 1) (nomark _))))))))))), ?_⟩
    try dsimp only [cxOf, L2H.cxH]
    walk_at "go"
    rw [decide_eq_true rfl]
    walk_at "go"
    rw [decide_eq_true rfl]
    walk_at "go"
    rw [decide_eq_false (fun z : V.int j = V.non => by cases z)]
    walk_at "go"
    rw [decide_eq_true rfl]
    walk_at "go"
    exact k
/-! ### Kind does just what is due -/
theorem KindAt.old {K : PySem.W.Frag} {H : Hp} {a q : Addr} {xs ys : List V} {arm mod : Nat} {h : Int} {es : List Int} {m p sn : Option Int} (x : KindAt K H a arm mod h es m p sn) (hq : H q = some (.lst xs)) : KindAt K (upd H q (.lst ys)) a arm mod h es m p sn := by
  obtain ⟨dx, bk, r, h1, ⟨db, h2⟩, h3⟩ := x
  exact ⟨dx, bk, r, by rw [upd_ne (ne_of_some h1 hq (by intro z; cases z))]; exact h1, ⟨db, by rw [upd_ne (ne_of_some h2 hq (by intro z; cases z))]; exact h2⟩, by rw [upd_ne (ne_of_some h3 hq (by intro z; cases z))]; exact h3⟩
theorem x_makeKS {C : Addr} {n m : Nat} {sp : Sp} {gV : List V → List V → List V} {E : L2.St → XK} {t tk : TA} {σ : L2.St} {H : Hp} {Q : VK} (h : t σ H fun vs H1 => tk σ H1 fun zs H2 => vs.length = n ∧ zs.length = m ∧ ∀ x dx, H2 x = none → H2 dx = none → dx ≠ x →
  sp (gV (.ref x :: vs) zs) (upd (upd H2 dx (.own x)) x (.ins C dx [])) (fun v H3 => v = .non ∧ Q (.ref x) H3) (E σ)) : tMakeKS C n m sp gV E t tk σ H Q := h
/-- Kind(..) may raise: all three ways -/
theorem kind_try {K : PySem.W.Frag} {H : Hp} {x dx xb rp : Addr} {arm mod : Nat} {h : Int} {es : List Int} {m p sn : Option Int} {Q : Hp → Prop} {E : XK} (hx : H x = none) (hd : H dx = none) (hB : BookAt K H xb arm mod) (ha2 : arm ≤ 12) (hm2 : mod ≤ 24) (hrp : H rp = some (.lst (es.map V.int)) ∨ H rp = some (.tup (es.map V.int))) (hl : es.length ≤ 900) (hhb : h.natAbs ≤ 1000000) (hm : m.getD 0 < 1073741824) (hp : p.getD 0 < 1073741824)
    (k1 : Formed h m p sn → brk arm mod h es m p sn = "" → ∀ H', Same H H' → KindAt K H' x arm mod h es m p sn → Q H')
    (k2 : ¬Formed h m p sn → ∀ (why : Str) d H', why ≠ "" → Same H H' → H' d = some (.xd [("why", .str why), ("line", .int 0)]) → E (.ref (He.ga K "BadKind")) (some d) H')
    (k3 : Formed h m p sn → brk arm mod h es m p sn ≠ "" → ∀ d H', Same H H' → H' d = some (.xd [("count", .str (brk arm mod h es m p sn))]) → E (.ref (He.ga K "NotOne")) (some d) H') :
    spKind K [.ref x, .ref xb, .int h, .ref rp, oV m, oV p, oV sn] (upd (upd H dx (.own x)) x (.ins (He.ga K "Kind") dx [])) (fun v H2 => v = .non ∧ Q H2) E := by
  have sm : Same H (upd (upd H dx (.own x)) x (.ins (He.ga K "Kind") dx [])) := same_made hx hd fun _ _ _ z => z
  exact ⟨x, dx, xb, rp, arm, mod, h, es, m, p, sn, rfl, upd_same, hB.same sm, by omega, by omega, hrp.elim (fun e => .inl (sm _ _ e)) (fun e => .inr (sm _ _ e)), hl, hhb, hm, hp, fun a b H' kp hK => ⟨rfl, k1 a b H' (same_made hx hd kp) hK⟩, fun a why d H' ne kp hd' => k2 a why d H' ne (same_made hx hd kp) hd', fun a b d H' kp hd' => k3 a b d H' (same_made hx hd kp) hd'⟩
structure KFacts (K : PySem.W.Frag) (mg : Str → Option Value) : Prop where
  gCE : mg "CombedError" = some (.ref (He.ga K "CombedError"))
  k1 : PySem.W.kitOne K (.ref (He.ga K "BadKind")) (.ref (He.ga K "CombedError")) = some true
  k2 : PySem.W.kitOne K (.ref (He.ga K "BadKind")) (.ref (He.ga K "NotOne")) = some false
  k3 : PySem.W.kitOne K (.ref (He.ga K "NotOne")) (.ref (He.ga K "CombedError")) = some true
  k4 : PySem.W.kitOne K (.ref (He.ga K "NotOne")) (.ref (He.ga K "BadKind")) = some false
  x1 : PySem.W.exmOne K (.ref (He.ga K "BadKind")) (.ref (He.ga K "BadKind")) = some true
  x2 : PySem.W.exmOne K (.ref (He.ga K "NotOne")) (.ref (He.ga K "BadKind")) = some false
  x3 : PySem.W.exmOne K (.ref (He.ga K "NotOne")) (.ref (He.ga K "NotOne")) = some true
def spKept (K : PySem.W.Frag) : Sp := fun vs H Q _ => ∃ (c ep : Addr) (arm mod : Nat) (h : Int) (es : List Int) (m p sn : Option Int), vs = [.int arm, .int mod, .ref c] ∧ CtsAt H c ep h es m p sn ∧ 1 ≤ arm ∧ arm ≤ 12 ∧ mod ≠ 1 ∧ mod ≤ 24 ∧ es.length ≤ 850 ∧ h.natAbs ≤ 1000 ∧ Bd 100000 es m p ∧ ∀ H', Same H H' → Q (.bl true) H'
theorem ok_kept {f1 : Addr} {fd1 : FuncData} (B : Bi K mg) (EB : Er2 P K mg "BadKind" (He.ga K "BadKind") "line" "why") (EN : Er1 P K mg "NotOne" (He.ga K "NotOne") "count") (kf : KFacts K mg) (g_Kind : mg "Kind" = some (.ref (He.ga K "Kind"))) (M_Kind : Mk K (He.ga K "Kind") f1) (FK : FnK K f1 fd1) (F_Kind : FnOk P w K mg base (L2N.CX P w) 4 f1 fd1 psK (spKind K)) (mk_Book_2 : C8.Mak P w K mg base 2 "Book" (He.ga K "Book") (spBook K) [])
    (c_l_formed : C8.Cal P w K mg base 1 "_law_formed" spFormed []) (c_l_broken : C8.Cal P w K mg base 2 "_law_broken" spLBroken []) (hI_l_like : CalH P w K mg base 1 "_law_like" ["told", "due"] spLikeI) (hS_l_like : CalH P w K mg base 1 "_law_like" ["told", "due"] spLikeS) (c_l_is_kind : C8.Cal P w K mg base 4 "_law_is_kind" (spIsKind K) []) (F : FnP K "_law_kept" st_l_kept f fd) : FnOk P w K mg base CX0 6 f fd ["arm", "mod", "counts"] (spKept K) := by
  obtain ⟨mv5, kb5⟩ := kbK5 FK
  obtain ⟨f2, fd2, GI, gl2, kl2, bl2⟩ := hI_l_like.ex
  obtain ⟨f3, fd3, GS, gl3, kl3, bl3⟩ := hS_l_like.ex
  refine F.ok sc_l_kept (fun vs H Q E h => ?_) (fun cdv A outer s H vs Q E hr h => ?_)
  · obtain ⟨c, ep, arm, mod, h, es, m, p, sn, rfl, _⟩ := h
    rfl
  · obtain ⟨c, ep, arm, mod, hh, es, m, p, sn, rfl, hC, ha1, ha2, hm1, hm2, hl, hhb, hbd, k⟩ := h
    have G := B
    have hc := hC.c_
    have he := hC.e_
    have hr5 : Room 5 _ := hr
    have hr1 : Room 1 _ := hr.mono (by decide)
    refine ⟨_, PSs.nox ((C8.pss_cut (ps_set (i := 3) sc_l_kept.nd rfl (Or.inl rfl) (pe_ifExp (pt_val (C8.pe_c c_l_formed hr (by decide) rfl (pa_cons (pv 2) pa_nil))) (C8.pe_c c_l_broken hr (by decide) rfl (pa_cons (pv 0) (pa_cons (pv 1) (pa_cons (pv 2) pa_nil)))) pe_str))
      (pss_cons (ps_set (i := 4) sc_l_kept.nd rfl (Or.inl rfl) (pe_callTy callListS (by rfl) G.list (by decide +kernel) (pa_cons (pe_ix ix_list (pv 2) pe_int (fun _ _ => rfl)) pa_nil)))
      (pss_cons (ps_try_asM (i := 6) (tb := fun W => tAsg (tMakeKS (He.ga K "Kind") 3 (["measure", "share", "balance"] : List Str).length (spKind K) (fun vs zs => gK5 vs [] zs) (L2.WE W) (tCons (tMake (He.ga K "Book") (spBook K) [] C8.E0 (tCons (tVar 0) (tCons (tVar 1) tNil))) (tCons (tOp (rIxL K) (tVar 2) (tC (.int 0))) (tCons (tVar 4) tNil))) (tCons (tOp (rIxL K) (tVar 2) (tC (.int 2))) (tCons (tOp (rIxL K) (tVar 2) (tC (.int 3))) (tCons (tOp (rIxL K) (tVar 2) (tC (.int 4))) tNil)))) (gName 5)) (Wout := fun _ _ _ _ => False) (l := [(.ref (He.ga K "BadKind"), fun a cls d => tRet (tAndV (tOp rEq (tVar 3) (tC (.str "form"))) (tAndV (tCB (rIsX K (He.ga K "BadKind") a cls d) (tCons (tVar 6) (tCons (tC (.ref (He.ga K "CombedError"))) tNil))) (tAndV (tNotV (tCB (rIsX K (He.ga K "BadKind") a cls d) (tCons (tVar 6) (tCons (tC (.ref (He.ga K "NotOne"))) tNil)))) (tAndV (tCallS spLikeI (fun _ _ _ _ => False) (tCons (tXf a cls d (He.ga K "BadKind") "line" (tVar 6)) (tCons (tC (.int 0)) tNil))) (tAndV (tCB (rIsi K) (tCons (tXf a cls d (He.ga K "BadKind") "why" (tVar 6)) (tCons (tC (.ty "str")) tNil))) (tOp rNe (tXf a cls d (He.ga K "BadKind") "why" (tVar 6)) (tC (.str ""))))))))), (.ref (He.ga K "NotOne"), fun a cls d => tRet (tAndV (tOp rNe (tVar 3) (tC (.str ""))) (tAndV (tCB (rIsX K (He.ga K "NotOne") a cls d) (tCons (tVar 6) (tCons (tC (.ref (He.ga K "CombedError"))) tNil))) (tAndV (tNotV (tCB (rIsX K (He.ga K "NotOne") a cls d) (tCons (tVar 6) (tCons (tC (.ref (He.ga K "BadKind"))) tNil)))) (tCallS spLikeS (fun _ _ _ _ => False) (tCons (tXf a cls d (He.ga K "NotOne") "count" (tVar 6)) (tCons (tVar 3) tNil)))))))]) rfl rfl sc_l_kept.nd rfl rfl takesN0 (fun W pn xe tk _ => pss_one (ps_set (i := 5) sc_l_kept.nd rfl (Or.inl rfl) (pe_makeKS M_Kind F_Kind hr5 rfl g_Kind kb5 (fun σ => L2N.passAt tk σ) (by exact (pa_cons (C8.pe_mk mk_Book_2 hr5 (by decide) rfl (pa_cons (pv 0) (pa_cons (pv 1) pa_nil))) (pa_cons (pe_ix ix_list (pv 2) pe_int (fun _ _ => rfl)) (pa_cons (pv 4) pa_nil)))) (by exact (pk_cons (pe_ix ix_list (pv 2) pe_int (fun _ _ => rfl)) (pk_cons (pe_ix ix_list (pv 2) pe_int (fun _ _ => rfl)) (pk_cons (pe_ix ix_list (pv 2) pe_int (fun _ _ => rfl)) pk_nil))))))) (HdsAs.cons ⟨rfl, by decide, Or.inl EB.g⟩ (fun a oe cls d pn hz hf => pss_one (ps_ret (pe_and (pe_cmpR op_eq (pv 3) pe_str (nomark _)) (pe_and (pe_callB (call_isX EB.ec hz.zc hf) (by rfl) G.isinstance (by decide +kernel) (by exact (pa_cons (pv 6) (pa_cons (pe_glob rfl kf.gCE rfl) pa_nil)))) (pe_and (pe_not (pe_callB (call_isX EB.ec hz.zc hf) (by rfl) G.isinstance (by decide +kernel) (by exact (pa_cons (pv 6) (pa_cons (pe_glob rfl EN.g rfl) pa_nil))))) (pe_and (L2H.pe_callH GI ⟨hr1.dp, hr1.un⟩ (hot_suite hz hf) rfl gl2 kl2 bl2 (fun σ pins H s e s' I c => False.elim c) (by exact (pa_cons (pe_xf EB.xf EB.nof hz.zc hf (pv 6)) (pa_cons pe_int pa_nil)))) (pe_and (pe_callB call_isi (by rfl) G.isinstance (by decide +kernel) (by exact (pa_cons (pe_xf EB.xf EB.nog hz.zc hf (pv 6)) (pa_cons (pe_bltn (v := .ty "str") (u := .type "str") (by rfl) G.str (by decide +kernel) rfl) pa_nil)))) (pe_one (pe_cmpR op_ne (pe_xf EB.xf EB.nog hz.zc hf (pv 6)) pe_str (nomark _)))))))))) (HdsAs.cons ⟨rfl, by decide, Or.inl EN.g⟩ (fun a oe cls d pn hz hf => pss_one (ps_ret (pe_and (pe_cmpR op_ne (pv 3) pe_str (nomark _)) (pe_and (pe_callB (call_isX EN.ec hz.zc hf) (by rfl) G.isinstance (by decide +kernel) (by exact (pa_cons (pv 6) (pa_cons (pe_glob rfl kf.gCE rfl) pa_nil)))) (pe_and (pe_not (pe_callB (call_isX EN.ec hz.zc hf) (by rfl) G.isinstance (by decide +kernel) (by exact (pa_cons (pv 6) (pa_cons (pe_glob rfl EB.g rfl) pa_nil))))) (pe_one (L2H.pe_callH GS ⟨hr1.dp, hr1.un⟩ (hot_suite hz hf) rfl gl3 kl3 bl3 (fun σ pins H s e s' I c => False.elim c) (by exact (pa_cons (pe_xf EN.xf EN.nof hz.zc hf (pv 6)) (pa_cons (pv 3) pa_nil)))))))))) .nil)))
      (pss_cons (ps_if (PW.pt (pw_or (pt_cmpR op_ne (pv 3) pe_str (nomark _)) (pw_or1 (pt_cmpR (op_neD hr.units) (pv 4) (pe_ix ix_list (pv 2) pe_int (fun _ _ => rfl)) (nomark _)))))
        (pss_one (ps_ret pe_bl))
        pss_nil)
      (pss_cons (ps_expr (pe_bm PySem.F.plainAttrs_list PySem.F.slot_list_append PySem.F.type_list_append mt_append (pv 4) (pa_cons pe_int pa_nil)))
      (pss_one (ps_ret (C8.pe_c c_l_is_kind hr (by decide) rfl (pa_cons (pv 5) (pa_cons (pv 0) (pa_cons (pv 1) (pa_cons (pv 2) pa_nil))))))))))))), ?_⟩
    try dsimp only [cxOf]
    refine x_cut (fun σ H' => ∃ due : Str, (Formed hh m p sn → due = brk arm mod hh es m p sn) ∧ (¬Formed hh m p sn → due = "form") ∧ Same H H' ∧ σ = [some (.int (arm : Nat)), some (.int (mod : Nat)), some (.ref c), some (.str due), none, none, none]) ?_ ?_
    · walk_at "go"
      refine ⟨c, ep, hh, es, m, p, sn, rfl, hC, fun H1 s1 fb hfb => ?_⟩
      cases fb with
      | true =>
        have hf := hfb.mp rfl
        walk_at "go"
        refine ⟨arm, mod, c, ep, hh, es, m, p, sn, rfl, hC.same s1, hf, by omega, by omega, by omega, fun e he => by have := hbd.e e he; omega, by omega, by have := hbd.m; omega, by have := hbd.p; omega, fun H2 s2 => ?_⟩
        walk_at "go"
        exact ⟨_, fun _ => rfl, fun z => absurd hf z, Same.trans s1 s2, rfl⟩
      | false =>
        walk_at "go"
        have hn : ¬Formed hh m p sn := fun z => by have := hfb.mpr z; cases this
        exact ⟨_, fun z => absurd z hn, fun _ => rfl, s1, rfl⟩
    rintro σ H1 ⟨due, hd1, hd2, s1, rfl⟩
    have hc1 := s1 _ _ hc
    have he1 := s1 _ _ he
    walk_at "go"
    refine x_listL (SqL.of he1) fun q hq => ?_
    have s2 : Same H (upd H1 q (.lst (es.map V.int))) := Same.trans s1 (Same.new hq)
    have hq2 : (upd H1 q (.lst (es.map V.int))) q = some (.lst (es.map V.int)) := upd_same
    have hqH : H q = none := by
      cases e : H q with
      | none => rfl
      | some o => have := s1 _ _ e; rw [hq] at this; cases this
    revert s2 hq2
    generalize upd H1 q (.lst (es.map V.int)) = H2
    intro s2 hq2
    have hc2 := s2 _ _ hc
    have he2 := s2 _ _ he
    walk_at "go"
    refine x_asg (x_makeKS ?_)
    walk_at "go"
    refine book_made ha1 ha2 hm1 hm2 fun xb H3 s3 hB => ?_
    have hc3 := s3 _ _ hc2
    have he3 := s3 _ _ he2
    have hq3 := s3 _ _ hq2
    walk_at "go"
    refine ⟨rfl, rfl, fun x dx hx hdx ne => ?_⟩
    refine kind_try (h := hh) (es := es) (m := m) (p := p) (sn := sn) hx hdx hB ha2 hm2 (.inl hq3) (by omega) (by omega) (by have := hbd.m; omega) (by have := hbd.p; omega) (fun hf hb H4 s4 hK => ?_) (fun hn why d H4 hw s4 hd => ?_) (fun hf hb d H4 s4 hd => ?_)
    · have hc4 := s4 _ _ hc3
      have he4 := s4 _ _ he3
      have hq4 := s4 _ _ hq3
      have := hd1 hf
      subst this
      walk_at "go"
      rw [hb, decide_eq_true rfl]
      walk_at "go"
      refine x_neIL (SqL.of hq4) (SqL.of he4) ?_
      rw [decide_eq_true rfl]
      walk_at "go"
      refine x_append hq4 (by rw [List.length_map]; exact Nat.lt_of_le_of_lt hl (by decide)) ?_
      have sF : Same H (upd H4 q (.lst (es.map V.int ++ [.int 77]))) := fun y o e => by
        rw [upd_ne (fun z => by rw [z, hqH] at e; cases e)]
        exact (Same.trans s2 (Same.trans s3 s4)) y o e
      walk_at "go"
      exact ⟨x, c, ep, arm, mod, hh, es, m, p, sn, rfl, hK.old hq4, hC.same sF, by omega, fun H5 s5 => k _ (Same.trans sF s5)⟩
    · refine ⟨true, kf.x1, fun _ a ha => ?_, fun z => by cases z⟩
      have := hd2 hn
      subst this
      walk_at "go"
      rw [decide_eq_true rfl]
      walk_at "go"
      refine ⟨_, _, true, d, _, rfl, rfl, hd, rfl, fun u r => r, kf.k1, ?_⟩
      walk_at "go"
      refine ⟨_, _, false, d, _, rfl, rfl, hd, rfl, fun u r => r, kf.k2, ?_⟩
      walk_at "go"
      refine x_callS ?_
      walk_at "go"
      refine x_xf rfl rfl hd rfl ?_
      walk_at "go"
      refine ⟨0, 0, rfl, ?_⟩
      rw [decide_eq_true rfl]
      walk_at "go"
      refine x_xf rfl rfl hd rfl ?_
      walk_at "go"
      refine x_xf rfl rfl hd rfl ?_
      walk_at "go"
      rw [decide_eq_false hw]
      exact k _ (Same.trans s2 (Same.trans s3 s4))
    · refine ⟨false, kf.x2, (fun z => by cases z), fun _ => ⟨true, kf.x3, fun _ a ha => ?_, fun z => by cases z⟩⟩
      have := hd1 hf
      subst this
      walk_at "go"
      rw [decide_eq_false hb]
      walk_at "go"
      refine ⟨_, _, true, d, _, rfl, rfl, hd, rfl, fun u r => r, kf.k3, ?_⟩
      walk_at "go"
      refine ⟨_, _, false, d, _, rfl, rfl, hd, rfl, fun u r => r, kf.k4, ?_⟩
      walk_at "go"
      refine x_callS ?_
      walk_at "go"
      refine x_xf rfl rfl hd rfl ?_
      walk_at "go"
      refine ⟨_, _, rfl, ?_⟩
      rw [decide_eq_true rfl]
      exact k _ (Same.trans s2 (Same.trans s3 s4))
def gK0 {α : Type} (us mv ws : List α) : List α := us ++ ws ++ mv
theorem kbK0 (F : FnK K f fd) : ∃ mv : List Value, KBn K fd psK 4 [] (fun us ws => gK0 us mv ws) (fun vs zs => gK0 vs [.non, .non, .non] zs) :=
  FunD.kbinds0 F 4 [] [("measure", .non), ("share", .non), ("balance", .non)] gK0 (by decide) (fun q hq => hq) (fun r1 r2 r3 => (r1.append r3).append r2)
    fun D doc pm an cdv ct us mv ws l1 l2 l3 => match us, mv, ws, l1, l2, l3 with | [_, _, _, _], [_, _, _], [], _, _, _ => ⟨_, _, _, _, _, _, rfl, rfl, _, _, _, _, _, _, rfl, rfl, _, _, _, _, _, _, rfl, rfl, rfl⟩
def spShort (K : PySem.W.Frag) : Sp := fun vs H Q _ => ∃ (c ep : Addr) (arm mod : Nat) (h : Int) (es : List Int) (m p sn : Option Int), vs = [.int arm, .int mod, .ref c] ∧ CtsAt H c ep h es m p sn ∧ 1 ≤ arm ∧ arm ≤ 12 ∧ mod ≠ 1 ∧ mod ≤ 24 ∧ es.length ≤ 850 ∧ h.natAbs ≤ 1000 ∧ Formed h m p sn ∧ brk arm mod h es m p sn = "" ∧ ∀ H', Same H H' → Q (.bl true) H'
theorem ok_short {f1 : Addr} {fd1 : FuncData} (B : Bi K mg) (EB : Er2 P K mg "BadKind" (He.ga K "BadKind") "line" "why") (kf : KFacts K mg) (g_Kind : mg "Kind" = some (.ref (He.ga K "Kind"))) (M_Kind : Mk K (He.ga K "Kind") f1) (FK : FnK K f1 fd1) (F_Kind : FnOk P w K mg base (L2N.CX P w) 4 f1 fd1 psK (spKind K)) (mk_Book_2 : C8.Mak P w K mg base 2 "Book" (He.ga K "Book") (spBook K) [])
    (hI_l_like : CalH P w K mg base 1 "_law_like" ["told", "due"] spLikeI) (c_l_is_kind : C8.Cal P w K mg base 4 "_law_is_kind" (spIsKind K) []) (F : FnP K "_law_short" st_l_short f fd) : FnOk P w K mg base CX0 6 f fd ["arm", "mod", "counts"] (spShort K) := by
  obtain ⟨mv0, kb0⟩ := kbK0 FK
  obtain ⟨f2, fd2, GI, gl2, kl2, bl2⟩ := hI_l_like.ex
  refine F.ok sc_l_short (fun vs H Q E h => ?_) (fun cdv A outer s H vs Q E hr h => ?_)
  · obtain ⟨c, ep, arm, mod, h, es, m, p, sn, rfl, _⟩ := h
    rfl
  · obtain ⟨c, ep, arm, mod, hh, es, m, p, sn, rfl, hC, ha1, ha2, hm1, hm2, hl, hhb, hf, hb, k⟩ := h
    have G := B
    have hc := hC.c_
    have he := hC.e_
    have hr5 : Room 5 _ := hr
    have hr1 : Room 1 _ := hr.mono (by decide)
    refine ⟨_, PSs.nox ((pss_cons (ps_try_asM (i := 4) (tb := fun W => tAsg (tMakeKS (He.ga K "Kind") 3 ([] : List Str).length (spKind K) (fun vs zs => gK0 vs [.non, .non, .non] zs) (L2.WE W) (tCons (tMake (He.ga K "Book") (spBook K) [] C8.E0 (tCons (tVar 0) (tCons (tVar 1) tNil))) (tCons (tOp (rIxL K) (tVar 2) (tC (.int 0))) (tCons (tCB (rTupOf K) (tCons (tOp (rIxL K) (tVar 2) (tC (.int 1))) tNil)) tNil))) tNil) (gName 3)) (Wout := fun _ _ _ _ => False) (l := [(.ref (He.ga K "BadKind"), fun a cls d => tRet (tAndV (tOp (rI0 fun i j => V.bl (decide (j < i))) (tOp (rIxL K) (tVar 2) (tC (.int 0))) (tC (.int 0))) (tCallS spLikeI (fun _ _ _ _ => False) (tCons (tXf a cls d (He.ga K "BadKind") "line" (tVar 4)) (tCons (tC (.int 0)) tNil)))))]) rfl rfl sc_l_short.nd rfl rfl takesN0 (fun W pn xe tk _ => pss_one (ps_set (i := 3) sc_l_short.nd rfl (Or.inl rfl) (pe_makeKS M_Kind F_Kind hr5 rfl g_Kind kb0 (fun σ => L2N.passAt tk σ) (by exact (pa_cons (C8.pe_mk mk_Book_2 hr5 (by decide) rfl (pa_cons (pv 0) (pa_cons (pv 1) pa_nil))) (pa_cons (pe_ix ix_list (pv 2) pe_int (fun _ _ => rfl)) (pa_cons (pe_callTy (call_tupOf rfl) (by rfl) G.tuple (by decide +kernel) (pa_cons (pe_ix ix_list (pv 2) pe_int (fun _ _ => rfl)) pa_nil)) pa_nil)))) (by exact pk_nil)))) (HdsAs.cons ⟨rfl, by decide, Or.inl EB.g⟩ (fun a oe cls d pn hz hf => pss_one (ps_ret (pe_and (pe_cmpR op_gt (pe_ix ix_list (pv 2) pe_int (fun _ _ => rfl)) pe_int (nomark _)) (pe_one (L2H.pe_callH GI ⟨hr1.dp, hr1.un⟩ (hot_suite hz hf) rfl gl2 kl2 bl2 (fun σ pins H s e s' I c => False.elim c) (by exact (pa_cons (pe_xf EB.xf EB.nof hz.zc hf (pv 4)) (pa_cons pe_int pa_nil)))))))) .nil))
      (pss_one (ps_ret (pe_and (pe_cmpR op_eq (pe_ix ix_list (pv 2) pe_int (fun _ _ => rfl)) pe_int (nomark _)) (pe_one (C8.pe_c c_l_is_kind hr (by decide) rfl (pa_cons (pv 3) (pa_cons (pv 0) (pa_cons (pv 1) (pa_cons (pv 2) pa_nil))))))))))), ?_⟩
    try dsimp only [cxOf]
    refine x_seq ?_
    refine x_asg (x_makeKS ?_)
    walk_at "go"
    refine book_made ha1 ha2 hm1 hm2 fun xb H3 s3 hB => ?_
    have hc3 := s3 _ _ hc
    have he3 := s3 _ _ he
    walk_at "go"
    refine x_tupL (SqL.of he3) fun q hq => ?_
    walk_at "go"
    refine ⟨rfl, rfl, fun x dx hx hdx ne => ?_⟩
    have sq : Same H (upd H3 q (.tup (es.map V.int))) := Same.trans s3 (Same.new hq)
    obtain ⟨f1, f2, f3, f4⟩ := id hf
    refine kind_try (h := hh) (es := es) (m := none) (p := none) (sn := none) hx hdx (hB.same (Same.new hq)) ha2 hm2 (.inr upd_same) (by omega) (by omega) (by decide) (by decide) (fun hf0 hb0 H4 s4 hK => ?_) (fun hn why d H4 hw s4 hd => ?_) (fun hf0 hb0 d H4 s4 hd => ?_)
    · obtain ⟨_, g2, g3, _⟩ := id hf0
      have h0 : hh = 0 := by
        have a1 : hh ≠ 1 := fun z => by have := g2.mpr z; cases this
        have a2 : ¬ 2 ≤ hh := fun z => by have := g3.mpr z; cases this
        omega
      obtain rfl : m = none := by cases m with | none => rfl | some _ => exact absurd (f2.mp rfl) (by omega)
      obtain rfl : p = none := by cases p with | none => rfl | some _ => exact absurd (f3.mp rfl) (by omega)
      obtain rfl : sn = none := f4.elim id fun z => absurd z.1 (by omega)
      have s5 := Same.trans sq s4
      have hc4 := s5 _ _ hc
      walk_at "go"
      rw [h0, decide_eq_true rfl]
      walk_at "go"
      rw [h0] at hK hC
      exact ⟨x, c, ep, arm, mod, 0, es, none, none, none, rfl, hK, hC.same s5, by omega, fun H5 s6 => k _ (Same.trans s5 s6)⟩
    · refine ⟨true, kf.x1, fun _ a ha => ?_, fun z => by cases z⟩
      have hpos : 0 < hh := by
        refine Classical.byContradiction fun z => hn ⟨f1, ⟨fun z => (by cases z), fun z => absurd z (by omega)⟩, ⟨fun z => (by cases z), fun z => absurd z (by omega)⟩, .inl rfl⟩
      have s5 := Same.trans sq s4
      have hc4 := s5 _ _ hc
      walk_at "go"
      rw [decide_eq_true hpos]
      walk_at "go"
      refine x_callS ?_
      walk_at "go"
      refine x_xf rfl rfl hd rfl ?_
      walk_at "go"
      refine ⟨0, 0, rfl, ?_⟩
      rw [decide_eq_true rfl]
      exact k _ s5
    · obtain ⟨_, g2, g3, _⟩ := id hf0
      have h0 : hh = 0 := by
        have a1 : hh ≠ 1 := fun z => by have := g2.mpr z; cases this
        have a2 : ¬ 2 ≤ hh := fun z => by have := g3.mpr z; cases this
        omega
      obtain rfl : m = none := by cases m with | none => rfl | some _ => exact absurd (f2.mp rfl) (by omega)
      obtain rfl : p = none := by cases p with | none => rfl | some _ => exact absurd (f3.mp rfl) (by omega)
      obtain rfl : sn = none := f4.elim id fun z => absurd z.1 (by omega)
      exact absurd hb hb0
def spLaw (K : PySem.W.Frag) : Sp := fun vs H Q _ => ∃ (a : Addr) (ns : List Int), vs = [.ref a] ∧ SqL K H a (ns.map V.int) ∧ ns.length ≤ 63 ∧ ∀ H', Q (.bl true) H'
theorem ok_law (B : Bi K mg) (c_l_bag : C8.Cal P w K mg base 1 "_law_bag" (spBag K) []) (c_l_draw : C8.Cal P w K mg base 1 "_law_draw" spDraw []) (c_l_arms : C8.Cal P w K mg base 2 "_law_arms" spArms []) (c_l_right : C8.Cal P w K mg base 3 "_law_right" spRight []) (c_l_kept : C8.Cal P w K mg base 6 "_law_kept" (spKept K) []) (c_l_short : C8.Cal P w K mg base 6 "_law_short" (spShort K) [])
    (c_l_bent : C8.Cal P w K mg base 4 "_law_bent" spBent []) (c_l_odd : C8.Cal P w K mg base 3 "_law_odd" spOdd []) (c_l_edged : C8.Cal P w K mg base 3 "_law_edged" spEdged []) (c_l_is_kind : C8.Cal P w K mg base 4 "_law_is_kind" (spIsKind K) []) (c_l_kind_made : C8.Cal P w K mg base 6 "_law_kind_made" (spKMade K) [])
    (F : FnP K "law" st_law f fd) : FnOk P w K mg base CX0 7 f fd ["script"] (spLaw K) := by
  refine F.ok sc_law (fun vs H Q E h => ?_) (fun cdv A outer s H vs Q E hr h => ?_)
  · obtain ⟨a, ns, rfl, _⟩ := h
    rfl
  · obtain ⟨a, ns, rfl, hS, hl, kk⟩ := h
    have G := B
    refine ⟨_, PSs.nox ((pss_cons (ps_set (i := 1) sc_law.nd rfl (Or.inl rfl) (C8.pe_c c_l_bag hr (by decide) rfl (pa_cons (pv 0) pa_nil)))
      (pss_cons (ps_asg (C8.pe_c c_l_arms hr (by decide) rfl (pa_cons (pv 1) pa_nil)) (pg_unl rfl (pgs_cons (pg_name (i := 2) sc_law.nd rfl (Or.inl rfl)) (pgs_cons (pg_name (i := 3) sc_law.nd rfl (Or.inl rfl)) pgs_nil))))
      (C8.pss_cut (ps_set (i := 4) sc_law.nd rfl (Or.inl rfl) (C8.pe_c c_l_right hr (by decide) rfl (pa_cons (pv 1) (pa_cons (pv 2) (pa_cons (pv 3) (pa_cons (C8.pe_c c_l_draw hr (by decide) rfl (pa_cons (pv 1) (pa_cons pe_int pa_nil))) (pa_cons (pe_op op_add pe_int (C8.pe_c c_l_draw hr (by decide) rfl (pa_cons (pv 1) (pa_cons pe_int pa_nil)))) pa_nil)))))))
      (pss_cons (ps_if (PW.pt (pw_or (pt_not (pt_val (C8.pe_c c_l_kept hr (by decide) rfl (pa_cons (pv 2) (pa_cons (pv 3) (pa_cons (pv 4) pa_nil)))))) (pw_or1 (pt_not (pt_val (C8.pe_c c_l_short hr (by decide) rfl (pa_cons (pv 2) (pa_cons (pv 3) (pa_cons (pv 4) pa_nil)))))))))
        (pss_one (ps_ret pe_bl))
        pss_nil)
      (pss_cons (ps_for PassesOwn.never rfl (pi_range1 (by rfl) G.range (pa_cons pe_int pa_nil)) (pg_name (i := 5) sc_law.nd rfl (Or.inl rfl))
        (pss_cons (ps_set (i := 6) sc_law.nd rfl (Or.inl rfl) (C8.pe_c c_l_bent hr (by decide) rfl (pa_cons (pv 1) (pa_cons (pv 2) (pa_cons (pv 3) (pa_cons (pv 4) pa_nil))))))
        (C8.pss_cut (ps_if (PW.pt (pw_and (pt_cmpR op_gt (pv 5) pe_int (nomark _)) (pw_and1 (pt_cmpR (op_neD hr.units) (pe_ix ix_list (pv 6) pe_int (fun _ _ => rfl)) (pe_lst pa_nil) (nomark _)))))
          (pss_one (ps_set (i := 6) sc_law.nd rfl (Or.inl rfl) (C8.pe_c c_l_bent hr (by decide) rfl (pa_cons (pv 1) (pa_cons (pv 2) (pa_cons (pv 3) (pa_cons (pv 6) pa_nil)))))))
          pss_nil)
        (pss_one (ps_if (pt_not (pt_val (C8.pe_c c_l_kept hr (by decide) rfl (pa_cons (pv 2) (pa_cons (pv 3) (pa_cons (pv 6) pa_nil))))))
          (pss_one (ps_ret pe_bl))
          pss_nil)))))
      (pss_cons (ps_set (i := 7) sc_law.nd rfl (Or.inl rfl) (C8.pe_c c_l_odd hr (by decide) rfl (pa_cons (pv 1) (pa_cons (pv 4) pa_nil))))
      (pss_cons (ps_if (pt_not (pt_val (C8.pe_c c_l_kept hr (by decide) rfl (pa_cons (pv 2) (pa_cons (pv 3) (pa_cons (pv 7) pa_nil))))))
        (pss_one (ps_ret pe_bl))
        pss_nil)
      (pss_cons (ps_set (i := 7) sc_law.nd rfl (Or.inl rfl) (pe_op op_cat (pe_lst (pa_cons (pe_ix ix_list (pv 7) pe_int (fun _ _ => rfl)) (pa_cons (C8.pe_c c_l_edged hr (by decide) rfl (pa_cons (pv 1) (pa_cons (pv 3) (pa_cons (pv 4) pa_nil)))) pa_nil))) (pe_slice sl_list (pv 7) (po_some pe_int) po_none)))
      (pss_one (ps_ret (pe_and (C8.pe_c c_l_kept hr (by decide) rfl (pa_cons (pv 2) (pa_cons (pv 3) (pa_cons (pv 7) pa_nil)))) (pe_one (C8.pe_c c_l_is_kind hr (by decide) rfl (pa_cons (C8.pe_c c_l_kind_made hr (by decide) rfl (pa_cons (pv 2) (pa_cons (pv 3) (pa_cons (pv 4) pa_nil)))) (pa_cons (pv 2) (pa_cons (pv 3) (pa_cons (pv 4) pa_nil)))))))))))))))))), ?_⟩
    try dsimp only [cxOf]
    walk_at "go"
    refine ⟨a, ns, rfl, hS, hl, fun b l H0 hb0 hl0 hB0 s0 => ?_⟩
    walk_at "go"
    refine ⟨b, l, rfl, hB0, fun arm mod p H1 ha1 ha2 hm1 hm2 hp1 hB1 kp1 hpv => ?_⟩
    walk_at "go"
    refine x_cut (fun σ H' => BagAt H' b l ∧ ∃ (c ep : Addr) (h : Nat) (es : List Int) (m p sn : Option Int), h ≤ 4 ∧ CtsAt H' c ep (h : Int) es m p sn ∧ Formed (h : Int) m p sn ∧ es ≠ [] ∧ es.length ≤ 5 ∧ brk arm mod (h : Int) es m p sn = "" ∧ Bd 1000 es m p ∧ σ = [some (.ref a), some (.ref b), some (.int (arm : Nat)), some (.int (mod : Nat)), some (.ref c), none, none, none]) ?_ ?_
    · walk_at "go"
      refine ⟨b, l, 5, rfl, hB1, by decide, by decide, fun hh H2 hh5 hB2 kp2 => ?_⟩
      walk_at "go"
      refine ⟨b, l, 5, rfl, hB2, by decide, by decide, fun r H3 hr5 hB3 kp3 => ?_⟩
      walk_at "go"
      refine ⟨b, l, arm, mod, 1 + r, hh, by rw [Int.natCast_add]; rfl, hB3, ha1, ha2, hm1, hm2, by omega, by omega, by omega, fun c ep es m p sn H4 hB4 kp4 hC hf hel hb hbd => ?_⟩
      walk_at "go"
      exact ⟨hB4, c, ep, hh, es, m, p, sn, by omega, hC, hf, fun z => by rw [z] at hel; exact absurd hel (by show ¬ 0 = 1 + r; omega), by omega, hb, hbd, rfl⟩
    rintro σ H4 ⟨hB4, c, ep, hh, es, m, pp, sn, hh4, hC4, hf, hne, hel, hb, hbd, rfl⟩
    walk_at "go"
    refine ⟨c, ep, arm, mod, (hh : Int), es, m, pp, sn, rfl, hC4, ha1, ha2, hm1, hm2, by omega, by omega, hbd.up (by decide), fun H5 s5 => ?_⟩
    walk_at "go"
    refine ⟨c, ep, arm, mod, (hh : Int), es, m, pp, sn, rfl, hC4.same s5, ha1, ha2, hm1, hm2, by omega, by omega, hf, hb, fun H6 s6 => ?_⟩
    have hB6 := hB4.same (Same.trans s5 s6)
    have hC6 := hC4.same (Same.trans s5 s6)
    walk_at "go"
    refine w_forR1 (by decide) (by decide) (fun i σ H' => BagAt H' b l ∧ CtsAt H' c ep (hh : Int) es m pp sn ∧ ∃ u5 u6, σ = [some (.ref a), some (.ref b), some (.int (arm : Nat)), some (.int (mod : Nat)), some (.ref c), u5, u6, none]) ⟨hB6, hC6, _, _, rfl⟩ ?_ ?_
    · rintro i σ H7 hi ⟨hB7, hC7, u5, u6, rfl⟩
      have hi6 : i < 6 := hi
      walk_at "go"
      refine ⟨b, l, c, ep, arm, mod, 1000, (hh : Int), es, m, pp, sn, rfl, hB7, hC7, hf, by omega, by omega, hne, by omega, by decide, by decide, hbd, fun q ep' es' m' p' sn' H8 hB8 kp8 hC8 hf8 hl8 hbd8 => ?_⟩
      have hCc8 := hC7.kp hB7 kp8
      walk_at "go"
      refine x_cut (fun σ H' => BagAt H' b l ∧ CtsAt H' c ep (hh : Int) es m pp sn ∧ ∃ (q ep' : Addr) (es' : List Int) (m' p' sn' : Option Int), CtsAt H' q ep' (hh : Int) es' m' p' sn' ∧ es'.length ≤ 7 ∧ Bd 4300 es' m' p' ∧ ∃ u5, σ = [some (.ref a), some (.ref b), some (.int (arm : Nat)), some (.int (mod : Nat)), some (.ref c), u5, some (.ref q), none]) ?_ ?_
      · have hq8 := hC8.c_
        have he8 := hC8.e_
        walk_at "go"
        refine x_iteD (fun c1 => ?_) (fun c1 => ?_)
        · walk_at "go"
          refine ⟨Nat.zero_le _, fun u hu => ?_⟩
          refine x_neIL (ns := es') (ms := []) (SqL.of (upd_old hu he8)) (SqL.of upd_same) ?_
          have hB9 := hB8.new (o := .lst []) hu
          have hC9 := hC8.same (Same.new (o := .lst []) hu)
          have hCc9 := hCc8.same (Same.new (o := .lst []) hu)
          revert hB9 hC9 hCc9
          generalize upd H8 u (.lst []) = H9
          intro hB9 hC9 hCc9
          by_cases c2 : es' = []
          · rw [decide_eq_true c2]
            walk_at "go"
            exact ⟨hB9, hCc9, q, ep', es', m', p', sn', hC9, by omega, hbd8.up (by decide), _, rfl⟩
          · rw [decide_eq_false c2]
            walk_at "go"
            refine ⟨b, l, q, ep', arm, mod, 2 * 1000 + 100, (hh : Int), es', m', p', sn', rfl, hB9, hC9, hf8, by omega, by omega, c2, by omega, by decide, by decide, hbd8, fun q2 ep2 es2 m2 p2 sn2 H10 hB10 kp10 hC10 hf10 hl10 hbd10 => ?_⟩
            walk_at "go"
            exact ⟨hB10, hCc9.kp hB9 kp10, q2, ep2, es2, m2, p2, sn2, hC10, by omega, hbd10.up (by decide), _, rfl⟩
        · walk_at "go"
          exact ⟨hB8, hCc8, q, ep', es', m', p', sn', hC8, by omega, hbd8.up (by decide), _, rfl⟩
      rintro σ H9 ⟨hB9, hC9, q, ep', es', m', p', sn', hC9', hl9, hbd9, u5, rfl⟩
      walk_at "go"
      refine ⟨q, ep', arm, mod, (hh : Int), es', m', p', sn', rfl, hC9', ha1, ha2, hm1, hm2, by omega, by omega, hbd9.up (by decide), fun H10 s10 => ?_⟩
      walk_at "go"
      exact ⟨hB9.same s10, hC9.same s10, _, _, rfl⟩
    · rintro σ H7 ⟨hB7, hC7, u5, u6, rfl⟩
      walk_at "go"
      refine ⟨b, l, c, ep, 1000, (hh : Int), es, m, pp, sn, rfl, hB7, hC7, by omega, by decide, hbd, fun q h' m' p' sn' H8 hB8 kp8 hC8 hh8 hbd8 => ?_⟩
      have hCc8 := hC7.kp hB7 kp8
      walk_at "go"
      refine ⟨q, ep, arm, mod, h', es, m', p', sn', rfl, hC8, ha1, ha2, hm1, hm2, by omega, by omega, hbd8.up (by decide), fun H9 s9 => ?_⟩
      have hB9 := hB8.same s9
      have hC9 := hC8.same s9
      have hCc9 := hCc8.same s9
      have hq9 := hC9.c_
      have nqb := cts_ne_bag (H' := H9) hB9 hq9
      walk_at "go"
      refine ⟨b, l, c, ep, mod, 1000, (hh : Int), es, m, pp, sn, rfl, hB9, hCc9, by omega, hne, by omega, by decide, by decide, hbd.e, fun t H10 es10 hB10 kp10 ht hl10 hb10 => ?_⟩
      have hq10 := kp10 _ _ nqb hq9
      have hCc10 := hCc9.kp hB9 kp10
      walk_at "go"
      refine ⟨by show 2 ≤ sizeLine; decide, fun u hu => ?_⟩
      walk_at "go"
      refine x_slL (SqL.of (upd_old hu hq10)) fun v hv => ?_
      refine x_cat (upd_old hv upd_same) upd_same (by show 2 + 3 ≤ sizeLine; decide) fun z hz => ?_
      have s13 : Same H10 (upd (upd (upd H10 u (.lst [.int h', .ref t])) v (.lst (cutV [.int h', .ref ep, oV m', oV p', oV sn'] (some 2) none))) z (.lst ([.int h', .ref t] ++ cutV [.int h', .ref ep, oV m', oV p', oV sn'] (some 2) none))) := Same.trans (Same.new hu) (Same.trans (Same.new hv) (Same.new hz))
      have hz13 : (upd (upd (upd H10 u (.lst [.int h', .ref t])) v (.lst (cutV [.int h', .ref ep, oV m', oV p', oV sn'] (some 2) none))) z (.lst ([.int h', .ref t] ++ cutV [.int h', .ref ep, oV m', oV p', oV sn'] (some 2) none))) z = some (.lst [.int h', .ref t, oV m', oV p', oV sn']) := upd_same
      revert s13 hz13
      generalize upd (upd (upd H10 u (.lst [.int h', .ref t])) v (.lst (cutV [.int h', .ref ep, oV m', oV p', oV sn'] (some 2) none))) z (.lst ([.int h', .ref t] ++ cutV [.int h', .ref ep, oV m', oV p', oV sn'] (some 2) none)) = H13
      intro s13 hz13
      have hC13 : CtsAt H13 z t h' es10 m' p' sn' := ⟨hz13, s13 _ _ ht⟩
      walk_at "go"
      refine ⟨z, t, arm, mod, h', es10, m', p', sn', rfl, hC13, ha1, ha2, hm1, hm2, by omega, by omega, ⟨fun e he => Nat.le_trans (hb10 e he) (by decide), Nat.le_trans hbd8.m (by decide), Nat.le_trans hbd8.p (by decide)⟩, fun H14 s14 => ?_⟩
      have hC14 := (hCc10.same s13).same s14
      walk_at "go"
      refine ⟨c, ep, arm, mod, (hh : Int), es, m, pp, sn, rfl, hC14, ha1, ha2, hm1, hm2, by omega, by omega, by have := hbd.m; omega, by have := hbd.p; omega, hf, hb, fun kd H15 s15 hK => ?_⟩
      walk_at "go"
      exact ⟨kd, c, ep, arm, mod, (hh : Int), es, m, pp, sn, rfl, hK, hC14.same s15, by omega, fun H16 s16 => kk _⟩
end
theorem facts {P : Program} {w : World} {K : PySem.W.Frag} {h : Heap} {mg : Str → Option Value} {f : Addr} (X : K.In h) (G : h.Ns mainGlobals mg) (hfa : mg ("law" : Str) = some (.ref f)) (hP : ErP P "/claim/cut.py") (c : SaysZ fa fn ex er xb K) :
    ∃ fd : FuncData, (∀ (s : Shared) (v : Value), BindsTo s fd ⟨[v], []⟩ [("script", v)]) ∧ ∀ base : Heap, K.In base → base.Ns mainGlobals mg → FnOk P w K mg base CX0 7 f fd ["script"] (spLaw K) := by
  have cD := c.y.d
  have cE := c.y.e
  obtain ⟨fd_is_number, F_is_number⟩ := cD.def_ 0 (d := d_is_number) rfl
  obtain ⟨fd_Book_init, F_Book_init⟩ := cD.def_ 1 (d := d_Book_init) rfl
  obtain ⟨fd_divides, F_divides⟩ := cD.def_ 2 (d := d_divides) rfl
  obtain ⟨fd_has_balance, F_has_balance⟩ := cD.def_ 3 (d := d_has_balance) rfl
  obtain ⟨fd_some_odd_rim, F_some_odd_rim⟩ := cD.def_ 4 (d := d_some_odd_rim) rfl
  obtain ⟨fd_rims_stand, F_rims_stand⟩ := cD.def_ 5 (d := d_rims_stand) rfl
  obtain ⟨fd_due_sum, F_due_sum⟩ := cD.def_ 6 (d := d_due_sum) rfl
  obtain ⟨fd_sum_stands, F_sum_stands⟩ := cD.def_ 7 (d := d_sum_stands) rfl
  obtain ⟨fd_measure_stands, F_measure_stands⟩ := cD.def_ 8 (d := d_measure_stands) rfl
  obtain ⟨fd_share_stands, F_share_stands⟩ := cD.def_ 9 (d := d_share_stands) rfl
  obtain ⟨fd_balance_stands, F_balance_stands⟩ := cD.def_ 10 (d := d_balance_stands) rfl
  obtain ⟨fd_broken_count, F_broken_count⟩ := cD.def_ 11 (d := d_broken_count) rfl
  obtain ⟨fd_ill_formed, F_ill_formed⟩ := cD.def_ 12 (d := d_ill_formed) rfl
  obtain ⟨fd_Kind_init, F_Kind_init⟩ := cD.def_ 13 (d := d_Kind_init) rfl
  obtain ⟨fd_l_bag, F_l_bag⟩ := cD.def_ 14 (d := d_l_bag) rfl
  obtain ⟨fd_l_draw, F_l_draw⟩ := cD.def_ 15 (d := d_l_draw) rfl
  obtain ⟨fd_l_of, F_l_of⟩ := cD.def_ 16 (d := d_l_of) rfl
  obtain ⟨fd_l_like, F_l_like⟩ := cD.def_ 17 (d := d_l_like) rfl
  obtain ⟨fd_l_red, F_l_red⟩ := cD.def_ 18 (d := d_l_red) rfl
  obtain ⟨fd_l_divisor, F_l_divisor⟩ := cD.def_ 19 (d := d_l_divisor) rfl
  obtain ⟨fd_l_divisors, F_l_divisors⟩ := cD.def_ 20 (d := d_l_divisors) rfl
  obtain ⟨fd_l_arms, F_l_arms⟩ := cD.def_ 21 (d := d_l_arms) rfl
  obtain ⟨fd_l_formed, F_l_formed⟩ := cD.def_ 22 (d := d_l_formed) rfl
  obtain ⟨fd_l_broken, F_l_broken⟩ := cD.def_ 23 (d := d_l_broken) rfl
  obtain ⟨fd_l_right, F_l_right⟩ := cD.def_ 24 (d := d_l_right) rfl
  obtain ⟨fd_l_is_kind, F_l_is_kind⟩ := cD.def_ 25 (d := d_l_is_kind) rfl
  obtain ⟨fd_l_kind_made, F_l_kind_made⟩ := cD.def_ 26 (d := d_l_kind_made) rfl
  obtain ⟨fd_l_kept, F_l_kept⟩ := cD.def_ 27 (d := d_l_kept) rfl
  obtain ⟨fd_l_edged, F_l_edged⟩ := cD.def_ 28 (d := d_l_edged) rfl
  obtain ⟨fd_l_bent, F_l_bent⟩ := cD.def_ 29 (d := d_l_bent) rfl
  obtain ⟨fd_l_odd, F_l_odd⟩ := cD.def_ 30 (d := d_l_odd) rfl
  obtain ⟨fd_l_short, F_l_short⟩ := cD.def_ 31 (d := d_l_short) rfl
  obtain ⟨fd_law, F_law⟩ := cD.def_ 32 (d := d_law) rfl
  have g_is_number := He.glo_ok X G (cD.fact 0 (f := .glo "is_number") rfl)
  have g_divides := He.glo_ok X G (cD.fact 1 (f := .glo "divides") rfl)
  have g_has_balance := He.glo_ok X G (cD.fact 2 (f := .glo "has_balance") rfl)
  have g_some_odd_rim := He.glo_ok X G (cD.fact 3 (f := .glo "some_odd_rim") rfl)
  have g_rims_stand := He.glo_ok X G (cD.fact 4 (f := .glo "rims_stand") rfl)
  have g_due_sum := He.glo_ok X G (cD.fact 5 (f := .glo "due_sum") rfl)
  have g_sum_stands := He.glo_ok X G (cD.fact 6 (f := .glo "sum_stands") rfl)
  have g_measure_stands := He.glo_ok X G (cD.fact 7 (f := .glo "measure_stands") rfl)
  have g_share_stands := He.glo_ok X G (cD.fact 8 (f := .glo "share_stands") rfl)
  have g_balance_stands := He.glo_ok X G (cD.fact 9 (f := .glo "balance_stands") rfl)
  have g_broken_count := He.glo_ok X G (cD.fact 10 (f := .glo "broken_count") rfl)
  have g_ill_formed := He.glo_ok X G (cD.fact 11 (f := .glo "ill_formed") rfl)
  have g_l_bag := He.glo_ok X G (cD.fact 12 (f := .glo "_law_bag") rfl)
  have g_l_draw := He.glo_ok X G (cD.fact 13 (f := .glo "_law_draw") rfl)
  have g_l_of := He.glo_ok X G (cD.fact 14 (f := .glo "_law_of") rfl)
  have g_l_like := He.glo_ok X G (cD.fact 15 (f := .glo "_law_like") rfl)
  have g_l_red := He.glo_ok X G (cD.fact 16 (f := .glo "_law_red") rfl)
  have g_l_divisor := He.glo_ok X G (cD.fact 17 (f := .glo "_law_divisor") rfl)
  have g_l_divisors := He.glo_ok X G (cD.fact 18 (f := .glo "_law_divisors") rfl)
  have g_l_arms := He.glo_ok X G (cD.fact 19 (f := .glo "_law_arms") rfl)
  have g_l_formed := He.glo_ok X G (cD.fact 20 (f := .glo "_law_formed") rfl)
  have g_l_broken := He.glo_ok X G (cD.fact 21 (f := .glo "_law_broken") rfl)
  have g_l_right := He.glo_ok X G (cD.fact 22 (f := .glo "_law_right") rfl)
  have g_l_is_kind := He.glo_ok X G (cD.fact 23 (f := .glo "_law_is_kind") rfl)
  have g_l_kind_made := He.glo_ok X G (cD.fact 24 (f := .glo "_law_kind_made") rfl)
  have g_l_kept := He.glo_ok X G (cD.fact 25 (f := .glo "_law_kept") rfl)
  have g_l_edged := He.glo_ok X G (cD.fact 26 (f := .glo "_law_edged") rfl)
  have g_l_bent := He.glo_ok X G (cD.fact 27 (f := .glo "_law_bent") rfl)
  have g_l_odd := He.glo_ok X G (cD.fact 28 (f := .glo "_law_odd") rfl)
  have g_l_short := He.glo_ok X G (cD.fact 29 (f := .glo "_law_short") rfl)
  have g_law := He.glo_ok X G (cD.fact 30 (f := .glo "law") rfl)
  have g_Book := He.glo_ok X G (cD.fact 31 (f := .glo "Book") rfl)
  have g_Kind := He.glo_ok X G (cD.fact 32 (f := .glo "Kind") rfl)
  have g_CombedError := He.glo_ok X G (cD.fact 33 (f := .glo "CombedError") rfl)
  have E_BadKind : Er2 P K mg "BadKind" (He.ga K "BadKind") "line" "why" := ErD.er2 (d := er_BadKind) X G hP (c.ok 0) (c.wv 0) rfl PySem.F.excBase_ValueError PySem.F.store_ValueError PySem.W.kxs_ValueError su_BadKind
  have E_NotOne : Er1 P K mg "NotOne" (He.ga K "NotOne") "count" := ErD.er1 (d := er_NotOne) X G hP (c.ok 1) (c.wv 1) rfl PySem.F.excBase_ValueError PySem.F.store_ValueError PySem.W.kxs_ValueError su_NotOne
  have kf : KFacts K mg := ⟨g_CombedError, of_decide_eq_true (xl_get (l := xl K) c.xok 0 rfl), of_decide_eq_true (xl_get (l := xl K) c.xok 1 rfl), of_decide_eq_true (xl_get (l := xl K) c.xok 2 rfl), of_decide_eq_true (xl_get (l := xl K) c.xok 3 rfl), of_decide_eq_true (xl_get (l := xl K) c.xok 4 rfl), of_decide_eq_true (xl_get (l := xl K) c.xok 5 rfl), of_decide_eq_true (xl_get (l := xl K) c.xok 6 rfl)⟩
  have B : Bi K mg := ⟨He.free_ok X G (cD.fact 34 (f := .free "len") rfl), He.free_ok X G (cD.fact 35 (f := .free "int") rfl), He.free_ok X G (cD.fact 36 (f := .free "list") rfl), He.free_ok X G (cD.fact 37 (f := .free "range") rfl), He.free_ok X G (cD.fact 38 (f := .free "abs") rfl), He.free_ok X G (cD.fact 39 (f := .free "isinstance") rfl), He.free_ok X G (cD.fact 40 (f := .free "bool") rfl), He.free_ok X G (cD.fact 41 (f := .free "str") rfl), He.free_ok X G (cD.fact 42 (f := .free "dict") rfl), He.free_ok X G (cD.fact 43 (f := .free "tuple") rfl), He.free_ok X G (cD.fact 44 (f := .free "all") rfl), He.free_ok X G (cD.fact 45 (f := .free "any") rfl), He.free_ok X G (cD.fact 46 (f := .free "sum") rfl), He.free_ok X G (cD.fact 47 (f := .free "sorted") rfl), (let ⟨t, e⟩ := He.int_ok X G (cD.fact 48 (f := .int "MOST_ARMS" 12) rfl); ⟨_, e, t, rfl⟩), (let ⟨t, e⟩ := He.int_ok X G (cD.fact 49 (f := .int "MOST_MODULUS" 24) rfl); ⟨_, e, t, rfl⟩), He.cls_ok (cD.fact 50 (f := .cls "Book") rfl), He.noat_ok (cD.fact 51 (f := .noat "Book" "arms") rfl), He.noat_ok (cD.fact 52 (f := .noat "Book" "modulus") rfl), He.cls_ok (cD.fact 53 (f := .cls "Kind") rfl), He.noat_ok (cD.fact 54 (f := .noat "Kind" "book") rfl), He.noat_ok (cD.fact 55 (f := .noat "Kind" "handles") rfl), He.noat_ok (cD.fact 56 (f := .noat "Kind" "rims") rfl), He.noat_ok (cD.fact 57 (f := .noat "Kind" "measure") rfl), He.noat_ok (cD.fact 58 (f := .noat "Kind" "share") rfl), He.noat_ok (cD.fact 59 (f := .noat "Kind" "balance") rfl)⟩
  have e := hfa.symm.trans g_law
  cases e
  have b := FunD.bindsA (ps := ["script"]) F_law fun _ _ _ _ _ _ us hl => match us, hl with | [_], _ => rfl
  refine ⟨fd_law, fun s v => b s [v] rfl, fun base _ _ => ?_⟩
  have o_is_number : FnOk P w K mg base CX0 1 (He.fAd K ("is_number", none)) fd_is_number ["value"] (spIsNum) := by apply ok_isnum <;> assumption
  have c_is_number : C8.Cal P w K mg base 1 "is_number" (spIsNum) [] := ⟨_, _, _, _, o_is_number, g_is_number, F_is_number.kp, F_is_number.bindsN fun _ _ _ _ _ _ us hl => match us, hl with | [_], _ => rfl, .nil⟩
  have o_Book_init : FnOk P w K mg base CX0 2 (He.fAd K ("Book", some "__init__")) fd_Book_init ["self", "arms", "modulus"] (spBook K) := by apply ok_book <;> assumption
  obtain ⟨ds_Book_init2, v_Book_init2, b_Book_init2⟩ : ∃ ds, Vals ((d_Book_init.dvs K).drop 1) ds ∧ Binds K fd_Book_init ["self", "arms", "modulus"] ds := F_Book_init.binds1 3 1 (by intro z; cases z) (by rfl) fun T kV doc pm an cdv ct us its l1 l2 => match us, its, l1, l2 with | [_, _, _], [_], _, _ => ⟨_, rfl, rfl⟩
  have mk_Book_2 : C8.Mak P w K mg base 2 "Book" (He.ga K "Book") (spBook K) [] := ⟨_, _, _, _, He.mkr_ok (cD.fact 60 (f := .mkr "Book") rfl), o_Book_init, g_Book, b_Book_init2, v_Book_init2⟩
  have o_divides : FnOk P w K mg base CX0 1 (He.fAd K ("divides", none)) fd_divides ["part", "whole"] (spDivides) := by apply ok_divides <;> assumption
  have c_divides : C8.Cal P w K mg base 1 "divides" (spDivides) [] := ⟨_, _, _, _, o_divides, g_divides, F_divides.kp, F_divides.bindsN fun _ _ _ _ _ _ us hl => match us, hl with | [_, _], _ => rfl, .nil⟩
  have o_has_balance : FnOk P w K mg base CX0 1 (He.fAd K ("has_balance", none)) fd_has_balance ["book", "share"] (spHasBal K) := by apply ok_hasbal <;> assumption
  have c_has_balance : C8.Cal P w K mg base 1 "has_balance" (spHasBal K) [] := ⟨_, _, _, _, o_has_balance, g_has_balance, F_has_balance.kp, F_has_balance.bindsN fun _ _ _ _ _ _ us hl => match us, hl with | [_, _], _ => rfl, .nil⟩
  have o_some_odd_rim : FnOk P w K mg base CX0 1 (He.fAd K ("some_odd_rim", none)) fd_some_odd_rim ["book", "rims", "share"] (spOddRim K) := by apply ok_oddrim <;> assumption
  have c_some_odd_rim : C8.Cal P w K mg base 1 "some_odd_rim" (spOddRim K) [] := ⟨_, _, _, _, o_some_odd_rim, g_some_odd_rim, F_some_odd_rim.kp, F_some_odd_rim.bindsN fun _ _ _ _ _ _ us hl => match us, hl with | [_, _, _], _ => rfl, .nil⟩
  have o_rims_stand : FnOk P w K mg base CX0 1 (He.fAd K ("rims_stand", none)) fd_rims_stand ["book", "rims"] (spRimsOk K) := by apply ok_rimsok <;> assumption
  have c_rims_stand : C8.Cal P w K mg base 1 "rims_stand" (spRimsOk K) [] := ⟨_, _, _, _, o_rims_stand, g_rims_stand, F_rims_stand.kp, F_rims_stand.bindsN fun _ _ _ _ _ _ us hl => match us, hl with | [_, _], _ => rfl, .nil⟩
  have o_due_sum : FnOk P w K mg base CX0 1 (He.fAd K ("due_sum", none)) fd_due_sum ["book", "handles", "many"] (spDueSum K) := by apply ok_duesum <;> assumption
  have c_due_sum : C8.Cal P w K mg base 1 "due_sum" (spDueSum K) [] := ⟨_, _, _, _, o_due_sum, g_due_sum, F_due_sum.kp, F_due_sum.bindsN fun _ _ _ _ _ _ us hl => match us, hl with | [_, _, _], _ => rfl, .nil⟩
  have o_sum_stands : FnOk P w K mg base CX0 2 (He.fAd K ("sum_stands", none)) fd_sum_stands ["book", "handles", "rims"] (spSumOk K) := by apply ok_sumok <;> assumption
  have c_sum_stands : C8.Cal P w K mg base 2 "sum_stands" (spSumOk K) [] := ⟨_, _, _, _, o_sum_stands, g_sum_stands, F_sum_stands.kp, F_sum_stands.bindsN fun _ _ _ _ _ _ us hl => match us, hl with | [_, _, _], _ => rfl, .nil⟩
  have o_measure_stands : FnOk P w K mg base CX0 2 (He.fAd K ("measure_stands", none)) fd_measure_stands ["book", "rims", "measure"] (spMeasOk K) := by apply ok_measok <;> assumption
  have c_measure_stands : C8.Cal P w K mg base 2 "measure_stands" (spMeasOk K) [] := ⟨_, _, _, _, o_measure_stands, g_measure_stands, F_measure_stands.kp, F_measure_stands.bindsN fun _ _ _ _ _ _ us hl => match us, hl with | [_, _, _], _ => rfl, .nil⟩
  have o_share_stands : FnOk P w K mg base CX0 1 (He.fAd K ("share_stands", none)) fd_share_stands ["book", "rims", "share"] (spShareOk K) := by apply ok_shareok <;> assumption
  have c_share_stands : C8.Cal P w K mg base 1 "share_stands" (spShareOk K) [] := ⟨_, _, _, _, o_share_stands, g_share_stands, F_share_stands.kp, F_share_stands.bindsN fun _ _ _ _ _ _ us hl => match us, hl with | [_, _, _], _ => rfl, .nil⟩
  have o_balance_stands : FnOk P w K mg base CX0 2 (He.fAd K ("balance_stands", none)) fd_balance_stands ["book", "rims", "share", "balance"] (spBalOk K) := by apply ok_balok <;> assumption
  have c_balance_stands : C8.Cal P w K mg base 2 "balance_stands" (spBalOk K) [] := ⟨_, _, _, _, o_balance_stands, g_balance_stands, F_balance_stands.kp, F_balance_stands.bindsN fun _ _ _ _ _ _ us hl => match us, hl with | [_, _, _, _], _ => rfl, .nil⟩
  have o_broken_count : FnOk P w K mg base CX0 3 (He.fAd K ("broken_count", none)) fd_broken_count ["book", "handles", "rims", "measure", "share", "balance"] (spBroken K) := by apply ok_broken <;> assumption
  have c_broken_count : C8.Cal P w K mg base 3 "broken_count" (spBroken K) [] := ⟨_, _, _, _, o_broken_count, g_broken_count, F_broken_count.kp, F_broken_count.bindsN fun _ _ _ _ _ _ us hl => match us, hl with | [_, _, _, _, _, _], _ => rfl, .nil⟩
  have o_ill_formed : FnOk P w K mg base CX0 1 (He.fAd K ("ill_formed", none)) fd_ill_formed ["handles", "measure", "share", "balance"] (spIll) := by apply ok_ill <;> assumption
  have c_ill_formed : C8.Cal P w K mg base 1 "ill_formed" (spIll) [] := ⟨_, _, _, _, o_ill_formed, g_ill_formed, F_ill_formed.kp, F_ill_formed.bindsN fun _ _ _ _ _ _ us hl => match us, hl with | [_, _, _, _], _ => rfl, .nil⟩
  have o_Kind_init : FnOk P w K mg base (L2N.CX P w) 4 (He.fAd K ("Kind", some "__init__")) fd_Kind_init ["self", "book", "handles", "rims", "measure", "share", "balance"] (spKind K) := by apply ok_kind <;> assumption
  have FK : FnK K (He.fAd K ("Kind", some "__init__")) fd_Kind_init := F_Kind_init
  have M_Kind : Mk K (He.ga K "Kind") (He.fAd K ("Kind", some "__init__")) := He.mkr_ok (cD.fact 61 (f := .mkr "Kind") rfl)
  have F_KindC : FnOk P w K mg base CX0 4 (He.fAd K ("Kind", some "__init__")) fd_Kind_init psK (spKindC K) := fnok_calm o_Kind_init
  have iK : C8.InsC K (He.ga K "Kind") := ⟨B.cls_Kind, of_decide_eq_true (xl_get (l := xl K) c.xok 7 rfl), of_decide_eq_true (xl_get (l := xl K) c.xok 8 rfl), of_decide_eq_true (xl_get (l := xl K) c.xok 9 rfl), of_decide_eq_true (xl_get (l := xl K) c.xok 10 rfl), of_decide_eq_true (xl_get (l := xl K) c.xok 11 rfl)⟩
  have iB : C8.InsC K (He.ga K "Book") := ⟨B.cls_Book, of_decide_eq_true (xl_get (l := xl K) c.xok 12 rfl), of_decide_eq_true (xl_get (l := xl K) c.xok 13 rfl), of_decide_eq_true (xl_get (l := xl K) c.xok 14 rfl), of_decide_eq_true (xl_get (l := xl K) c.xok 15 rfl), of_decide_eq_true (xl_get (l := xl K) c.xok 16 rfl)⟩
  have o_l_bag : FnOk P w K mg base CX0 1 (He.fAd K ("_law_bag", none)) fd_l_bag ["script"] (spBag K) := by apply ok_bag <;> assumption
  have c_l_bag : C8.Cal P w K mg base 1 "_law_bag" (spBag K) [] := ⟨_, _, _, _, o_l_bag, g_l_bag, F_l_bag.kp, F_l_bag.bindsN fun _ _ _ _ _ _ us hl => match us, hl with | [_], _ => rfl, .nil⟩
  have o_l_draw : FnOk P w K mg base CX0 1 (He.fAd K ("_law_draw", none)) fd_l_draw ["bag", "many"] (spDraw) := by apply ok_draw <;> assumption
  have c_l_draw : C8.Cal P w K mg base 1 "_law_draw" (spDraw) [] := ⟨_, _, _, _, o_l_draw, g_l_draw, F_l_draw.kp, F_l_draw.bindsN fun _ _ _ _ _ _ us hl => match us, hl with | [_, _], _ => rfl, .nil⟩
  have o_l_of : FnOk P w K mg base CX0 2 (He.fAd K ("_law_of", none)) fd_l_of ["bag", "things"] (spOf) := by apply ok_of <;> assumption
  have c_l_of : C8.Cal P w K mg base 2 "_law_of" (spOf) [] := ⟨_, _, _, _, o_l_of, g_l_of, F_l_of.kp, F_l_of.bindsN fun _ _ _ _ _ _ us hl => match us, hl with | [_, _], _ => rfl, .nil⟩
  have o_l_like : FnOk P w K mg base CX0 1 (He.fAd K ("_law_like", none)) fd_l_like ["told", "due"] (spLikeO) := by apply ok_likeO <;> assumption
  have c_l_like : C8.Cal P w K mg base 1 "_law_like" (spLikeO) [] := ⟨_, _, _, _, o_l_like, g_l_like, F_l_like.kp, F_l_like.bindsN fun _ _ _ _ _ _ us hl => match us, hl with | [_, _], _ => rfl, .nil⟩
  have oT_l_like : FnOk P w K mg base CX0 2 (He.fAd K ("_law_like", none)) fd_l_like ["told", "due"] (spSqT spLikeO) := by apply ok_likeSqT <;> assumption
  have cU_l_like : C8.Cal P w K mg base 2 "_law_like" (spOr (spSqT spLikeO) spLikeO) [] := ⟨_, _, _, _, fnok_or oT_l_like (o_l_like.mono (by decide)), g_l_like, F_l_like.kp, F_l_like.bindsN fun _ _ _ _ _ _ us hl => match us, hl with | [_, _], _ => rfl, .nil⟩
  have oL_l_like : FnOk P w K mg base CX0 3 (He.fAd K ("_law_like", none)) fd_l_like ["told", "due"] (spSqL (spOr (spSqT spLikeO) spLikeO)) := by apply ok_likeSqL <;> assumption
  have cL_l_like : C8.Cal P w K mg base 3 "_law_like" (spSqL (spOr (spSqT spLikeO) spLikeO)) [] := ⟨_, _, _, _, oL_l_like, g_l_like, F_l_like.kp, F_l_like.bindsN fun _ _ _ _ _ _ us hl => match us, hl with | [_, _], _ => rfl, .nil⟩
  have oI_l_like : L2H.FnH P w K mg base CX0 1 (He.fAd K ("_law_like", none)) fd_l_like ["told", "due"] spLikeI := by apply ok_likeHi <;> assumption
  have hI_l_like : CalH P w K mg base 1 "_law_like" ["told", "due"] spLikeI := ⟨_, _, oI_l_like, g_l_like, F_l_like.kp, F_l_like.bindsN fun _ _ _ _ _ _ us hl => match us, hl with | [_, _], _ => rfl⟩
  have oS_l_like : L2H.FnH P w K mg base CX0 1 (He.fAd K ("_law_like", none)) fd_l_like ["told", "due"] spLikeS := by apply ok_likeH <;> assumption
  have hS_l_like : CalH P w K mg base 1 "_law_like" ["told", "due"] spLikeS := ⟨_, _, oS_l_like, g_l_like, F_l_like.kp, F_l_like.bindsN fun _ _ _ _ _ _ us hl => match us, hl with | [_, _], _ => rfl⟩
  have o_l_red : FnOk P w K mg base CX0 1 (He.fAd K ("_law_red", none)) fd_l_red ["mod", "num"] (spRed) := by apply ok_red <;> assumption
  have c_l_red : C8.Cal P w K mg base 1 "_law_red" (spRed) [] := ⟨_, _, _, _, o_l_red, g_l_red, F_l_red.kp, F_l_red.bindsN fun _ _ _ _ _ _ us hl => match us, hl with | [_, _], _ => rfl, .nil⟩
  have o_l_divisor : FnOk P w K mg base CX0 1 (He.fAd K ("_law_divisor", none)) fd_l_divisor ["nums"] (spLDiv K) := by apply ok_ldiv <;> assumption
  have c_l_divisor : C8.Cal P w K mg base 1 "_law_divisor" (spLDiv K) [] := ⟨_, _, _, _, o_l_divisor, g_l_divisor, F_l_divisor.kp, F_l_divisor.bindsN fun _ _ _ _ _ _ us hl => match us, hl with | [_], _ => rfl, .nil⟩
  have o_l_divisors : FnOk P w K mg base CX0 1 (He.fAd K ("_law_divisors", none)) fd_l_divisors ["num"] (spDivsD) := by apply ok_divsD <;> assumption
  have c_l_divisors : C8.Cal P w K mg base 1 "_law_divisors" (spDivsD) [] := ⟨_, _, _, _, o_l_divisors, g_l_divisors, F_l_divisors.kp, F_l_divisors.bindsN fun _ _ _ _ _ _ us hl => match us, hl with | [_], _ => rfl, .nil⟩
  have o_l_arms : FnOk P w K mg base CX0 2 (He.fAd K ("_law_arms", none)) fd_l_arms ["bag"] (spArms) := by apply ok_arms <;> assumption
  have c_l_arms : C8.Cal P w K mg base 2 "_law_arms" (spArms) [] := ⟨_, _, _, _, o_l_arms, g_l_arms, F_l_arms.kp, F_l_arms.bindsN fun _ _ _ _ _ _ us hl => match us, hl with | [_], _ => rfl, .nil⟩
  have o_l_formed : FnOk P w K mg base CX0 1 (He.fAd K ("_law_formed", none)) fd_l_formed ["counts"] (spFormed) := by apply ok_formed <;> assumption
  have c_l_formed : C8.Cal P w K mg base 1 "_law_formed" (spFormed) [] := ⟨_, _, _, _, o_l_formed, g_l_formed, F_l_formed.kp, F_l_formed.bindsN fun _ _ _ _ _ _ us hl => match us, hl with | [_], _ => rfl, .nil⟩
  have o_l_broken : FnOk P w K mg base CX0 2 (He.fAd K ("_law_broken", none)) fd_l_broken ["arm", "mod", "counts"] (spLBroken) := by apply ok_lbroken <;> assumption
  have c_l_broken : C8.Cal P w K mg base 2 "_law_broken" (spLBroken) [] := ⟨_, _, _, _, o_l_broken, g_l_broken, F_l_broken.kp, F_l_broken.bindsN fun _ _ _ _ _ _ us hl => match us, hl with | [_, _, _], _ => rfl, .nil⟩
  have o_l_right : FnOk P w K mg base CX0 3 (He.fAd K ("_law_right", none)) fd_l_right ["bag", "arm", "mod", "hands", "many"] (spRight) := by apply ok_right <;> assumption
  have c_l_right : C8.Cal P w K mg base 3 "_law_right" (spRight) [] := ⟨_, _, _, _, o_l_right, g_l_right, F_l_right.kp, F_l_right.bindsN fun _ _ _ _ _ _ us hl => match us, hl with | [_, _, _, _, _], _ => rfl, .nil⟩
  have o_l_is_kind : FnOk P w K mg base CX0 4 (He.fAd K ("_law_is_kind", none)) fd_l_is_kind ["told", "arm", "mod", "counts"] (spIsKind K) := by apply ok_iskind <;> assumption
  have c_l_is_kind : C8.Cal P w K mg base 4 "_law_is_kind" (spIsKind K) [] := ⟨_, _, _, _, o_l_is_kind, g_l_is_kind, F_l_is_kind.kp, F_l_is_kind.bindsN fun _ _ _ _ _ _ us hl => match us, hl with | [_, _, _, _], _ => rfl, .nil⟩
  have o_l_kind_made : FnOk P w K mg base CX0 6 (He.fAd K ("_law_kind_made", none)) fd_l_kind_made ["arm", "mod", "counts"] (spKMade K) := by apply ok_kmade <;> assumption
  have c_l_kind_made : C8.Cal P w K mg base 6 "_law_kind_made" (spKMade K) [] := ⟨_, _, _, _, o_l_kind_made, g_l_kind_made, F_l_kind_made.kp, F_l_kind_made.bindsN fun _ _ _ _ _ _ us hl => match us, hl with | [_, _, _], _ => rfl, .nil⟩
  have o_l_kept : FnOk P w K mg base CX0 6 (He.fAd K ("_law_kept", none)) fd_l_kept ["arm", "mod", "counts"] (spKept K) := by apply ok_kept <;> assumption
  have c_l_kept : C8.Cal P w K mg base 6 "_law_kept" (spKept K) [] := ⟨_, _, _, _, o_l_kept, g_l_kept, F_l_kept.kp, F_l_kept.bindsN fun _ _ _ _ _ _ us hl => match us, hl with | [_, _, _], _ => rfl, .nil⟩
  have o_l_edged : FnOk P w K mg base CX0 3 (He.fAd K ("_law_edged", none)) fd_l_edged ["bag", "mod", "counts"] (spEdged) := by apply ok_edged <;> assumption
  have c_l_edged : C8.Cal P w K mg base 3 "_law_edged" (spEdged) [] := ⟨_, _, _, _, o_l_edged, g_l_edged, F_l_edged.kp, F_l_edged.bindsN fun _ _ _ _ _ _ us hl => match us, hl with | [_, _, _], _ => rfl, .nil⟩
  have o_l_bent : FnOk P w K mg base CX0 4 (He.fAd K ("_law_bent", none)) fd_l_bent ["bag", "arm", "mod", "counts"] (spBent) := by apply ok_bent <;> assumption
  have c_l_bent : C8.Cal P w K mg base 4 "_law_bent" (spBent) [] := ⟨_, _, _, _, o_l_bent, g_l_bent, F_l_bent.kp, F_l_bent.bindsN fun _ _ _ _ _ _ us hl => match us, hl with | [_, _, _, _], _ => rfl, .nil⟩
  have o_l_odd : FnOk P w K mg base CX0 3 (He.fAd K ("_law_odd", none)) fd_l_odd ["bag", "counts"] (spOdd) := by apply ok_odd <;> assumption
  have c_l_odd : C8.Cal P w K mg base 3 "_law_odd" (spOdd) [] := ⟨_, _, _, _, o_l_odd, g_l_odd, F_l_odd.kp, F_l_odd.bindsN fun _ _ _ _ _ _ us hl => match us, hl with | [_, _], _ => rfl, .nil⟩
  have o_l_short : FnOk P w K mg base CX0 6 (He.fAd K ("_law_short", none)) fd_l_short ["arm", "mod", "counts"] (spShort K) := by apply ok_short <;> assumption
  have c_l_short : C8.Cal P w K mg base 6 "_law_short" (spShort K) [] := ⟨_, _, _, _, o_l_short, g_l_short, F_l_short.kp, F_l_short.bindsN fun _ _ _ _ _ _ us hl => match us, hl with | [_, _, _], _ => rfl, .nil⟩
  have o_law : FnOk P w K mg base CX0 7 (He.fAd K ("law", none)) fd_law ["script"] (spLaw K) := by apply ok_law <;> assumption
  exact o_law
end Cb
open PySem PySem.W PySem.Calls PyProof.Rows
theorem PySem.Challenge.cw_combed_k29_whole_conditions_broken_holds : PySem.Challenge.rw_combed_k29_whole_conditions_broken.Holds := by
  w_on; o_law
  refine HandSHeadRun.head_any (r := OpenLaw.row PySem.Challenge.rw_combed_k29_whole_conditions_broken) (q := view (OpenLaw.row PySem.Challenge.rw_combed_k29_whole_conditions_broken).prog [61]) (H := Cb.hk) (ob := Cb.ob) (M := 5000) (loose := Cb.names) (d := HandSHeadRun.topDef (OpenLaw.row PySem.Challenge.rw_combed_k29_whole_conditions_broken).prog 61) (kwd := []) Cb.ob_eq
    (by kernel_rfl) (fun s => by kernel_rfl) Cb.run (by kernel_rfl) (by kernel_rfl) (by kernel_rfl) (by rfl) (by first | assumption | decide +kernel) (by decide +kernel) ⟨rfl, rfl, rfl, rfl, rfl, by decide +kernel⟩ ?hw ?hc
  case hw => w_witness2
  case hc =>
    refine L2.walk_ofE (l := PySem.Challenge.rw_combed_k29_whole_conditions_broken) (n := 63) (k := 7) (x := "script") (CX := L2.CX0) rfl (by decide) (by kernel_rfl) ⟨rfl, by decide, by decide⟩ ?F (fun _ _ _ _ z => z)
    intro w mg fa h Y G hmg0
    obtain ⟨K, KX, c⟩ := Y
    have hmg : mg ("law" : PySem.Str) = some (.ref fa) := by
      have e : (HandSHeadRun.topDef (OpenLaw.row PySem.Challenge.rw_combed_k29_whole_conditions_broken).prog 61).name = ("law" : PySem.Str) := by kernel_rfl
      rw [← e]
      exact hmg0
    obtain ⟨fd, hb, hF⟩ := Cb.facts (P := (PySem.Challenge.rw_combed_k29_whole_conditions_broken).prog) (w := w) KX G hmg ⟨by kernel_rfl, by kernel_rfl⟩ c
    exact ⟨K, fd, Cb.spLaw K, KX, hb, fun H a ns hl _ hS => ⟨a, ns, rfl, hS, hl, fun _ => rfl⟩, hF⟩
#print axioms PySem.Challenge.cw_combed_k29_whole_conditions_broken_holds
