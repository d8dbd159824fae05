import PyProof.Rows.All
import Wide.All
import OpenK.AllK
import Wide.FinOn
import KE.KStateDown
import KE.GoesMore
import PyProof.SeqIndex
import KE.KDictList
import KE.KRevSl
import HandS.ForMost
import HandS.Wide
import HandS.IsInst
import HandS.Codes
import HandS.Defaults
import HandS.Conv
import HandS.More
import HandS.WordsExc
import HandS.DictComp
import HandS.NoneIn
import HandS.Star
import HandS.Gcd
import HandS.Text
import HandS.ListItems
import HandS.Walk
import HandS.Head0
import HandS.Head1
import HandS.Head2
import HandS.Head3
import HandS.WideBits
import HandS.Style
import KE.KSuper
import KE.KExcSuper
import KE.KExcInit
import HandS.ExcSuper
import HandS.ExcField
import HandS.ExcIs
import HandS.TryOnly
import HandS.HotCalls
import HandS.SlotsOwn
import HandS.MakeKwOnly
import HandS.SortInts
import KE.KExcIs
import HandS.HeadEnd
import HandS.HeadHook1
import HandS.HeadHook2
import PySem.Challenge.RW_combed_k30_whole_exactly_some_sheets_cou
set_option Elab.async false
set_option linter.all false
set_option maxRecDepth 100000
set_option maxHeartbeats 4000000
namespace Cb
open PySem PySem.Spec PyProof.Rows L2

/-! ### steps of a reading, by the head of its term -/
section
variable {σ : L2.St} {H : Hp} {Q : VK} {D : Ends} {te ta tb tc : TE} {t u : TS} {tt : TT} {v : V} {i j : Int} {K : PySem.W.Frag}
theorem x_seq (h : t { D with nx := u D } σ H) : tSeq t u D σ H := h
theorem x_next (h : D.nx σ H) : tNext D σ H := h
theorem x_brk (h : D.bk σ H) : tBreak D σ H := h
theorem x_cont (h : D.ct σ H) : tCont D σ H := h
theorem x_asg {g : TG} (h : te σ H fun x H1 => g x σ H1 D.nx) : tAsg te g D σ H := h
theorem x_gname {k : Nat} {R : L2.St → Hp → Prop} (h : R (σ.set k (some v)) H) : gName k v σ H R := h
theorem x_drop (h : te σ H fun _ H1 => D.nx σ H1) : tDrop te D σ H := h
theorem x_ret (h : te σ H D.rt) : tRet te D σ H := h
theorem x_retN (h : D.rt .non H) : tRetN D σ H := h
theorem x_ifs {c : TT} (h : c σ H fun b H1 => if b = true then t D σ H1 else u D σ H1) : tIfS c t u D σ H := h
theorem x_par {k l : Nat} {ta : TA} (h : ta σ H fun vs H1 => ∃ v w, vs = [v, w] ∧ D.nx ((σ.set k (some v)).set l (some w)) H1) : tPar k l ta D σ H := h
theorem x_par2 {k l : Nat} {v w : V} (h : D.nx ((σ.set k (some v)).set l (some w)) H) : ∃ v' w', [v, w] = [v', w'] ∧ D.nx ((σ.set k (some v')).set l (some w')) H := ⟨v, w, rfl, h⟩
theorem x_aug {k : Nat} {ti : TIp} {x : V} (e : σ[k]? = some (some x)) (h : te σ H fun y H1 => ti x y H1 fun z H2 => D.nx (σ.set k (some z)) H2) : tAug k te ti D σ H := ⟨x, e, h⟩
theorem x_var {k : Nat} (e : σ[k]? = some (some v)) (h : Q v H) : tVar k σ H Q := ⟨v, e, h⟩
theorem x_c (h : Q v H) : tC v σ H Q := h
theorem x_op {r : R2} (h : ta σ H fun x H1 => tb σ H1 fun y H2 => r x y H2 Q) : tOp r ta tb σ H Q := h
theorem x_un {r : V → Hp → VK → Prop} (h : ta σ H fun x H1 => r x H1 Q) : tUn r ta σ H Q := h
theorem x_rI0 {g : Int → Int → V} (h : Q (g i j) H) : rI0 g (.int i) (.int j) H Q := ⟨i, j, rfl, rfl, h⟩
theorem x_rI {C : Int → Int → Prop} {g : Int → Int → V} (c : C i j) (h : Q (g i j) H) : rI C g (.int i) (.int j) H Q := ⟨i, j, rfl, rfl, c, h⟩
theorem x_rU {g : Int → V} (h : Q (g i) H) : rU g (.int i) H Q := ⟨i, rfl, h⟩
theorem x_ipI {f : Int → Int → Int} (h : Q (.int (f i j)) H) : ipI f (.int i) (.int j) H Q := ⟨i, j, rfl, rfl, h⟩
theorem dec_int {i j : Int} : decide (V.int i = V.int j) = decide (i = j) := by
  by_cases e : i = j
  · subst e; simp
  · rw [decide_eq_false e, decide_eq_false (fun q => e (V.int.inj q))]
theorem dec_str {i j : Str} : decide (V.str i = V.str j) = decide (i = j) := by
  by_cases e : i = j
  · subst e; simp
  · rw [decide_eq_false e, decide_eq_false (fun q => e (V.str.inj q))]
theorem dec_bl {i j : Bool} : decide (V.bl i = V.bl j) = decide (i = j) := by
  by_cases e : i = j
  · subst e; simp
  · rw [decide_eq_false e, decide_eq_false (fun q => e (V.bl.inj q))]
theorem x_eqI (h : Q (.bl (decide (i = j))) H) : rEq (.int i) (.int j) H Q := ⟨rfl, by rw [dec_int]; exact h⟩
theorem x_neI (h : Q (.bl (!decide (i = j))) H) : rNe (.int i) (.int j) H Q := ⟨rfl, by rw [dec_int]; exact h⟩
theorem x_eqS {i j : Str} (h : Q (.bl (decide (i = j))) H) : rEq (.str i) (.str j) H Q := ⟨rfl, by rw [dec_str]; exact h⟩
theorem x_neS {i j : Str} (h : Q (.bl (!decide (i = j))) H) : rNe (.str i) (.str j) H Q := ⟨rfl, by rw [dec_str]; exact h⟩
theorem x_eqB {i j : Bool} (h : Q (.bl (decide (i = j))) H) : rEq (.bl i) (.bl j) H Q := ⟨rfl, by rw [dec_bl]; exact h⟩
theorem x_neB {i j : Bool} (h : Q (.bl (!decide (i = j))) H) : rNe (.bl i) (.bl j) H Q := ⟨rfl, by rw [dec_bl]; exact h⟩
theorem x_test {R : Bool → Hp → Prop} (h : te σ H fun x H' => ∃ k, x = .bl k ∧ R k H') : tTest te σ H R := h
theorem x_tB {R : Bool → Hp → Prop} (h : te σ H fun x H' => ∃ k, x = .bl k ∧ R k H') : tB te σ H R := h
theorem x_bl {b : Bool} {R : Bool → Prop} (h : R b) : ∃ k, V.bl b = .bl k ∧ R k := ⟨b, rfl, h⟩
theorem x_and {s t : TT} {R : Bool → Hp → Prop} (h : s σ H fun c H1 => if c = true then t σ H1 R else R false H1) : tAnd s t σ H R := h
theorem x_or {s t : TT} {R : Bool → Hp → Prop} (h : s σ H fun c H1 => if c = true then R true H1 else t σ H1 R) : tOr s t σ H R := h
theorem x_not {s : TT} {R : Bool → Hp → Prop} (h : s σ H fun c H1 => R (!c) H1) : tNot s σ H R := h
theorem x_andV (h : ta σ H fun x H1 => ∃ c, x = .bl c ∧ if c = true then tb σ H1 Q else Q (.bl false) H1) : tAndV ta tb σ H Q := h
theorem x_orV (h : ta σ H fun x H1 => ∃ c, x = .bl c ∧ if c = true then Q (.bl true) H1 else tb σ H1 Q) : tOrV ta tb σ H Q := h
theorem x_notV (h : ta σ H fun x H1 => ∃ c, x = .bl c ∧ Q (.bl (!c)) H1) : tNotV ta σ H Q := h
theorem x_if {s : TT} (h : s σ H fun c H1 => if c = true then ta σ H1 Q else tb σ H1 Q) : tIf s ta tb σ H Q := h
theorem x_chain {r r' : R2} (h : ta σ H fun x H1 => tb σ H1 fun y H2 => r x y H2 fun z H3 => ∃ k, z = .bl k ∧ (if k = true then tc σ H3 fun w' H4 => r' y w' H4 Q else Q (.bl false) H3)) : tChain r r' ta tb tc σ H Q := h
theorem x_nil {R : List V → Hp → Prop} (h : R [] H) : tNil σ H R := h
theorem x_cons {tr : TA} {R : List V → Hp → Prop} (h : te σ H fun x H1 => tr σ H1 fun xs H2 => R (x :: xs) H2) : tCons te tr σ H R := h
theorem x_call {sp : Sp} {dvs : List V} {E : XK} {tr : TA} (h : tr σ H fun vs H1 => sp (vs ++ dvs) H1 Q E) : tCall sp dvs E tr σ H Q := h
theorem x_callK {sp : Sp} {g : List V → List V → List V} {E : XK} {tr tk : TA} (h : tr σ H fun vs H1 => tk σ H1 fun zs H2 => sp (g vs zs) H2 Q E) : tCallK sp g E tr tk σ H Q := h
theorem x_cb {r : List V → Hp → VK → Prop} {tr : TA} (h : tr σ H fun vs H1 => r vs H1 Q) : tCB r tr σ H Q := h
theorem x_lst {tr : TA} (h : tr σ H fun xs H1 => xs.length ≤ sizeLine ∧ ∀ p, H1 p = none → Q (.ref p) (upd H1 p (.lst xs))) : tLst tr σ H Q := h
theorem x_tup {tr : TA} (h : tr σ H fun xs H1 => xs.length ≤ sizeLine ∧ ∀ p, H1 p = none → Q (.ref p) (upd H1 p (.tup xs))) : tTup tr σ H Q := h
theorem x_ixL {p : Addr} {xs : List V} (s : SqL K H p xs) (a : atI xs i = some v) (h : Q v H) : rIxL K (.ref p) (.int i) H Q := ⟨p, xs, i, v, rfl, rfl, s, a, h⟩
theorem x_ixT {p : Addr} {xs : List V} (s : SqT K H p xs) (a : atI xs i = some v) (h : Q v H) : rIxT K (.ref p) (.int i) H Q := ⟨p, xs, i, v, rfl, rfl, s, a, h⟩
theorem x_sub {to ti : TE} {tS : TSet} {R : L2.St → Hp → Prop} (h : to σ H fun o H1 => ti σ H1 fun i H2 => tS o i v H2 fun H3 => R σ H3) : gSub to ti tS v σ H R := h
theorem x_setL {p : Addr} {xs : List V} {k : Nat} {R : Hp → Prop} (s : H p = some (.lst xs)) (a : ixN xs.length i = some k) (h : R (upd H p (.lst (xs.set k v)))) : rSetL (.ref p) (.int i) v H R := ⟨p, xs, i, k, rfl, rfl, s, a, h⟩
theorem x_sl {r : V → Option Int → Option Int → Hp → VK → Prop} {tl th : TO} (h : te σ H fun x H1 => tl σ H1 fun l H2 => th σ H2 fun u H3 => r x l u H3 Q) : tSl r te tl th σ H Q := h
theorem x_nopart {R : Option Int → Hp → Prop} (h : R none H) : tNoPart σ H R := h
theorem x_part {R : Option Int → Hp → Prop} (h : te σ H fun x H1 => ∃ i, x = .int i ∧ R (some i) H1) : tPart te σ H R := h
theorem x_int {R : Int → Prop} (h : R i) : ∃ k, V.int i = .int k ∧ R k := ⟨i, rfl, h⟩
theorem x_slL {p : Addr} {xs : List V} {lo hi : Option Int} (s : SqL K H p xs) (h : ∀ q, H q = none → Q (.ref q) (upd H q (.lst (cutV xs lo hi)))) : rSlL K (.ref p) lo hi H Q := ⟨p, xs, rfl, s, h⟩
theorem x_bm {T : String} {r : V → List V → Hp → VK → Prop} {to : TE} {tr : TA} (h : to σ H fun x H1 => tyV K T x H1 ∧ tr σ H1 fun xs H2 => r x xs H2 Q) : tBM K T r to tr σ H Q := h
theorem x_bm0 {T : String} {r : V → List V → Hp → VK → Prop} {to : TE} (h : to σ H fun x H1 => tyV K T x H1 ∧ r x [] H1 Q) : tBM0 K T r to σ H Q := h
theorem x_tyL {p : Addr} {xs : List V} {R : Prop} (s : SqL K H p xs) (h : R) : tyV K "list" (.ref p) H ∧ R := ⟨Or.inl ⟨rfl, xs, s⟩, h⟩
theorem x_append {p : Addr} {xs : List V} {y : V} (s : H p = some (.lst xs)) (l : xs.length < sizeLine) (h : Q .non (upd H p (.lst (xs ++ [y])))) : rAppend (.ref p) [y] H Q := ⟨p, xs, y, rfl, rfl, s, l, h⟩
theorem x_extend {p q : Addr} {xs ys : List V} (s : H p = some (.lst xs)) (s2 : H q = some (.lst ys)) (l : xs.length + ys.length ≤ sizeLine) (h : Q .non (upd H p (.lst (xs ++ ys)))) : rExtend (.ref p) [.ref q] H Q := ⟨p, q, xs, ys, rfl, rfl, s, s2, l, h⟩
theorem x_fld {f : Str} (h : ta σ H fun x H1 => ∃ a C dx fs v, x = .ref a ∧ H1 a = some (.ins C dx fs) ∧ Cls K C ∧ NoAttr K C f ∧ fs.lookup f = some v ∧ Q v H1) : tFld K ta f σ H Q := h
theorem x_while {c : TT} {tb : TS} (W : Nat → L2.St → Hp → Prop) (m0 : Nat) (h0 : W m0 σ H) (hs : ∀ m σ H, W m σ H → c σ H fun b H1 => if b = true then ∃ N : L2.St → Hp → Prop, (∀ σ' H', N σ' H' → ∃ m', m' < m ∧ W m' σ' H') ∧ tb { D with nx := N, ct := N, bk := D.nx } σ H1 else D.nx σ H1) : tWhile c tb D σ H := ⟨W, ⟨m0, h0⟩, hs⟩
theorem x_turn {m : Nat} {W : Nat → L2.St → Hp → Prop} {tb : TS} (h : tb { D with nx := fun σ' H' => ∃ m', m' < m ∧ W m' σ' H', ct := fun σ' H' => ∃ m', m' < m ∧ W m' σ' H', bk := D.nx } σ H) : ∃ N : L2.St → Hp → Prop, (∀ σ' H', N σ' H' → ∃ m', m' < m ∧ W m' σ' H') ∧ tb { D with nx := N, ct := N, bk := D.nx } σ H := ⟨_, fun _ _ h => h, h⟩
theorem x_tYes {R : Bool → Hp → Prop} (h : R true H) : tYes σ H R := h
end

theorem x_cut {σ : L2.St} {H : Hp} {D : Ends} {t u : TS} (Mid : L2.St → Hp → Prop) (h1 : t { D with nx := Mid } σ H) (h2 : ∀ σ' H', Mid σ' H' → u D σ' H') : C8.tCut t u D σ H := ⟨Mid, h1, h2⟩
/-! ### heaps -/
theorem upd_old {H : Hp} {a p : Addr} {o u : HO} (hp : H p = none) (h : H a = some u) : upd H p o a = some u := by
  rw [upd_ne (ne_of_none h hp)]
  exact h
theorem upd_oth {H : Hp} {a p : Addr} {o u : HO} (n : a ≠ p) (h : H a = some u) : upd H p o a = some u := by
  rw [upd_ne n]
  exact h
theorem Same.get {H H' : Hp} {a : Addr} {u : HO} (s : Same H H') (h : H a = some u) : H' a = some u := s a u h
theorem Same.new {H : Hp} {p : Addr} {o : HO} (h : H p = none) : Same H (upd H p o) := fun a u e => upd_old h e
theorem Same.sql {K : PySem.W.Frag} {H H' : Hp} {a : Addr} {xs : List V} (e : Same H H') (h : SqL K H a xs) : SqL K H' a xs := e.seq h
/-- an object that was not there may change -/
theorem Same.mut {H H' : Hp} {p : Addr} {o : HO} (e : Same H H') (h : H p = none) : Same H (upd H' p o) := fun a u ha => by
  rw [upd_ne (ne_of_none ha h)]
  exact e a u ha
/-- all but b is as it was -/
def Kp (b : Addr) (H H' : Hp) : Prop := ∀ a o, a ≠ b → H a = some o → H' a = some o
theorem Kp.refl {b : Addr} {H : Hp} : Kp b H H := fun _ _ _ h => h
theorem Kp.of {b : Addr} {H H' : Hp} (s : Same H H') : Kp b H H' := fun a o _ h => s a o h
theorem Kp.trans {b : Addr} {H H1 H2 : Hp} (x : Kp b H H1) (y : Kp b H1 H2) : Kp b H H2 := fun a o n h => y a o n (x a o n h)
theorem Kp.get {b : Addr} {H H' : Hp} {a : Addr} {u : HO} (s : Kp b H H') (n : a ≠ b) (h : H a = some u) : H' a = some u := s a u n h
theorem Kp.free {b : Addr} {H H' : Hp} (s : Kp b H H') {a : Addr} (n : a ≠ b) (h : H' a = none) : H a = none := by
  cases e : H a with
  | none => rfl
  | some o => rw [s a o n e] at h; cases h
theorem Kp.sql {K : PySem.W.Frag} {b : Addr} {H H' : Hp} {a : Addr} {xs : List V} (e : Kp b H H') (n : a ≠ b) (h : SqL K H a xs) : SqL K H' a xs := by
  rcases h with (h | ⟨o, h⟩) | h
  · exact .inl (.inl (e _ _ n h))
  · exact .inl (.inr ⟨o, e _ _ n h⟩)
  · exact .inr h
/-! ### loops over what stands still -/
section
variable {σ : L2.St} {H : Hp} {Q : VK} {D : Ends} {te : TE} {tt : TT} {K : PySem.W.Frag} {g : TG} {tb : TS}
/-- [e for x in xs if t] that leaves all that was tracked as it was: Iv of the turn and what is made so far -/
theorem lcS_list {a : Addr} {xs : List V} {vs : List Nat} (s : SqL K H a xs) (hz : xs.length < sizeLine) (Iv : Nat → List V → Prop) (I0 : Iv 0 [])
    (turn : ∀ i x H' acc, xs[i]? = some x → Same H H' → Iv i acc → acc.length ≤ i → ∀ (R : VK) (S : Hp → Prop), (∀ y H4, Same H' H4 → Iv (i + 1) (acc ++ [y]) → R y H4) → (∀ H3, Same H' H3 → Iv (i + 1) acc → S H3) →
      g x (wipe σ vs) H' fun σ2 H2 => wipe σ2 vs = wipe σ vs ∧ tt σ2 H2 fun b H3 => if b = true then te σ2 H3 R else S H3)
    (done : ∀ p H' acc, H p = none → Same H H' → H' p = some (.lst acc) → Iv xs.length acc → Q (.ref p) H') :
    ∀ p, H p = none → ∃ W : Nat → Nat → Hp → Prop, (∃ m, W 0 m (upd H p (.lst []))) ∧ ∀ i m H, W i m H →
      ((Itl K a).stop i H ∧ Q (.ref p) H) ∨ ((Itl K a).go i H ∧ ∃ Nx : Hp → Prop, (∀ H', Nx H' → ∃ m', m' < m ∧ W (i + 1) m' H') ∧ ∀ x H', (Itl K a).yld i H x H' → g x (wipe σ vs) H' fun σ2 H2 => wipe σ2 vs = wipe σ vs ∧ tt σ2 H2 fun b H3 =>
        if b = true then te σ2 H3 fun y H4 => ∃ acc, H4 p = some (.lst acc) ∧ acc.length < sizeLine ∧ Nx (upd H4 p (.lst (acc ++ [y]))) else Nx H3) := by
  intro p hp
  refine lc_list (K := K) (a := a) (xs := xs) (fun i H' => ∃ acc, Same H H' ∧ H' p = some (.lst acc) ∧ Iv i acc ∧ acc.length ≤ i) ⟨[], Same.new hp, upd_same, I0, Nat.le_refl _⟩ (fun i H' _ ⟨acc, s', _⟩ => s'.seq s) ?_ ?_
  · rintro i x H' hi ⟨acc, s', hd, iv, hl⟩
    have hil : i < xs.length := (List.getElem?_eq_some_iff.mp hi).1
    refine turn i x H' acc hi s' iv hl _ _ (fun y H4 q iv' => ?_) fun H3 q iv' => ?_
    · exact ⟨acc, q _ _ hd, by omega, acc ++ [y], Same.mut (Same.trans s' q) hp, upd_same, iv', by rw [List.length_append, List.length_singleton]; omega⟩
    · exact ⟨acc, Same.trans s' q, q _ _ hd, iv', by omega⟩
  · rintro H' ⟨acc, s', hd, iv, _⟩
    exact done p H' acc hp s' hd iv
/-- the same over range(lo, lo + n) -/
theorem lcS_rng {lo : Int} {n : Nat} {vs : List Nat} (hz : n < sizeLine) (Iv : Nat → List V → Prop) (I0 : Iv 0 [])
    (turn : ∀ i H' acc, i < n → Same H H' → Iv i acc → acc.length ≤ i → ∀ (R : VK) (S : Hp → Prop), (∀ y H4, Same H' H4 → Iv (i + 1) (acc ++ [y]) → R y H4) → (∀ H3, Same H' H3 → Iv (i + 1) acc → S H3) →
      g (.int (lo + i)) (wipe σ vs) H' fun σ2 H2 => wipe σ2 vs = wipe σ vs ∧ tt σ2 H2 fun b H3 => if b = true then te σ2 H3 R else S H3)
    (done : ∀ p H' acc, H p = none → Same H H' → H' p = some (.lst acc) → Iv n acc → Q (.ref p) H') :
    ∀ p, H p = none → ∃ W : Nat → Nat → Hp → Prop, (∃ m, W 0 m (upd H p (.lst []))) ∧ ∀ i m H, W i m H →
      ((Itr lo n).stop i H ∧ Q (.ref p) H) ∨ ((Itr lo n).go i H ∧ ∃ Nx : Hp → Prop, (∀ H', Nx H' → ∃ m', m' < m ∧ W (i + 1) m' H') ∧ ∀ x H', (Itr lo n).yld i H x H' → g x (wipe σ vs) H' fun σ2 H2 => wipe σ2 vs = wipe σ vs ∧ tt σ2 H2 fun b H3 =>
        if b = true then te σ2 H3 fun y H4 => ∃ acc, H4 p = some (.lst acc) ∧ acc.length < sizeLine ∧ Nx (upd H4 p (.lst (acc ++ [y]))) else Nx H3) := by
  intro p hp
  refine lc_range (lo := lo) (n := n) (fun i H' => ∃ acc, Same H H' ∧ H' p = some (.lst acc) ∧ Iv i acc ∧ acc.length ≤ i) ⟨[], Same.new hp, upd_same, I0, Nat.le_refl _⟩ ?_ ?_
  · rintro i H' hi ⟨acc, s', hd, iv, hl⟩
    refine turn i H' acc hi s' iv hl _ _ (fun y H4 q iv' => ?_) fun H3 q iv' => ?_
    · exact ⟨acc, q _ _ hd, by omega, acc ++ [y], Same.mut (Same.trans s' q) hp, upd_same, iv', by rw [List.length_append, List.length_singleton]; omega⟩
    · exact ⟨acc, Same.trans s' q, q _ _ hd, iv', by omega⟩
  · rintro H' ⟨acc, s', hd, iv, _⟩
    exact done p H' acc hp s' hd iv
end
/-! ### a for's walk and a comprehension's, as relations of the source's value -/
def rForL (K : PySem.W.Frag) (g : TG) (tb : TS) (D : Ends) (σ : L2.St) (x : V) (H : Hp) : Prop := ∃ a, x = .ref a ∧ (∃ xs, SqL K H a xs) ∧ ∃ W : Nat → Nat → L2.St → Hp → Prop, (∃ k, W 0 k σ H) ∧ ∀ k l σ H, W k l σ H → ((Itl K a).stop k H ∧ D.nx σ H) ∨ ((Itl K a).go k H ∧ ∃ N : L2.St → Hp → Prop, (∀ σ' H', N σ' H' → ∃ m', m' < l ∧ W (k + 1) m' σ' H') ∧ ∀ x H', (Itl K a).yld k H x H' → g x σ H' fun σ2 H2 => tb { D with nx := N, ct := N, bk := D.nx } σ2 H2)
def rForT (K : PySem.W.Frag) (g : TG) (tb : TS) (D : Ends) (σ : L2.St) (x : V) (H : Hp) : Prop := ∃ a, x = .ref a ∧ (∃ xs, SqT K H a xs) ∧ ∃ W : Nat → Nat → L2.St → Hp → Prop, (∃ k, W 0 k σ H) ∧ ∀ k l σ H, W k l σ H → ((Itt K a).stop k H ∧ D.nx σ H) ∨ ((Itt K a).go k H ∧ ∃ N : L2.St → Hp → Prop, (∀ σ' H', N σ' H' → ∃ m', m' < l ∧ W (k + 1) m' σ' H') ∧ ∀ x H', (Itt K a).yld k H x H' → g x σ H' fun σ2 H2 => tb { D with nx := N, ct := N, bk := D.nx } σ2 H2)
def rForR1 (g : TG) (tb : TS) (D : Ends) (σ : L2.St) (us : List V) (H : Hp) : Prop := ∃ j : Int, us = [.int j] ∧ -(2 ^ 62) ≤ j ∧ j < 2 ^ 62 ∧ ∃ W : Nat → Nat → L2.St → Hp → Prop, (∃ k, W 0 k σ H) ∧ ∀ k l σ H, W k l σ H → ((Itr 0 j.toNat).stop k H ∧ D.nx σ H) ∨ ((Itr 0 j.toNat).go k H ∧ ∃ N : L2.St → Hp → Prop, (∀ σ' H', N σ' H' → ∃ m', m' < l ∧ W (k + 1) m' σ' H') ∧ ∀ x H', (Itr 0 j.toNat).yld k H x H' → g x σ H' fun σ2 H2 => tb { D with nx := N, ct := N, bk := D.nx } σ2 H2)
def rForR2 (g : TG) (tb : TS) (D : Ends) (σ : L2.St) (us : List V) (H : Hp) : Prop := ∃ i j : Int, us = [.int i, .int j] ∧ (-(2 ^ 62) ≤ i ∧ i < 2 ^ 62 ∧ -(2 ^ 62) ≤ j ∧ j < 2 ^ 62) ∧ ∃ W : Nat → Nat → L2.St → Hp → Prop, (∃ k, W 0 k σ H) ∧ ∀ k l σ H, W k l σ H → ((Itr i (j - i).toNat).stop k H ∧ D.nx σ H) ∨ ((Itr i (j - i).toNat).go k H ∧ ∃ N : L2.St → Hp → Prop, (∀ σ' H', N σ' H' → ∃ m', m' < l ∧ W (k + 1) m' σ' H') ∧ ∀ x H', (Itr i (j - i).toNat).yld k H x H' → g x σ H' fun σ2 H2 => tb { D with nx := N, ct := N, bk := D.nx } σ2 H2)
def rLcL (K : PySem.W.Frag) (g : TG) (tt : TT) (te : TE) (vs : List Nat) (σ : L2.St) (x : V) (H : Hp) (Q : VK) : Prop := ∃ a, x = .ref a ∧ (∃ xs, SqL K H a xs) ∧ ∀ p, H p = none → ∃ W : Nat → Nat → Hp → Prop, (∃ m, W 0 m (upd H p (.lst []))) ∧ ∀ k l H, W k l H → ((Itl K a).stop k H ∧ Q (.ref p) H) ∨ ((Itl K a).go k H ∧ ∃ Nx : Hp → Prop, (∀ H', Nx H' → ∃ m', m' < l ∧ W (k + 1) m' H') ∧ ∀ x H', (Itl K a).yld k H x H' → g x (wipe σ vs) H' fun σ2 H2 => wipe σ2 vs = wipe σ vs ∧ tt σ2 H2 fun b H3 => if b = true then te σ2 H3 fun y H4 => ∃ acc, H4 p = some (.lst acc) ∧ acc.length < sizeLine ∧ Nx (upd H4 p (.lst (acc ++ [y]))) else Nx H3)
def rLcT (K : PySem.W.Frag) (g : TG) (tt : TT) (te : TE) (vs : List Nat) (σ : L2.St) (x : V) (H : Hp) (Q : VK) : Prop := ∃ a, x = .ref a ∧ (∃ xs, SqT K H a xs) ∧ ∀ p, H p = none → ∃ W : Nat → Nat → Hp → Prop, (∃ m, W 0 m (upd H p (.lst []))) ∧ ∀ k l H, W k l H → ((Itt K a).stop k H ∧ Q (.ref p) H) ∨ ((Itt K a).go k H ∧ ∃ Nx : Hp → Prop, (∀ H', Nx H' → ∃ m', m' < l ∧ W (k + 1) m' H') ∧ ∀ x H', (Itt K a).yld k H x H' → g x (wipe σ vs) H' fun σ2 H2 => wipe σ2 vs = wipe σ vs ∧ tt σ2 H2 fun b H3 => if b = true then te σ2 H3 fun y H4 => ∃ acc, H4 p = some (.lst acc) ∧ acc.length < sizeLine ∧ Nx (upd H4 p (.lst (acc ++ [y]))) else Nx H3)
def rLcR1 (g : TG) (tt : TT) (te : TE) (vs : List Nat) (σ : L2.St) (us : List V) (H : Hp) (Q : VK) : Prop := ∃ j : Int, us = [.int j] ∧ -(2 ^ 62) ≤ j ∧ j < 2 ^ 62 ∧ ∀ p, H p = none → ∃ W : Nat → Nat → Hp → Prop, (∃ m, W 0 m (upd H p (.lst []))) ∧ ∀ k l H, W k l H → ((Itr 0 j.toNat).stop k H ∧ Q (.ref p) H) ∨ ((Itr 0 j.toNat).go k H ∧ ∃ Nx : Hp → Prop, (∀ H', Nx H' → ∃ m', m' < l ∧ W (k + 1) m' H') ∧ ∀ x H', (Itr 0 j.toNat).yld k H x H' → g x (wipe σ vs) H' fun σ2 H2 => wipe σ2 vs = wipe σ vs ∧ tt σ2 H2 fun b H3 => if b = true then te σ2 H3 fun y H4 => ∃ acc, H4 p = some (.lst acc) ∧ acc.length < sizeLine ∧ Nx (upd H4 p (.lst (acc ++ [y]))) else Nx H3)
def rLcR2 (g : TG) (tt : TT) (te : TE) (vs : List Nat) (σ : L2.St) (us : List V) (H : Hp) (Q : VK) : Prop := ∃ i j : Int, us = [.int i, .int j] ∧ (-(2 ^ 62) ≤ i ∧ i < 2 ^ 62 ∧ -(2 ^ 62) ≤ j ∧ j < 2 ^ 62) ∧ ∀ p, H p = none → ∃ W : Nat → Nat → Hp → Prop, (∃ m, W 0 m (upd H p (.lst []))) ∧ ∀ k l H, W k l H → ((Itr i (j - i).toNat).stop k H ∧ Q (.ref p) H) ∨ ((Itr i (j - i).toNat).go k H ∧ ∃ Nx : Hp → Prop, (∀ H', Nx H' → ∃ m', m' < l ∧ W (k + 1) m' H') ∧ ∀ x H', (Itr i (j - i).toNat).yld k H x H' → g x (wipe σ vs) H' fun σ2 H2 => wipe σ2 vs = wipe σ vs ∧ tt σ2 H2 fun b H3 => if b = true then te σ2 H3 fun y H4 => ∃ acc, H4 p = some (.lst acc) ∧ acc.length < sizeLine ∧ Nx (upd H4 p (.lst (acc ++ [y]))) else Nx H3)
section
variable {σ : L2.St} {H : Hp} {Q : VK} {D : Ends} {tx te : TE} {ta : TA} {tt : TT} {K : PySem.W.Frag} {g : TG} {tb : TS} {vs : List Nat}
theorem x_forL (h : tx σ H fun x H1 => rForL K g tb D σ x H1) : tFor (iList K tx) g tb D σ H := h
theorem x_forT (h : tx σ H fun x H1 => rForT K g tb D σ x H1) : tFor (iTup K tx) g tb D σ H := h
theorem x_forR1 (h : ta σ H fun us H1 => rForR1 g tb D σ us H1) : tFor (iRng1 ta) g tb D σ H := h
theorem x_forR2 (h : ta σ H fun us H1 => rForR2 g tb D σ us H1) : tFor (iRng2 ta) g tb D σ H := h
theorem x_lcL (h : tx σ H fun x H1 => rLcL K g tt te vs σ x H1 Q) : tLc (iList K tx) g tt te vs σ H Q := h
theorem x_lcT (h : tx σ H fun x H1 => rLcT K g tt te vs σ x H1 Q) : tLc (iTup K tx) g tt te vs σ H Q := h
theorem x_lcR1 (h : ta σ H fun us H1 => rLcR1 g tt te vs σ us H1 Q) : tLc (iRng1 ta) g tt te vs σ H Q := h
theorem x_lcR2 (h : ta σ H fun us H1 => rLcR2 g tt te vs σ us H1 Q) : tLc (iRng2 ta) g tt te vs σ H Q := h
end
section
variable {σ : L2.St} {H : Hp} {Q : VK} {D : Ends} {te : TE} {tt : TT} {K : PySem.W.Frag} {g : TG} {tb : TS} {vs : List Nat}
theorem w_forL {a : Addr} {xs : List V} (s : SqL K H a xs) (Pv : Nat → L2.St → Hp → Prop) (h0 : Pv 0 σ H) (hl : ∀ i σ H, i ≤ xs.length → Pv i σ H → SqL K H a xs)
    (hs : ∀ i x σ H, xs[i]? = some x → Pv i σ H → g x σ H fun σ2 H2 => tb { D with nx := Pv (i + 1), ct := Pv (i + 1), bk := D.nx } σ2 H2) (hd : ∀ σ H, Pv xs.length σ H → D.nx σ H) : rForL K g tb D σ (.ref a) H := ⟨a, rfl, ⟨xs, s⟩, for_list Pv h0 hl hs hd⟩
theorem w_forT {a : Addr} {xs : List V} (s : SqT K H a xs) (Pv : Nat → L2.St → Hp → Prop) (h0 : Pv 0 σ H) (hl : ∀ i σ H, i ≤ xs.length → Pv i σ H → SqT K H a xs)
    (hs : ∀ i x σ H, xs[i]? = some x → Pv i σ H → g x σ H fun σ2 H2 => tb { D with nx := Pv (i + 1), ct := Pv (i + 1), bk := D.nx } σ2 H2) (hd : ∀ σ H, Pv xs.length σ H → D.nx σ H) : rForT K g tb D σ (.ref a) H := ⟨a, rfl, ⟨xs, s⟩, for_tup Pv h0 hl hs hd⟩
theorem w_forR1 {n : Int} (h1 : -(2 ^ 62) ≤ n) (h2 : n < 2 ^ 62) (Pv : Nat → L2.St → Hp → Prop) (h0 : Pv 0 σ H)
    (hs : ∀ i σ H, i < n.toNat → Pv i σ H → g (.int (0 + i)) σ H fun σ2 H2 => tb { D with nx := Pv (i + 1), ct := Pv (i + 1), bk := D.nx } σ2 H2) (hd : ∀ σ H, Pv n.toNat σ H → D.nx σ H) : rForR1 g tb D σ [.int n] H := ⟨n, rfl, h1, h2, for_range Pv h0 hs hd⟩
theorem w_forR2 {m n : Int} (hb : -(2 ^ 62) ≤ m ∧ m < 2 ^ 62 ∧ -(2 ^ 62) ≤ n ∧ n < 2 ^ 62) (Pv : Nat → L2.St → Hp → Prop) (h0 : Pv 0 σ H)
    (hs : ∀ i σ H, i < (n - m).toNat → Pv i σ H → g (.int (m + i)) σ H fun σ2 H2 => tb { D with nx := Pv (i + 1), ct := Pv (i + 1), bk := D.nx } σ2 H2) (hd : ∀ σ H, Pv (n - m).toNat σ H → D.nx σ H) : rForR2 g tb D σ [.int m, .int n] H := ⟨m, n, rfl, hb, for_range Pv h0 hs hd⟩
/-- [e for x in xs if t] -/
theorem w_lcL {a : Addr} {xs : List V} (s : SqL K H a xs) (hz : xs.length < sizeLine) (Iv : Nat → List V → Prop) (I0 : Iv 0 [])
    (turn : ∀ i x H' acc, xs[i]? = some x → Same H H' → Iv i acc → acc.length ≤ i → ∀ (R : VK) (S : Hp → Prop), (∀ y H4, Same H' H4 → Iv (i + 1) (acc ++ [y]) → R y H4) → (∀ H3, Same H' H3 → Iv (i + 1) acc → S H3) →
      g x (wipe σ vs) H' fun σ2 H2 => wipe σ2 vs = wipe σ vs ∧ tt σ2 H2 fun b H3 => if b = true then te σ2 H3 R else S H3)
    (done : ∀ p H' acc, H p = none → Same H H' → H' p = some (.lst acc) → Iv xs.length acc → Q (.ref p) H') : rLcL K g tt te vs σ (.ref a) H Q := ⟨a, rfl, ⟨xs, s⟩, lcS_list s hz Iv I0 turn done⟩
theorem w_lcR1 {n : Int} (h1 : -(2 ^ 62) ≤ n) (h2 : n < 2 ^ 62) (hz : n.toNat < sizeLine) (Iv : Nat → List V → Prop) (I0 : Iv 0 [])
    (turn : ∀ i H' acc, i < n.toNat → Same H H' → Iv i acc → acc.length ≤ i → ∀ (R : VK) (S : Hp → Prop), (∀ y H4, Same H' H4 → Iv (i + 1) (acc ++ [y]) → R y H4) → (∀ H3, Same H' H3 → Iv (i + 1) acc → S H3) →
      g (.int (0 + i)) (wipe σ vs) H' fun σ2 H2 => wipe σ2 vs = wipe σ vs ∧ tt σ2 H2 fun b H3 => if b = true then te σ2 H3 R else S H3)
    (done : ∀ p H' acc, H p = none → Same H H' → H' p = some (.lst acc) → Iv n.toNat acc → Q (.ref p) H') : rLcR1 g tt te vs σ [.int n] H Q := ⟨n, rfl, h1, h2, lcS_rng hz Iv I0 turn done⟩
theorem w_lcR2 {m n : Int} (hb : -(2 ^ 62) ≤ m ∧ m < 2 ^ 62 ∧ -(2 ^ 62) ≤ n ∧ n < 2 ^ 62) (hz : (n - m).toNat < sizeLine) (Iv : Nat → List V → Prop) (I0 : Iv 0 [])
    (turn : ∀ i H' acc, i < (n - m).toNat → Same H H' → Iv i acc → acc.length ≤ i → ∀ (R : VK) (S : Hp → Prop), (∀ y H4, Same H' H4 → Iv (i + 1) (acc ++ [y]) → R y H4) → (∀ H3, Same H' H3 → Iv (i + 1) acc → S H3) →
      g (.int (m + i)) (wipe σ vs) H' fun σ2 H2 => wipe σ2 vs = wipe σ vs ∧ tt σ2 H2 fun b H3 => if b = true then te σ2 H3 R else S H3)
    (done : ∀ p H' acc, H p = none → Same H H' → H' p = some (.lst acc) → Iv (n - m).toNat acc → Q (.ref p) H') : rLcR2 g tt te vs σ [.int m, .int n] H Q := ⟨m, n, rfl, hb, lcS_rng hz Iv I0 turn done⟩
end
/-- an item of a list of ints is an int -/
theorem int_at {ns : List Int} {i : Nat} {y : V} (h : (ns.map V.int)[i]? = some y) : ∃ z, y = V.int z ∧ ns[i]? = some z := by
  rw [List.getElem?_map] at h
  cases e : ns[i]? with
  | none => rw [e] at h; cases h
  | some z => rw [e] at h; exact ⟨z, (Option.some.inj h).symm, rfl⟩
theorem nat_at {ns : List Nat} {i : Nat} {y : V} (h : (ns.map fun z => V.int (z : Nat))[i]? = some y) : ∃ z : Nat, y = V.int (z : Nat) ∧ ns[i]? = some z := by
  rw [List.getElem?_map] at h
  cases e : ns[i]? with
  | none => rw [e] at h; cases h
  | some z => rw [e] at h; exact ⟨z, (Option.some.inj h).symm, rfl⟩
/-! ### built-ins in one form -/
section
variable {X : Cx}
def rInt1 : List V → Hp → VK → Prop := fun xs H Q => ∃ i, xs = [.int i] ∧ Q (.int i) H
theorem call_intI : CallR X (.type "int") rInt1 := fun pins s σ H xs us Q I r h => call_int1 pins s σ H xs us Q I r (.inl h)
def rIntB : List V → Hp → VK → Prop := fun xs H Q => ∃ k : Bool, xs = [.bl k] ∧ Q (.int (if k then 1 else 0)) H
theorem call_intB : CallR X (.type "int") rIntB := fun pins s σ H xs us Q I r h => call_int1 pins s σ H xs us Q I r (.inr h)
def rAbs : List V → Hp → VK → Prop := fun xs H Q => ∃ i, xs = [.int i] ∧ Q (.int (if i < 0 then -i else i)) H
theorem callAbs : CallR X (.builtin "abs") rAbs := call_abs
def rLenS (K : PySem.W.Frag) : List V → Hp → VK → Prop := fun xs H Q => ∃ p ys, xs = [.ref p] ∧ (SqL K H p ys ∨ SqT K H p ys) ∧ Q (.int (ys.length : Nat)) H
theorem callLenS : CallR X (.builtin "len") (rLenS X.K) := call_len_seq
def rListS (K : PySem.W.Frag) : List V → Hp → VK → Prop := fun xs H Q => ∃ p ys, xs = [.ref p] ∧ (SqL K H p ys ∨ SqT K H p ys) ∧ ∀ l, H l = none → Q (.ref l) (upd H l (.lst ys))
theorem callListS : CallR X (.type "list") (rListS X.K) := call_list_of
theorem pip_mul : PIp X .Mult (rI CMul fun i j => .int (i * j)) := iop_mul
theorem pip_fdiv : PIp X .FloorDiv (rI CDiv fun i j => .int (i / j)) := iop_fdiv
end
section
variable {H : Hp} {Q : VK} {i j : Int} {K : PySem.W.Frag}
theorem x_int1 (h : Q (.int i) H) : rInt1 [.int i] H Q := ⟨i, rfl, h⟩
theorem x_intB {k : Bool} (h : Q (.int (if k then 1 else 0)) H) : rIntB [.bl k] H Q := ⟨k, rfl, h⟩
theorem x_abs (h : Q (.int (if i < 0 then -i else i)) H) : rAbs [.int i] H Q := ⟨i, rfl, h⟩
theorem x_lenL {p : Addr} {xs : List V} (s : SqL K H p xs) (h : Q (.int (xs.length : Nat)) H) : rLenS K [.ref p] H Q := ⟨p, xs, rfl, .inl s, h⟩
theorem x_lenT {p : Addr} {xs : List V} (s : SqT K H p xs) (h : Q (.int (xs.length : Nat)) H) : rLenS K [.ref p] H Q := ⟨p, xs, rfl, .inr s, h⟩
theorem x_listL {p : Addr} {xs : List V} (s : SqL K H p xs) (h : ∀ l, H l = none → Q (.ref l) (upd H l (.lst xs))) : rListS K [.ref p] H Q := ⟨p, xs, rfl, .inl s, h⟩
theorem x_new {o : HO} {n : Nat} {P : Addr → HO → Prop} (l : n ≤ sizeLine) (h : ∀ p, H p = none → Q (.ref p) (upd H p o)) : n ≤ sizeLine ∧ ∀ p, H p = none → Q (.ref p) (upd H p o) := ⟨l, h⟩
end
section
theorem x_iteD {p A B : Prop} [Decidable p] (h1 : p → A) (h2 : ¬ p → B) : if decide p = true then A else B := by
  by_cases h : p
  · rw [if_pos (decide_eq_true h)]; exact h1 h
  · rw [if_neg (by simp [h])]; exact h2 h
theorem x_iteN {p A B : Prop} [Decidable p] (h1 : ¬ p → A) (h2 : p → B) : if (!decide p) = true then A else B := by
  by_cases h : p
  · rw [decide_eq_true h]; exact (if_neg (by decide)).mpr (h2 h)
  · rw [decide_eq_false h]; exact (if_pos (by decide)).mpr (h1 h)
theorem x_iteT {A B : Prop} (h : A) : if true = true then A else B := iteT h
theorem x_iteF {A B : Prop} (h : B) : if false = true then A else B := iteF h
theorem x_iteNT {A B : Prop} (h : B) : if (!true) = true then A else B := iteF h
theorem x_iteNF {A B : Prop} (h : A) : if (!false) = true then A else B := iteT h
theorem x_iteB {b : Bool} {A B : Prop} (h1 : b = true → A) (h2 : b = false → B) : if b = true then A else B := by
  cases b
  · exact iteF (h2 rfl)
  · exact iteT (h1 rfl)
theorem x_iteNB {b : Bool} {A B : Prop} (h1 : b = false → A) (h2 : b = true → B) : if (!b) = true then A else B := by
  cases b
  · exact iteT (h1 rfl)
  · exact iteF (h2 rfl)
theorem x_iteDT {p A B : Prop} [Decidable p] (hp : p) (h : A) : if decide p = true then A else B := by
  rw [if_pos (decide_eq_true hp)]; exact h
theorem x_iteDF {p A B : Prop} [Decidable p] (hp : ¬ p) (h : B) : if decide p = true then A else B := by
  rw [if_neg (by simp [hp])]; exact h
theorem x_iteNDT {p A B : Prop} [Decidable p] (hp : ¬ p) (h : A) : if (!decide p) = true then A else B := by
  rw [decide_eq_false hp]; exact iteT h
theorem x_iteNDF {p A B : Prop} [Decidable p] (hp : p) (h : B) : if (!decide p) = true then A else B := by
  rw [decide_eq_true hp]; exact iteF h
theorem atI_of {α : Type} {xs : List α} {i : Int} {v : α} {k : Nat} (h0 : i = (k : Int)) (h : xs[k]? = some v) : atI xs i = some v := by
  subst h0
  exact atI_nat h
theorem ixN_of {n k : Nat} {i : Int} (h0 : i = (k : Int)) (h : k < n) : ixN n i = some k := by
  subst h0
  unfold ixN
  rw [if_pos (by omega), if_pos (by omega)]
  rfl
end
/-! ### calls with keywords -/
/-- a def that is called with n values and keywords ks; gV puts them in the parameters' order -/
structure CalN (P : Program) (w : World) (K : PySem.W.Frag) (mg : Str → Option Value) (base : Heap) (k : Nat) (x : Str) (sp : Sp) (n : Nat) (ks : List Str) (gV : List V → List V → List V) : Prop where
  ex : ∃ (f : Addr) (fd : FuncData) (ps : List Str) (g : List Value → List Value → List Value), FnOk P w K mg base CX0 k f fd ps sp ∧ mg x = some (.ref f) ∧ PySem.W.keepIn K (.ref f) = true ∧ KBn K fd ps n ks g gV
section
variable {X : Cx} {k j n : Nat} {x : Str} {p pos : Pos} {e : Expr} {es : List Expr} {kws : List Keyword} {t tk : TA} {sp : Sp} {ks : List Str} {gV : List V → List V → List V}
theorem pe_cN0 (c : CalN X.prog X.w X.K X.mg X.base k x sp 0 ks gV) (hr : Room j X.A) (hk : k ≤ j) (hg : Gl X x) (hkw : PK X kws tk)
    (hall : (backToKw pos (keywordEach kws X.env)).all (·.1.isSome) = true := by rfl) (hks : (backToKw pos (keywordEach kws X.env)).filterMap (·.1) = ks := by rfl) (hdb : (x == ("__debug__" : Str)) = false := by decide)
    (hpl : ((backTo pos (starEach [] X.env)).any (·.1) || (backToKw pos (keywordEach kws X.env)).any (·.1.isNone)) = false := by rfl) :
    PE X (.Call (.Name x p) [] kws pos) (tCallN 0 ks.length sp gV L2.E0 tNil tk) := by
  obtain ⟨f, fd, ps, g, F, hm, kp, b⟩ := c.ex
  refine ⟨fun pins s σ H Q I h => ?_⟩
  refine wpAny_Call_Name_kw (ld_glob I hg hm ?_ hdb)
  refine PySem.W.callWith_KW0 (h₀ := X.base) I.ok.mod.kin kp hall ?_ hpl
  refine thn (hkw.run pos pins s σ H _ I h) fun ws s2 ⟨zs, H2, I2, rz, l1, l2, q2⟩ => ⟨I2.kIn, ?_⟩
  rw [hks]
  exact run_fnN (us := []) (vs := []) F (hr.mono hk) b pass0 I2 .nil rz rfl l2 q2
theorem pe_cN (c : CalN X.prog X.w X.K X.mg X.base k x sp n ks gV) (hr : Room j X.A) (hk : k ≤ j) (hg : Gl X x) (ha : PA X (e :: es) t) (hkw : PK X kws tk)
    (hall : (backToKw pos (keywordEach kws X.env)).all (·.1.isSome) = true := by rfl) (hks : (backToKw pos (keywordEach kws X.env)).filterMap (·.1) = ks := by rfl) (hdb : (x == ("__debug__" : Str)) = false := by decide)
    (he : starEach (e :: es) X.env = (false, eval e X.env) :: starEach es X.env := by rfl) (hpl : ((backTo pos (starEach (e :: es) X.env)).any (·.1) || (backToKw pos (keywordEach kws X.env)).any (·.1.isNone)) = false := by rfl) :
    PE X (.Call (.Name x p) (e :: es) kws pos) (tCallN n ks.length sp gV L2.E0 t tk) := by
  obtain ⟨f, fd, ps, g, F, hm, kp, b⟩ := c.ex
  exact pe_callN F (hr.mono hk) hg hm kp b pass0 ha hkw hall hks hdb he hpl
end
theorem x_callN {σ : L2.St} {H : Hp} {Q : VK} {n m : Nat} {sp : Sp} {g : List V → List V → List V} {E : XK} {tr tk : TA} (h : tr σ H fun vs H1 => tk σ H1 fun zs H2 => vs.length = n ∧ zs.length = m ∧ sp (g vs zs) H2 Q E) : tCallN n m sp g E tr tk σ H Q := h
/-- isinstance(x, a built-in class): by the type's name -/
theorem x_isTy {K : PySem.W.Frag} {H : Hp} {Q : VK} {x : V} {m n : String} {b : Bool} (t : TyOf K H x (.type m)) (e : PySem.W.kitOne K (.type m) (.type n) = some b) (h : Q (.bl b) H) : rIsi K [x, .ty n] H Q := ⟨_, _, _, _, b, rfl, .ty n, .base t, e, h⟩
end Cb
namespace Cb
open PySem PySem.Spec PyProof.Rows L2
open AutoSeq1 (wpAny_loadPart')
/-! ### dict(d) -/
section
variable {X : Cx}
def rDictOf : List V → Hp → VK → Prop := fun xs H Q => ∃ (a : Addr) (kvs : List (Key × V)), xs = [.ref a] ∧ Rd H a (.dK kvs) ∧ ∀ p, H p = none → Q (.ref p) (upd H p (.dK kvs))
theorem call_dict_of : CallR X (.type "dict") rDictOf := by
  intro pins s σ H xs us Q I r h
  obtain ⟨a, kvs, e, hk, q⟩ := h
  subst e
  obtain ⟨u, eu, rx⟩ := vals1 r
  subst eu
  obtain rfl : u = Value.ref a := rx
  exact d_copyOf I hk fun p s' hp I' => ⟨.ref p, _, I', rfl, q p hp⟩
end
/-! ### list(d.values()) -/
def rVals : V → Hp → VK → Prop := fun x H Q => ∃ (d : Addr) (kvs : List (Key × V)), x = .ref d ∧ H d = some (.dK kvs) ∧ ∀ p, H p = none → Q (.ref p) (upd H p (.lst (kvs.map (·.2))))
def tListVals (te : TE) : TE := fun σ H Q => te σ H fun x H1 => rVals x H1 Q
section
variable {X : Cx} {e : Expr} {te : TE} {p apos cpos pos : Pos}
theorem pe_listVals (hc : X.calm = true) (he : PE X e te) (hg : Gl X "list") (hm : X.mg "list" = none) (hv : bootBuiltins "list" = some (.type "list")) (hbase : attributeBase e "values" X.env (eval e X.env) = eval e X.env := by rfl) (hline : (apos.endLine == cpos.line) = true := by rfl)
    (hs : starEach [.Call (.Attribute e "values" apos) [] [] cpos] X.env = (false, eval (.Call (.Attribute e "values" apos) [] [] cpos) X.env) :: starEach [] X.env := by rfl) :
    PE X (.Call (.Name "list" p) [.Call (.Attribute e "values" apos) [] [] cpos] [] pos) (tListVals te) := by
  refine ⟨fun pins s σ H Q I hq => ?_⟩
  refine wpAny_Call_Name_kw (ld_blt I hg hm hv ?_)
  refine PyProof.Rows.callWith_type1 ?_ hs rfl
  rw [hs]
  show wpAny _ _ (spliced ((false, eval (.Call (.Attribute e "values" apos) [] [] cpos) X.env) :: backTo pos (starEach [] X.env))) _ _ s
  refine Calls.spliced_cons ?_
  refine wpAny_Call_method (T := "dict") (id := "dict.values") hbase rfl hline F.plainAttrs_dict F.slot_dict_values F.type_dict_values (thn (he.run pins s σ H _ I hq) fun u s1 ⟨x, H1, I1, rx, d, kvs, ex, hd, q⟩ => ?_)
  subst ex
  obtain rfl : u = Value.ref d := rx
  obtain ⟨hz, hs0, vs, kv, hdo⟩ := I1.hok d _ hd
  obtain ⟨ep, hat⟩ := hdo.dictAt
  have lk : kvs.length = vs.length := Paired.length kv
  have I2 : Inv X pins σ H1 { s1 with heap := s1.heap.push { cls := .type "dict_values", data := .fields #[.ref d] } } := I1.kept (t' := s1.toks) fun b ob q => Heap.get?_push_of_some _ q
  refine ⟨hdo.typeIs, hdo.mapOf.noDict, ?_⟩
  show wpAny _ _ (callWith cpos (.builtin "dict.values") [.ref d] [] []) _ X.xe s1
  refine method_meetsIn F.slot_dict_values F.entry_dict_values rfl (PySem.evalArgs_none ⟨rfl, hdo.typeIs, F.args_dict_values_1 _, _, meets_dict_values (mixKind X.prog X.w) d hs0, ⟨vs, hdo⟩, ?_⟩)
  refine Calls.spliced_nil ?_
  refine PySem.W.kdl_call (PySem.W.kdl_values (knd := mixKind X.prog X.w) (kvs := vs) (ep := ep)) (I1.ok.hd hc) ⟨⟨_, Heap.get?_push_size _ rfl, rfl, rfl⟩, hat.push _⟩ (by omega) fun h' tk acc' c' hkeep hS hacc => ?_
  refine ⟨.ref _, upd H1 _ (.lst (kvs.map (·.2))), I2.laid hkeep (Nat.le_refl _) (show ObjOk X.prog X.w _ _ _ (.lst (kvs.map (·.2))) from ⟨?_, acc'.toList, c', ?_, ?_⟩), rfl, q _ (I2.hok.fresh (Nat.le_refl _))⟩
  · rw [List.length_map]; exact hz
  · have el : acc'.toList.length = acc'.size := by simp
    refine vals_of_at (by rw [List.length_map, el, hacc.1, lk]) fun j x w h1 h2 => ?_
    obtain ⟨k, hky⟩ := hacc.2 j w (by rw [← Array.getElem?_toList]; exact h2)
    rw [List.getElem?_map] at h1
    cases ekv : kvs[j]? with
    | none => rw [ekv] at h1; cases h1
    | some pr =>
      rw [ekv] at h1
      cases h1
      obtain ⟨y, f1, f2⟩ := LiI.paired_get kv ekv
      rw [hky] at f1
      cases f1
      exact f2.2
  · rw [Array.toArray_toList]; exact hS
end
/-! ### l.index(x, i) -/
section
variable {X : Cx}
def rIndexFrom (K : PySem.W.Frag) : V → List V → Hp → VK → Prop := fun x xs H Q => ∃ (a : Addr) (ys : List V) (y : V) (i j : Nat) (z : V), x = V.ref a ∧ xs = [y, .int (i : Nat)] ∧ SqL K H a ys ∧ flatV y = true ∧ ys.all flatV = true ∧ i ≤ j ∧ ys[j]? = some z ∧ eqV z y = true ∧
  (∀ (m : Nat) (z' : V), i ≤ m → m < j → ys[m]? = some z' → eqV z' y = false) ∧ Q (.int (j : Nat)) H
theorem mt_indexFrom : MtR X "list.index" (rIndexFrom X.K) := by
  intro pins s σ H x xs v us Q I rx rxs h
  obtain ⟨a, ys, y, i, j, z, rfl, rfl, hs, fy, fys, hij, hz, hzj, hno, q⟩ := h
  cases rx
  cases rxs with
  | cons ry rt =>
    rename_i uy ut
    obtain ⟨ui, eu, ri⟩ := vals1 rt
    subst eu
    obtain ⟨ti, rfl⟩ := ri
    obtain ⟨its, rv, ⟨⟨cls, dd, data, sl⟩, n, ho, hc, hdn, hd⟩, hlen⟩ := I.list hs
    simp only at hc hd
    subst hc hd
    have hvl := rv.length
    have hsl := sizeLine_eq
    have hjy : j < ys.length := (List.getElem?_eq_some_iff.mp hz).1
    have hj : j < its.toArray.size := by
      rw [List.size_toArray]
      omega
    refine call_meets PySem.F.slot_list_index ⟨_, ho, rfl⟩ PySem.F.entry_list_index (PySem.F.args_list_index_3 _ _ _)
      (SeqAt.list_index3_found a its.toArray n dd sl uy (fun m => match ys[m]? with | some z' => eqV z' y | none => false) (i : Int) ti j hj (by rw [SeqAt.searchFrom_nat]; exact hij) (by omega) ?_ ?_) ⟨ho, fun m hm => ?_, ?_⟩
    · rw [hz]; exact hzj
    · intro m hm h1 h2
      rw [SeqAt.searchFrom_nat] at h1
      cases e : ys[m]? with
      | none => rfl
      | some z' => exact hno m z' h1 h2 e
    · have hml : m < its.length := by simpa using hm
      have hmy : m < ys.length := by omega
      have hy' : ys[m]? = some ys[m] := List.getElem?_eq_getElem hmy
      obtain ⟨u2, hu2, ru2⟩ := rv.get hy'
      obtain ⟨_, hme⟩ := List.getElem?_eq_some_iff.mp hu2
      have e1 : its.toArray[m] = u2 := by simpa using hme
      rw [e1, hy']
      exact eqAt_V ru2 ry (flat_at fys hy') fy
    · exact ⟨.int (j : Nat), H, I.tok _, ⟨_, rfl⟩, q⟩
end
/-! ### tuple(x) of a list, a tuple, a dict -/
section
variable {prog : Program} {w : World} {A : Around} {E : Value → Shared → Prop} {s : Shared} {T : String} {r d : Addr} {n : Nat} {P : Nat → Value → Prop} {OK : Heap → Prop}
theorem collect_kdl {Q : List Value → Shared → Prop} (K : PySem.W.KdlSrc prog w T r d n P OK) (hh : A.handled = none) (hok : OK s.heap) (hn : n ≤ sizeLine)
    (hQ : ∀ (h' : Heap) (tk : Nat) (acc : Array Value), (∀ b o, s.heap.get? b = some o → h'.get? b = some o) → ItemsOf P acc n → Q acc.toList { s with heap := h', toks := tk }) :
    wpAny (model prog w) A (collect (.ref r)) Q E s := by
  have hlt := K.there _ hok
  unfold collect
  refine wpAny_bind (wpAny_runValue (codeAny_builtin F.entry_proto_collect ?_))
  rw [Around.under_plainId F.plain_proto_collect _]
  show wpAny _ A.in1 (newList [] >>= fun l => again (.builtin "list.__iadd__" ⟨[l, .ref r], []⟩)) _ _ s
  refine wpAny_bind (wpAny_newObj_type ?_)
  refine wpAny_pure ⟨plainId_quiet F.plain_list_iadd _, codeAny_builtin F.entry_list_iadd ?_⟩
  rw [Around.under_plainId F.plain_list_iadd _]
  show wpAny _ A.in1 (Builtin.List.listExtendWith (.ref s.heap.objs.size) (.ref r) (.ref s.heap.objs.size)) _ _ _
  have hS : (s.heap.push { cls := .type "list", data := .seq ([] : List Value).toArray }).get? s.heap.objs.size = some { cls := .type "list", data := .seq #[] 0 } := Heap.get?_push_size _ rfl
  refine wpAny_mono (PySem.W.kdl_extend (A := A) (R := fun rr s' => rr = .ok (.ret (.ref s.heap.objs.size)) ∧ ∃ (h' : Heap) (tk : Nat) (acc : Array Value) (c' : Nat), s' = { s with heap := h', toks := tk } ∧
      (∀ b o, s.heap.get? b = some o → h'.get? b = some o) ∧ h'.get? s.heap.objs.size = some { cls := .type "list", dict := none, data := .seq acc c', slots := #[] } ∧ ItemsOf P acc n)
    (s := { s with heap := s.heap.push { cls := .type "list", data := .seq ([] : List Value).toArray } }) K hh (K.keep _ _ hok fun b _ o e => Heap.get?_push_of_some _ e) s.heap.objs.size (Nat.ne_of_gt hlt.1) (Nat.ne_of_gt hlt.2) _ 0 hS
    (fun h' tk acc c' hk e hi => ⟨rfl, h', tk, acc, c', rfl, fun b o q => hk b o (Nat.ne_of_lt (Heap.lt_size q)) (Heap.get?_push_of_some _ q), e, hi⟩) hn) (fun fin s' h => ?_) (fun e s' h => ?_)
  · cases fin with
    | done f =>
      obtain ⟨e, h', tk, acc, c', rfl, hk, hS', hi⟩ := h
      cases e
      show wpAny _ A (load s.heap.objs.size >>= _) _ _ _
      exact wpAny_bind (wpAny_load hS' (wpAny_pure (hQ h' tk acc hk hi)))
    | again c' =>
      refine ⟨h.1, codeAny_mono h.2 fun rr s'' hr' => ?_⟩
      obtain ⟨rfl, h', tk, acc, c', rfl, hk, hS', hi⟩ := hr'
      show wpAny _ A (load s.heap.objs.size >>= _) _ _ _
      exact wpAny_bind (wpAny_load hS' (wpAny_pure (hQ h' tk acc hk hi)))
  · exact absurd h.1 (by simp)
theorem code_tuple_new_kdl {Q₁ : Value → Shared → Prop} (K : PySem.W.KdlSrc prog w "dict" r d n P OK) (hh : A.handled = none) (hok : OK s.heap) (hn : n ≤ sizeLine)
    (h : ∀ (h' : Heap) (tk : Nat) (acc : Array Value), (∀ b o, s.heap.get? b = some o → h'.get? b = some o) → ItemsOf P acc n →
      Q₁ (.ref h'.objs.size) { s with heap := h'.push { cls := .type "tuple", data := .seq acc }, toks := tk }) :
    codeAny (model prog w) A (.call (.builtin "tuple.__new__") ⟨[.type "tuple", .ref r], []⟩) (wants Q₁ E) s := by
  refine codeAny_of_tree ?_
  show wpAny _ A.in1 (do checkBuiltinCall "tuple.__new__" ⟨[.type "tuple", .ref r], []⟩; again (.builtin "tuple.__new__" ⟨[.type "tuple", .ref r], []⟩)) _ _ s
  refine wpAny_bind (wpAny_of_eq (F.newCall_tuple_1 _) (wpAny_pure ⟨plainId_quiet F.plain_tuple_new _, codeAny_builtin F.entry_tuple_new ?_⟩))
  rw [Around.under_plainId F.plain_tuple_new _]
  have hsub := sub_tuple_self
  have hinit := init_tuple_lookup
  have hmh := madeHere_tuple
  have hTI : s.TypeIs (.ref r) "dict" := K.type s hok
  have hh1 : A.in1.handled = none := hh
  wp_walk using wpAny_typeOf hTI, collect_kdl (A := A.in1) K hh1 hok hn
  intro h' tk acc hk hacc
  show wpAny _ _ (Builtin.Tuple.tupleExact acc.toList.toArray >>= fun v => ret v) _ _ _
  unfold Builtin.Tuple.tupleExact
  refine wpAny_bind (wpAny_newObj_type ?_ (by show acc.toList.toArray.size ≤ sizeLine; simp only [Array.toArray_toList]; rw [hacc.1]; exact hn))
  refine wpAny_pure ?_
  have e : acc.toList.toArray = acc := by simp
  rw [e]
  exact h h' tk acc hk hacc
theorem call_tuple_kdl {Q : Value → Shared → Prop} (K : PySem.W.KdlSrc prog w "dict" r d n P OK) (hh : A.handled = none) (hok : OK s.heap) (hn : n ≤ sizeLine)
    (hQ : ∀ (h' : Heap) (tk : Nat) (acc : Array Value), (∀ b o, s.heap.get? b = some o → h'.get? b = some o) → ItemsOf P acc n →
      Q (.ref h'.objs.size) { s with heap := h'.push { cls := .type "tuple", data := .seq acc }, toks := tk }) :
    wpAny (model prog w) A (call (.type "tuple") [.ref r]) Q E s := by
  refine callType_codes (Q₁ := fun obj s₁ => s₁.TypeIs obj "tuple" ∧ Q obj s₁) F.called_tuple (F.typeCall_tuple_1 _) F.entry_object_init
    (code_tuple_new_kdl (A := A.in1) K hh hok hn fun h' tk acc hk hacc => ⟨⟨_, Heap.get?_push_size _ rfl, rfl⟩, hQ h' tk acc hk hacc⟩) fun obj s₁ h₁ => ?_
  exact ⟨h₁.1, F.args_object_init_2 obj _, object_init_meets F.called_tuple.init.lookup F.called_tuple.made (by decide) prog w A.in1 _ s₁ ⟨h₁.1, rfl, h₁.2⟩⟩
end
section
variable {X : Cx}
def rTupOf (K : PySem.W.Frag) : List V → Hp → VK → Prop := fun vs H Q => ∃ p, vs = [.ref p] ∧ ((∃ xs, SqL K H p xs ∧ ∀ q, H q = none → Q (.ref q) (upd H q (.tup xs))) ∨ (∃ xs, SqT K H p xs ∧ Q (.ref p) H) ∨
  ∃ kvs : List (Key × V), H p = some (.dK kvs) ∧ ∀ q, H q = none → Q (.ref q) (upd H q (.tup (kvs.map fun kv => kV kv.1))))
theorem call_tupOf (hc : X.calm = true) : CallR X (.type "tuple") (rTupOf X.K) := by
  intro pins s σ H xs us Q I r h
  obtain ⟨p, rfl, h⟩ := h
  obtain ⟨v, rfl, rx⟩ := vals1 r
  rcases h with ⟨xs, hs, q⟩ | ⟨xs, hs, q⟩ | ⟨kvs, hk, q⟩
  · exact rl_tuple pins s σ H (.ref p) v Q I rx (.inl ⟨p, xs, rfl, hs, q⟩)
  · exact rl_tuple pins s σ H (.ref p) v Q I rx (.inr ⟨p, xs, rfl, hs, q⟩)
  · obtain rfl : v = Value.ref p := rx
    obtain ⟨z, lo, vs, rk, hd⟩ := (show ObjOk X.prog X.w H s.heap p (.dK kvs) from I.hok p _ hk)
    obtain ⟨ep, hat⟩ := hd.dictAt
    have hl : kvs.length = vs.length := Paired.length rk
    refine call_tuple_kdl (PySem.W.kdl_dict (knd := mixKind X.prog X.w) (kvs := vs) (ep := ep) lo) (I.ok.hd hc) hat (by rw [← hl]; exact z) fun h' tk acc' hkeep hacc => ?_
    have I1 : Inv X pins σ H { s with heap := h', toks := tk } := I.kept (t' := tk) hkeep
    refine ⟨.ref h'.objs.size, upd H h'.objs.size (.tup (kvs.map fun kv => kV kv.1)), I1.laid (t' := tk) (fun b o e => Heap.get?_push_of_some _ e) (Nat.le_refl _) (show ObjOk X.prog X.w _ _ _ (.tup (kvs.map fun kv => kV kv.1)) from ⟨?_, acc'.toList, ?_, ?_⟩), rfl, q _ (I1.hok.fresh (Nat.le_refl _))⟩
    · rw [List.length_map]; exact z
    · have el : acc'.toList.length = acc'.size := by simp
      refine vals_of_at (by rw [List.length_map, el, hacc.1, hl]) fun j x w h1 h2 => ?_
      obtain ⟨k, y, hky, hi⟩ := hacc.2 j w (by rw [← Array.getElem?_toList]; exact h2)
      have e1 : (kvs.map (·.1))[j]? = some k := by
        rw [KV.keys rk, List.getElem?_map, hky] <;> rfl
      have e2 : (kvs.map fun kv => kV kv.1)[j]? = some (kV k) := by
        have e3 : (kvs.map fun kv => kV kv.1) = (kvs.map (·.1)).map kV := by rw [List.map_map] <;> rfl
        rw [e3, List.getElem?_map, e1] <;> rfl
      rw [e2] at h1
      cases h1
      exact keyIs_rel hi
    · rw [Array.toArray_toList]
      exact IsTup.new _ _
end
/-! ### a walk over a list or a tuple -/
section
variable {X : Cx} {tg : Expr}
def SqA (K : PySem.W.Frag) (H : Hp) (a : Addr) (xs : List V) : Prop := SqL K H a xs ∨ SqT K H a xs
def iSeq (K : PySem.W.Frag) (tl : TE) : TI := fun σ H R => tl σ H fun x H1 => ∃ a, x = .ref a ∧ (((∃ xs, SqL K H1 a xs) ∧ R (Itl K a) H1) ∨ ((∃ xs, SqT K H1 a xs) ∧ R (Itt K a) H1))
theorem pi_seq {l : Expr} {tl : TE} (hl : PE X l tl) : PI X tg l (iSeq X.K tl) := by
  refine ⟨fun pins s σ H R I h => ?_⟩
  refine thn (hl.run pins s σ H _ I h) fun v s1 ⟨x, H1, I1, r1, q1⟩ => ?_
  obtain ⟨a, e, q⟩ := q1
  subst e
  cases r1
  rcases q with ⟨⟨xs, hq⟩, q⟩ | ⟨⟨xs, hq⟩, q⟩
  · obtain ⟨its, rv, p, hz⟩ := I1.list hq
    refine wpAny_pyIter_list p.isList ?_
    refine ⟨s1.heap.objs.size, [s1.heap.objs.size], _, _, H1, rfl, I1.kept (t' := s1.toks) fun b o e => Heap.get?_push_of_some _ e, turn_list a _, ⟨_, Heap.get?_push_size _ rfl, rfl, rfl⟩, fun b hb => ?_, q⟩
    have e : b = s1.heap.objs.size := by simpa using hb
    subst e
    exact I1.fpOk (Nat.le_refl _) (I1.hok.fresh (Nat.le_refl _))
  · obtain ⟨its, rv, p, hz⟩ := I1.tuple hq
    refine wpAny_pyIter_tuple (show s1.heap.IsTuple a its.toArray from p) ?_
    refine ⟨s1.heap.objs.size, [s1.heap.objs.size], _, _, H1, rfl, I1.kept (t' := s1.toks) fun b o e => Heap.get?_push_of_some _ e, turn_tuple a _, ⟨_, Heap.get?_push_size _ rfl, rfl, rfl⟩, fun b hb => ?_, q⟩
    have e : b = s1.heap.objs.size := by simpa using hb
    subst e
    exact I1.fpOk (Nat.le_refl _) (I1.hok.fresh (Nat.le_refl _))
end
/-! ### enumerate(tuple) -/
theorem meets_enumerate_newT (l : Addr) (items : Array Value) (n : Nat) (dct : Option Addr) (sl : Array (Option Value)) :
    Meets (Builtin.«enumerate.__new__» ⟨[.type "enumerate", .ref l], []⟩) (fun _ R s => s.heap.get? l = some { cls := .type "tuple", dict := dct, data := .seq items n, slots := sl } ∧
      R (.ok (.ret (.ref (s.heap.push { cls := .type "tuple_iterator", data := .fields #[.ref l, .int 0 0] }).objs.size)))
        { s with heap := (s.heap.push { cls := .type "tuple_iterator", data := .fields #[.ref l, .int 0 0] }).push { cls := .type "enumerate", data := .fields #[.none, .bool false, .ref s.heap.objs.size, rawInt 0, .none, .none] } }) :=
  .of_wp fun prog w A R s h => by
    obtain ⟨hp, g, d, tk, os⟩ := s; obtain ⟨hl, h⟩ := h
    have hsub := sub_enumerate
    have hL : Heap.IsTuple (Shared.heap ⟨hp, g, d, tk, os⟩) l items := ⟨_, hl, rfl, n, rfl⟩
    wp_walk using wpAny_loadPart' hl
    refine wpAny_stack_any fun st => wpAny_pure ?_
    split
    · rename_i c _ _ _ _ _
      cases (c == Value.type "enumerate")
      · wp_walk using wpAny_loadPart' hl, wpAny_pyIter_tuple hL
        exact ⟨_, rfl, h⟩
      · wp_walk using wpAny_loadPart' hl, wpAny_pyIter_tuple hL
        exact ⟨_, rfl, h⟩
    · wp_walk using wpAny_loadPart' hl, wpAny_pyIter_tuple hL
      exact ⟨_, rfl, h⟩
section
variable {prog : Program} {w : World} {A : Around} {E : Value → Shared → Prop} {s : Shared}
theorem call_enumerate_tup {l : Addr} {items : Array Value} {Q : Value → Shared → Prop} (hL : s.heap.IsTuple l items)
    (h : ∀ h', IsEnum h' (s.heap.objs.size + 1) s.heap.objs.size 0 .none → h'.IsTupleIter s.heap.objs.size l 0 → h'.objs.size = s.heap.objs.size + 2 →
      (∀ b o, s.heap.get? b = some o → h'.get? b = some o) → Q (.ref (s.heap.objs.size + 1)) { s with heap := h' }) :
    wpAny (model prog w) A (call (.type "enumerate") [.ref l]) Q E s := by
  obtain ⟨⟨c, dct, dt, sl⟩, hl, hc, n, hd⟩ := hL
  replace hc : c = .type "tuple" := hc
  replace hd : dt = .seq items n := hd
  subst hc hd
  refine callType_new F.called_enumerate (by decide) (F.typeCall_enumerate_1 _) (F.newCall_enumerate_1 _) (fun obj => F.args_object_init_2 obj _) F.entry_enumerate_new
    (meets_enumerate_newT l items n dct sl) ⟨hl, ?_⟩
  have hz : (s.heap.push { cls := .type "tuple_iterator", data := .fields #[.ref l, .int 0 0] }).objs.size = s.heap.objs.size + 1 := Heap.size_push ..
  show _ ∧ _
  rw [hz]
  have he : IsEnum ((s.heap.push { cls := .type "tuple_iterator", data := .fields #[.ref l, .int 0 0] }).push
      { cls := .type "enumerate", data := .fields #[.none, .bool false, .ref s.heap.objs.size, rawInt 0, .none, .none] }) (s.heap.objs.size + 1) s.heap.objs.size 0 .none := by
    have := Heap.get?_push_size (s.heap.push { cls := .type "tuple_iterator", data := .fields #[.ref l, .int 0 0] })
      (o := { cls := .type "enumerate", data := .fields #[.none, .bool false, .ref s.heap.objs.size, rawInt 0, .none, .none] }) rfl
    rw [hz] at this; exact this
  refine ⟨⟨_, he, rfl⟩, h _ he ⟨_, Heap.get?_push_of_some _ (Heap.get?_push_size _ rfl), rfl, rfl⟩ (by rw [Heap.size_push, hz]) fun b o x => Heap.get?_push_of_some _ (Heap.get?_push_of_some _ x)⟩
end
def Itet (K : PySem.W.Frag) (a : Addr) : It :=
  ⟨fun i H => ∃ (xs : List V) (x : V), SqT K H a xs ∧ xs[i]? = some x, fun i H v H' => ∃ T x, v = .ref T ∧ H T = none ∧ H' = upd H T (.tup [.int (i : Nat), x]) ∧ ∀ xs, SqT K H a xs → xs[i]? = some x, fun i H => ∃ xs : List V, SqT K H a xs ∧ xs.length = i⟩
theorem turn_enumT {P : Program} {w : World} {K : PySem.W.Frag} {elts : List Expr} {kk : Nat} {tpos : Pos} (a e it : Addr) :
    Turn P w K (.Tuple elts kk tpos) (Itet K a) [e, it] e (fun i h => (∃ old, IsEnum h e it ((i : Nat) : Int) old) ∧ h.IsTupleIter it a i ∧ e ≠ it ∧ a ≠ it ∧ a ≠ e) where
  mem := by simp
  obj := fun i h st b hb => by
    obtain ⟨⟨old, he⟩, ⟨o, ho, hc, hd⟩, _⟩ := st
    have e' : b = e ∨ b = it := by simpa using hb
    rcases e' with z | z
    · rw [z]; exact ⟨_, he, fun v q => nomatch q⟩
    · rw [z]; exact ⟨o, ho, fun v q => by rw [hd] at q; cases q⟩
  keep := fun i h h' st k => let ⟨⟨old, he⟩, hi, hne⟩ := st; ⟨⟨old, k e (by simp) _ he⟩, hi.at fun o q => k it (by simp) o q, hne⟩
  item := by
    intro X hP hw hK hc i pins s σ H E I hf st hg
    subst hP hw hK
    obtain ⟨⟨old, he⟩, hit, hne, hai, hae⟩ := st
    obtain ⟨xs, x, hq, hx⟩ := hg
    obtain ⟨its, rv, p, hz⟩ := I.tuple hq
    obtain ⟨u, hu, ru⟩ := rv.get hx
    have hel : e < s.heap.objs.size := Heap.lt_size he
    have hil : it < s.heap.objs.size := by obtain ⟨_, q, _⟩ := hit; exact Heap.lt_size q
    have hlt : i < its.toArray.size := by
      have := (List.getElem?_eq_some_iff.mp hu).1
      simpa using this
    refine wpAny_pyNext_enum_itemD (Draws.tuple (A := X.A.in1) (I.ok.hd hc) it a hai its.toArray) he ⟨hit, show s.heap.IsTuple a its.toArray from p⟩ hlt hne (by simp; exact ⟨hne, Ne.symm hae⟩) fun x' h' tk hx' ho hit' hT hsz hk => ?_
    have ex' : x' = u := by
      have h1 : its.toArray[i]? = some x' := hx'
      have h2 : its.toArray[i]? = some u := by simpa using hu
      rw [h1] at h2
      exact Option.some.inj h2
    subst ex'
    refine ⟨_, rfl, wpAny_letOwnedTupleGo_enum (s := { s with heap := h', toks := tk + 1 }) ho fun h'' he' sb => ?_⟩
    have hT2 : h''.get? s.heap.objs.size = some { cls := .type "tuple", data := .seq #[.int i tk, x'] } := (sb.2 _ (Nat.ne_of_gt hel)).trans hT
    have new : ObjOk X.prog X.w (upd H s.heap.objs.size (.tup [.int (i : Nat), x])) h'' s.heap.objs.size (.tup [.int (i : Nat), x]) :=
      ⟨by show 2 ≤ sizeLine; decide, [.int i tk, x'], .cons ⟨_, rfl⟩ (.cons ru .nil), ⟨_, hT2, rfl, _, rfl⟩⟩
    have I1 : Inv X pins σ (upd H s.heap.objs.size (.tup [.int (i : Nat), x])) { s with heap := h'', toks := tk + 1 } :=
      I.turnedNew (ch := [e, it]) (fun b ob hb q => (sb.2 b (fun z => hb (by simp [z]))).trans (hk b ob (fun z => hb (by simp [z])) (fun z => hb (by simp [z])) q)) hf (Nat.le_refl _) new
    refine ⟨.ref s.heap.objs.size, _, I1, rfl, ⟨_, x, rfl, I.hok.fresh (Nat.le_refl _), rfl, fun ys hy => by rw [I.tuple_inj hy hq]; exact hx⟩, ⟨⟨x', ?_⟩, hit'.1.at fun o q => (sb.2 it (Ne.symm hne)).trans q, hne, hai, hae⟩, fun b hb => ?_⟩
    · have e1 : ((i + 1 : Nat) : Int) = (i : Int) + 1 := by omega
      rw [e1]; exact he'
    · have hb' : b < s.heap.objs.size := by
        have e' : b = e ∨ b = it := by simpa using hb
        rcases e' with z | z
        · rw [z]; exact hel
        · rw [z]; exact hil
      rw [upd_ne (Nat.ne_of_lt hb')]
      exact (hf b hb).1
  done := by
    intro X hP hw hK hc i pins s σ H E I hf st hg
    subst hP hw hK
    obtain ⟨⟨old, he⟩, hit, hne, hai, hae⟩ := st
    obtain ⟨xs, hq, hx⟩ := hg
    obtain ⟨its, rv, p, hz⟩ := I.tuple hq
    obtain ⟨f0, f1, f2, f3, f4, f5⟩ := hf it (by simp)
    have hl := rv.length
    have en : i = its.toArray.size := by simp; omega
    subst en
    exact wpAny_pyNext_enum_endD (Draws.tuple (A := X.A.in1) (I.ok.hd hc) it a hai its.toArray) he ⟨hit, show s.heap.IsTuple a its.toArray from p⟩ fun h' eb => ⟨rfl, I.turned (t' := s.toks) (fun b o hb q => eb b o hb q) f0 f1 f3 f4 f5⟩
  self := fun A i s Q E st h => let ⟨⟨_, he⟩, _⟩ := st; wpAny_pyIter_enum he h
def iEnumT (K : PySem.W.Frag) (ta : TA) : TI := fun σ H R => ta σ H fun vs H1 => ∃ a xs, vs = [.ref a] ∧ SqT K H1 a xs ∧ R (Itet K a) H1
theorem pi_enumT {X : Cx} {e : Expr} {ta : TA} {p pos tpos : Pos} {elts : List Expr} {kk : Nat} (hg : Gl X "enumerate") (hm : X.mg "enumerate" = none) (ha : PA X [e] ta) (hs : starEach [e] X.env = [(false, eval e X.env)] := by rfl) :
    PI X (.Tuple elts kk tpos) (.Call (.Name "enumerate" p) [e] [] pos) (iEnumT X.K ta) := by
  refine ⟨fun pins s σ H R I h => ?_⟩
  refine Call_ (ld_blt I hg hm boot_enumerate (PyProof.Rows.callWith_type1 (thn (ha.run pos pins s σ H _ I h) fun us s1 ⟨vs, H1, I1, r1, q1⟩ => ?_) hs rfl))
  obtain ⟨a, xs, ex, hq, q⟩ := q1
  subst ex
  cases r1 with
  | cons r rr =>
    cases rr
    cases r
    obtain ⟨its, rv, p', hz⟩ := I1.tuple hq
    have hL : s1.heap.IsTuple a its.toArray := p'
    have hal : a < s1.heap.objs.size := by obtain ⟨o, ho, _⟩ := hL; exact Heap.lt_size ho
    refine call_enumerate_tup hL fun h' he hit hsz hk => wpAny_pyIter_enum he ?_
    have I2 : Inv X pins σ H1 { s1 with heap := h' } := I1.kept (t' := s1.toks) hk
    refine ⟨s1.heap.objs.size + 1, [s1.heap.objs.size + 1, s1.heap.objs.size], _, _, H1, rfl, I2, turn_enumT a (s1.heap.objs.size + 1) s1.heap.objs.size, ⟨⟨.none, he⟩, hit, Nat.succ_ne_self _, Nat.ne_of_lt hal, Nat.ne_of_lt (Nat.lt_succ_of_lt hal)⟩, fun b hb => ?_, q⟩
    have e' : b = s1.heap.objs.size + 1 ∨ b = s1.heap.objs.size := by simpa using hb
    have hle : s1.heap.objs.size ≤ b := by
      rcases e' with z | z
      · rw [z]; exact Nat.le_succ _
      · rw [z]; exact Nat.le_refl _
    exact I1.fpOk hle (I1.hok.fresh hle)
theorem walk_enumT {K : PySem.W.Frag} {a : Addr} {xs : List V} : Walk (Itet K a) xs.length (fun H => SqT K H a xs) (YPair (fun i => some (.int (i : Nat))) (fun i => xs[i]?)) := by
  refine ⟨fun i _ hi q => ⟨xs, xs[i], q, by simp [hi]⟩, fun _ q => ⟨xs, q, rfl⟩, fun i H v H' _ q y => ?_⟩
  obtain ⟨T, x, h1, h2, h3, h4⟩ := y
  exact ⟨T, .int (i : Nat), x, h1, h2, h3, rfl, h4 xs q⟩
end Cb
namespace Cb
open PySem PySem.Spec PyProof.Rows L2
theorem hu_of {k : Nat} {A : Around} (r : Room k A) : A.units + 1 < cLine := by have := r.units; omega
/-! ### more relations, by name -/
section
variable {X : Cx}
def rStrI : List V → Hp → VK → Prop := fun xs H Q => ∃ i : Int, xs = [.int i] ∧ i.natAbs.log2 < 1920 ∧ Q (.str (toString i)) H
theorem call_strI : CallR X (.type "str") rStrI := call_str_int
def rLenDi : List V → Hp → VK → Prop := fun xs H Q => ∃ a kvs, xs = [V.ref a] ∧ H a = some (.dK kvs) ∧ Q (.int (kvs.length : Nat)) H
theorem call_lenDi : CallR X (.builtin "len") rLenDi := call_lenD
def rLenSt : List V → Hp → VK → Prop := fun xs H Q => ∃ z : Str, xs = [.str z] ∧ z.length ≤ sizeLine ∧ Q (.int (z.length : Nat)) H
theorem call_lenSt : CallR X (.builtin "len") rLenSt := call_len_str
def rIntS : List V → Hp → VK → Prop := fun xs H Q => ∃ a n, xs = [.str a] ∧ PySem.intText? a = some n ∧ a.length ≤ 640 ∧ Q (.int n) H
theorem call_intS : CallR X (.type "int") rIntS := call_int_str
def rAddS : R2 := fun x y H Q => ∃ i j, x = .str i ∧ y = .str j ∧ i.length + j.length ≤ sizeLine ∧ Q (.str (i ++ j)) H
theorem op_addS : OpR X (binaryOp .Add) rAddS := op_add_str
def rInSg : R2 := fun x y H Q => ∃ (c : Nat) (z : Str), x = .str ⟨#[c]⟩ ∧ y = .str z ∧ Q (.bl (decide (c ∈ z.cps.toList))) H
theorem op_inSg : OpR X (compareOp .In) rInSg := op_in_sign
def rNiSg : R2 := fun x y H Q => ∃ (c : Nat) (z : Str), x = .str ⟨#[c]⟩ ∧ y = .str z ∧ Q (.bl (!decide (c ∈ z.cps.toList))) H
theorem op_niSg : OpR X (compareOp .NotIn) rNiSg := op_notIn_sign
def rIsNn : R2 := fun x y H Q => y = .non ∧ Q (.bl (decide (x = .non))) H
theorem op_isNn : OpR X (compareOp .Is) rIsNn := op_isN
def rNoNn : R2 := fun x y H Q => y = .non ∧ Q (.bl (!decide (x = .non))) H
theorem op_noNn : OpR X (compareOp .IsNot) rNoNn := op_notN
def rMaxTwo : List V → Hp → VK → Prop := fun xs H Q => ∃ i j : Int, xs = [.int i, .int j] ∧ Q (.int (if j > i then j else i)) H
theorem call_maxTwo (hc : X.calm = true) : CallR X (.builtin "max") rMaxTwo := call_max2 hc
def rMinTwo : List V → Hp → VK → Prop := fun xs H Q => ∃ i j : Int, xs = [.int i, .int j] ∧ Q (.int (if j < i then j else i)) H
theorem call_minTwo (hc : X.calm = true) : CallR X (.builtin "min") rMinTwo := call_min2 hc
def rSplit : V → List V → Hp → VK → Prop := fun x xs H Q => ∃ a b, x = .str a ∧ xs = [.str b] ∧ (b.length == 0) = false ∧ a.length + 2 ≤ sizeLine ∧ rNewStrs (Txt.split a b) H Q
theorem pe_splitR {o e : Expr} {to te : TE} {apos pos : Pos} (ho : PE X o to) (he : PE X e te) (hs : starEach [e] X.env = [(false, eval e X.env)] := by rfl) (hbase : attributeBase o "split" X.env (eval o X.env) = eval o X.env := by rfl) (hline : (apos.endLine == pos.line) = true := by rfl) :
    PE X (.Call (.Attribute o "split" apos) [e] [] pos) (tM1 rSplit to te) := pe_split ho he hs hbase hline
def rInsert : V → List V → Hp → VK → Prop := fun x vs H Q => ∃ (l : Addr) (xs : List V) (i : Int) (y : V), x = .ref l ∧ vs = [.int i, y] ∧ H l = some (.lst xs) ∧ xs.length < sizeLine ∧ 0 ≤ i ∧ i < 2 ^ 63 ∧
  Q .non (upd H l (.lst (xs.take i.toNat ++ y :: xs.drop i.toNat)))
theorem mt_insertR {X : Cx} : MtR X "list.insert" rInsert := fun pins s σ H x xs v us Q I rx rxs h => mt_insert pins s σ H x xs v us Q I rx rxs (by
  obtain ⟨l, ys, i, y, h1, h2, h3, h4, h5, h6, h7⟩ := h
  exact ⟨l, ys, i, y, h1, h2, h3, h4, h5, h6, by rw [List.append_assoc]; exact h7⟩)
end
section
variable {σ : L2.St} {H : Hp} {Q : VK} {D : Ends} {te ta tb tc td ty tx tk tv to : TE} {t u : TS} {tt : TT} {tr : TA} {v y z : V} {i j : Int} {K : PySem.W.Frag}
theorem x_strN {n : Nat} (h : n < 9223372036854775808) (q : Q (.str (SX.S (TL.numL n))) H) : rStrI [.int (n : Nat)] H Q := by
  refine ⟨(n : Nat), rfl, ?_, ?_⟩
  · show ((n : Int).natAbs).log2 < 1920
    rw [Int.natAbs_natCast]
    rcases Nat.eq_zero_or_pos n with e | e
    · subst e; decide
    · exact Nat.lt_of_lt_of_le ((Nat.log2_lt (k := 63) (by omega)).mpr h) (by decide)
  · have e : (toString ((n : Nat) : Int) : Str) = SX.S (TL.numL n) := SX.num_S n
    rw [e]
    exact q
theorem x_lenDi {a : Addr} {kvs : List (Key × V)} (e : H a = some (.dK kvs)) (h : Q (.int (kvs.length : Nat)) H) : rLenDi [.ref a] H Q := ⟨a, kvs, rfl, e, h⟩
theorem x_lenSt {z : Str} (l : z.length ≤ sizeLine) (h : Q (.int (z.length : Nat)) H) : rLenSt [.str z] H Q := ⟨z, rfl, l, h⟩
theorem x_intS {a : Str} {n : Int} (e : PySem.intText? a = some n) (l : a.length ≤ 640) (h : Q (.int n) H) : rIntS [.str a] H Q := ⟨a, n, rfl, e, l, h⟩
theorem x_addS {a b : Str} (l : a.length + b.length ≤ sizeLine) (h : Q (.str (a ++ b)) H) : rAddS (.str a) (.str b) H Q := ⟨a, b, rfl, rfl, l, h⟩
theorem x_inSg {c : Nat} {z : Str} (h : Q (.bl (decide (c ∈ z.cps.toList))) H) : rInSg (.str ⟨#[c]⟩) (.str z) H Q := ⟨c, z, rfl, rfl, h⟩
theorem x_niSg {c : Nat} {z : Str} (h : Q (.bl (!decide (c ∈ z.cps.toList))) H) : rNiSg (.str ⟨#[c]⟩) (.str z) H Q := ⟨c, z, rfl, rfl, h⟩
theorem x_isNn (h : Q (.bl (decide (v = .non))) H) : rIsNn v .non H Q := ⟨rfl, h⟩
theorem x_noNn (h : Q (.bl (!decide (v = .non))) H) : rNoNn v .non H Q := ⟨rfl, h⟩
theorem x_dictOf {a : Addr} {kvs : List (Key × V)} (e : H a = some (.dK kvs)) (h : ∀ p, H p = none → Q (.ref p) (upd H p (.dK kvs))) : rDictOf [.ref a] H Q := ⟨a, kvs, rfl, .inl e, h⟩
theorem x_maxTwo (h : Q (.int (if j > i then j else i)) H) : rMaxTwo [.int i, .int j] H Q := ⟨i, j, rfl, h⟩
theorem x_minTwo (h : Q (.int (if j < i then j else i)) H) : rMinTwo [.int i, .int j] H Q := ⟨i, j, rfl, h⟩
theorem x_gcd (h : Q (.int ((Nat.gcd i.natAbs j.natAbs : Nat) : Int)) H) : rGcd [.int i, .int j] H Q := ⟨i, j, rfl, h⟩
theorem x_tupL {p : Addr} {xs : List V} (s : SqL K H p xs) (h : ∀ q, H q = none → Q (.ref q) (upd H q (.tup xs))) : rTupOf K [.ref p] H Q := ⟨p, rfl, .inl ⟨xs, s, h⟩⟩
theorem x_tupT {p : Addr} {xs : List V} (s : SqT K H p xs) (h : Q (.ref p) H) : rTupOf K [.ref p] H Q := ⟨p, rfl, .inr (.inl ⟨xs, s, h⟩)⟩
theorem x_tupD {p : Addr} {kvs : List (Key × V)} (e : H p = some (.dK kvs)) (h : ∀ q, H q = none → Q (.ref q) (upd H q (.tup (kvs.map fun kv => kV kv.1)))) : rTupOf K [.ref p] H Q := ⟨p, rfl, .inr (.inr ⟨kvs, e, h⟩)⟩
theorem x_listT {p : Addr} {xs : List V} (s : SqT K H p xs) (h : ∀ l, H l = none → Q (.ref l) (upd H l (.lst xs))) : rListS K [.ref p] H Q := ⟨p, xs, rfl, .inr s, h⟩
theorem x_vals {d : Addr} {kvs : List (Key × V)} (e : H d = some (.dK kvs)) (h : ∀ p, H p = none → Q (.ref p) (upd H p (.lst (kvs.map (·.2))))) : rVals (.ref d) H Q := ⟨d, kvs, rfl, e, h⟩
theorem x_listVals (h : te σ H fun x H1 => rVals x H1 Q) : tListVals te σ H Q := h
theorem x_all {a : Addr} {bs : List Bool} (s : SqL K H a (bs.map V.bl)) (h : Q (.bl (bs.all id)) H) : rAll K [.ref a] H Q := ⟨a, bs, rfl, s, h⟩
theorem x_max {a : Addr} {ns : List Int} (s : SqL K H a (ns.map V.int)) (l : 0 < ns.length) (h : ∀ m, m ∈ ns → (∀ y, y ∈ ns → y ≤ m) → Q (.int m) H) : rMax K [.ref a] H Q := ⟨a, ns, rfl, s, l, h⟩
theorem x_cat {p q : Addr} {xs ys : List V} (e1 : H p = some (.lst xs)) (e2 : H q = some (.lst ys)) (l : xs.length + ys.length ≤ sizeLine) (h : ∀ r, H r = none → Q (.ref r) (upd H r (.lst (xs ++ ys)))) : rCat (.ref p) (.ref q) H Q := ⟨p, q, xs, ys, rfl, rfl, e1, e2, l, h⟩
theorem x_rep {p : Addr} {xs : List V} (e1 : H p = some (.lst xs)) (h1 : -(2 ^ 63) ≤ i) (h2 : i < 2 ^ 63) (l : xs.length * i.toNat ≤ sizeLine) (h : ∀ r, H r = none → Q (.ref r) (upd H r (.lst (List.replicate i.toNat xs).flatten))) : rRep (.ref p) (.int i) H Q := ⟨p, i, xs, rfl, rfl, e1, h1, h2, l, h⟩
theorem x_popAt {p : Addr} {xs : List V} {k : Nat} {y : V} (e1 : H p = some (.lst xs)) (hk : xs[k]? = some y) (hl : xs.length < 4611686018427387904) (h : Q y (upd H p (.lst (xs.eraseIdx k)))) : rPopAt (.ref p) [.int (k : Nat)] H Q := by
  have hkl : k < xs.length := (List.getElem?_eq_some_iff.mp hk).1
  refine ⟨p, xs, (k : Nat), k, y, rfl, rfl, e1, by omega, by omega, ?_, hk, h⟩
  unfold seqIndex?
  have h0 : ¬ ((k : Nat) : Int) < 0 := by omega
  simp only [if_neg h0]
  have h1 : (decide ((0 : Int) ≤ (k : Nat)) && decide (((k : Nat) : Int) < (xs.length : Nat))) = true := by
    rw [decide_eq_true (by omega), decide_eq_true (by omega)]
    rfl
  rw [if_pos h1]
  rfl
theorem x_insert {p : Addr} {xs : List V} {k : Nat} {y : V} (e1 : H p = some (.lst xs)) (hl : xs.length < sizeLine) (hk : k < 4611686018427387904) (h : Q .non (upd H p (.lst (xs.take k ++ y :: xs.drop k)))) : rInsert (.ref p) [.int (k : Nat), y] H Q := ⟨p, xs, (k : Nat), y, rfl, rfl, e1, hl, by omega, by omega, by rw [Int.toNat_natCast]; exact h⟩
theorem x_index {p : Addr} {xs : List V} {k : Nat} {y z : V} (s : SqL K H p xs) (fy : flatV y = true) (fx : xs.all flatV = true) (hk : xs[k]? = some z) (he : eqV z y = true) (hn : ∀ (m : Nat) (z' : V), m < k → xs[m]? = some z' → eqV z' y = false) (h : Q (.int (k : Nat)) H) : rIndex K (.ref p) [y] H Q := ⟨p, xs, y, k, z, rfl, rfl, s, fy, fx, hk, he, hn, h⟩
theorem x_indexF {p : Addr} {xs : List V} {k i : Nat} {y z : V} (s : SqL K H p xs) (fy : flatV y = true) (fx : xs.all flatV = true) (hik : i ≤ k) (hk : xs[k]? = some z) (he : eqV z y = true) (hn : ∀ (m : Nat) (z' : V), i ≤ m → m < k → xs[m]? = some z' → eqV z' y = false) (h : Q (.int (k : Nat)) H) : rIndexFrom K (.ref p) [y, .int (i : Nat)] H Q := ⟨p, xs, y, i, k, z, rfl, rfl, s, fy, fx, hik, hk, he, hn, h⟩
/-! #### dicts -/
def rDGet (x y : V) (H : Hp) (Q : VK) : Prop := ∃ a v, x = .ref a ∧ DGet H a y (some v) ∧ Q v H
def rDIn (y x : V) (H : Hp) (Q : VK) : Prop := ∃ a o, x = .ref a ∧ DGet H a y o ∧ Q (.bl o.isSome) H
def rDNi (y x : V) (H : Hp) (Q : VK) : Prop := ∃ a o, x = .ref a ∧ DGet H a y o ∧ Q (.bl (!o.isSome)) H
theorem x_dget (h : td σ H fun x H1 => ty σ H1 fun y H2 => rDGet x y H2 Q) : tDGet td ty σ H Q := h
theorem x_din (h : ty σ H fun y H1 => td σ H1 fun x H2 => rDIn y x H2 Q) : tDIn ty td σ H Q := h
theorem x_dni (h : ty σ H fun y H1 => td σ H1 fun x H2 => rDNi y x H2 Q) : tDNotIn ty td σ H Q := h
theorem x_dgetS {a : Addr} {kvs : List (Key × V)} {s : Str} (e : Rd H a (.dK kvs)) (g : valV kvs (.inr s) = some v) (h : Q v H) : rDGet (.ref a) (.str s) H Q := ⟨a, v, rfl, .inl ⟨kvs, .inr s, e, rfl, g.symm⟩, h⟩
theorem x_dinS {a : Addr} {kvs : List (Key × V)} {s : Str} {o : Option V} (e : Rd H a (.dK kvs)) (g : valV kvs (.inr s) = o) (h : Q (.bl o.isSome) H) : rDIn (.str s) (.ref a) H Q := ⟨a, o, rfl, .inl ⟨kvs, .inr s, e, rfl, g.symm⟩, h⟩
theorem x_dniS {a : Addr} {kvs : List (Key × V)} {s : Str} {o : Option V} (e : Rd H a (.dK kvs)) (g : valV kvs (.inr s) = o) (h : Q (.bl (!o.isSome)) H) : rDNi (.str s) (.ref a) H Q := ⟨a, o, rfl, .inl ⟨kvs, .inr s, e, rfl, g.symm⟩, h⟩
def rDPut (D : Ends) (σ : L2.St) (v x y : V) (H : Hp) : Prop := ∃ a H4, x = .ref a ∧ DPut H a y v H4 ∧ D.nx σ H4
theorem x_dput (h : tv σ H fun v H1 => td σ H1 fun x H2 => ty σ H2 fun y H3 => rDPut D σ v x y H3) : sDPut td ty tv D σ H := h
theorem x_dputS {a : Addr} {kvs : List (Key × V)} {s : Str} (e : H a = some (.dK kvs)) (l : kvs.length < sizeLine) (h : D.nx σ (upd H a (.dK (putK kvs (.inr s) v)))) : rDPut D σ v (.ref a) (.str s) H := ⟨a, _, rfl, DPut.k (k := .inr s) e l, h⟩
theorem x_dnew (h : ∀ p, H p = none → Q (.ref p) (upd H p (.dK []))) : tDNewK σ H Q := h
def rDG3 (a : Addr) (y z : V) (H : Hp) (Q : VK) : Prop := ∃ o : Option V, DGet H a y o ∧ Q (o.getD z) H
def rDG2 (ty tx : TE) (σ : L2.St) (x : V) (H : Hp) (Q : VK) : Prop := ∃ a, x = .ref a ∧ IsD H a ∧ ty σ H fun y H2 => tx σ H2 fun z H3 => rDG3 a y z H3 Q
theorem x_dget2 (h : td σ H fun x H1 => rDG2 ty tx σ x H1 Q) : tDGet2 td ty tx σ H Q := h
theorem x_dg2 {a : Addr} {kvs : List (Key × V)} (e : Rd H a (.dK kvs)) (h : ty σ H fun y H2 => tx σ H2 fun z H3 => rDG3 a y z H3 Q) : rDG2 ty tx σ (.ref a) H Q := ⟨a, rfl, .inl ⟨kvs, e⟩, h⟩
theorem x_dg2S {a : Addr} {kvs : List (Key × V)} {s : Str} {d : V} (e : Rd H a (.dK kvs)) (h : Q ((valV kvs (.inr s)).getD d) H) : rDG3 a (.str s) d H Q := ⟨_, .inl ⟨kvs, .inr s, e, rfl, rfl⟩, h⟩
theorem x_iteS {α : Type} {x : α} {A B : Prop} (h : A) : if (some x).isSome = true then A else B := iteT h
theorem x_iteO {α : Type} {A B : Prop} (h : B) : if (none : Option α).isSome = true then A else B := iteF h
theorem x_iteNS {α : Type} {x : α} {A B : Prop} (h : B) : if (!(some x).isSome) = true then A else B := iteF h
theorem x_iteNO {α : Type} {A B : Prop} (h : A) : if (!(none : Option α).isSome) = true then A else B := iteT h
/-! #### instances -/
def rFld (K : PySem.W.Frag) (f : Str) (x : V) (H : Hp) (Q : VK) : Prop := ∃ a C dx fs v, x = .ref a ∧ H a = some (.ins C dx fs) ∧ Cls K C ∧ NoAttr K C f ∧ fs.lookup f = some v ∧ Q v H
theorem x_fldR {f : Str} (h : ta σ H fun x H1 => rFld K f x H1 Q) : tFld K ta f σ H Q := h
theorem x_fldI {f : Str} {a C dx : Addr} {fs : List (Str × V)} (e : H a = some (.ins C dx fs)) (c : Cls K C) (n : NoAttr K C f) (l : fs.lookup f = some v) (h : Q v H) : rFld K f (.ref a) H Q := ⟨a, C, dx, fs, v, rfl, e, c, n, l, h⟩
def rSFld (K : PySem.W.Frag) (f : Str) (D : Ends) (σ : L2.St) (y x : V) (H : Hp) : Prop := ∃ a C dx fs, x = .ref a ∧ H a = some (.ins C dx fs) ∧ Cls K C ∧ NoAttr K C f ∧ fs.length < 1000 ∧ D.nx σ (upd H a (.ins C dx (putF f y fs)))
theorem x_sfld {f : Str} (h : tv σ H fun y H1 => ta σ H1 fun x H2 => rSFld K f D σ y x H2) : sFld K ta tv f D σ H := h
theorem x_sfldI {f : Str} {a C dx : Addr} {fs fs' : List (Str × V)} (e : H a = some (.ins C dx fs)) (c : Cls K C) (n : NoAttr K C f) (p : putF f y fs = fs') (l : fs.length < 1000) (h : D.nx σ (upd H a (.ins C dx fs'))) : rSFld K f D σ y (.ref a) H := ⟨a, C, dx, fs, rfl, e, c, n, l, by rw [p]; exact h⟩
def rMeth (C : Addr) (m : Str) (sp : Sp) (dvs : List V) (E : XK) (t : TA) (σ : L2.St) (x : V) (H : Hp) (Q : VK) : Prop := ∃ a dx fs, x = .ref a ∧ H a = some (.ins C dx fs) ∧ fs.lookup m = none ∧ t σ H fun vs H2 => sp (x :: (vs ++ dvs)) H2 Q E
theorem x_meth {C : Addr} {m : Str} {sp : Sp} {dvs : List V} {E : XK} (h : ta σ H fun x H1 => rMeth C m sp dvs E tr σ x H1 Q) : tMeth C m sp dvs E ta tr σ H Q := h
theorem x_methI {C a dx : Addr} {m : Str} {sp : Sp} {dvs : List V} {E : XK} {fs : List (Str × V)} (e : H a = some (.ins C dx fs)) (l : fs.lookup m = none) (h : tr σ H fun vs H2 => sp (.ref a :: (vs ++ dvs)) H2 Q E) : rMeth C m sp dvs E tr σ (.ref a) H Q := ⟨a, dx, fs, rfl, e, l, h⟩
theorem x_make {C : Addr} {sp : Sp} {dvs : List V} {E : XK} (h : tr σ H fun vs H1 => ∀ x dx, H1 x = none → H1 dx = none → dx ≠ x → sp (.ref x :: (vs ++ dvs)) (upd (upd H1 dx (.own x)) x (.ins C dx [])) (fun v H2 => v = .non ∧ Q (.ref x) H2) E) : tMake C sp dvs E tr σ H Q := h
/-! #### the same rules, K told: within a comprehension -/
theorem pe_fldK {X : Cx} {K : PySem.W.Frag} {e : Expr} {f : Str} {pos : Pos} {ta : TE} (hK : X.K = K) (he : PE X e ta) (hb : attributeBase e f X.env (eval e X.env) = eval e X.env) : PE X (.Attribute e f pos) (tFld K ta f) := by
  subst hK
  exact pe_fld he hb
theorem ix_listK {X : Cx} {K : PySem.W.Frag} (hK : X.K = K) : IxR X (rIxL K) := by
  subst hK
  exact ix_list
theorem ix_tupK {X : Cx} {K : PySem.W.Frag} (hK : X.K = K) : IxR X (rIxT K) := by
  subst hK
  exact ix_tup
theorem callLenSK {X : Cx} {K : PySem.W.Frag} (hK : X.K = K) : CallR X (.builtin "len") (rLenS K) := by
  subst hK
  exact callLenS
theorem op_inSeqK {X : Cx} {K : PySem.W.Frag} (hK : X.K = K) : OpR X (compareOp .In) (rIn K false) := by
  subst hK
  exact op_in_seq
theorem op_niSeqK {X : Cx} {K : PySem.W.Frag} (hK : X.K = K) : OpR X (compareOp .NotIn) (rIn K true) := by
  subst hK
  exact op_notIn_seq
theorem call_isiKK {X : Cx} {K : PySem.W.Frag} (hK : X.K = K) : CallR X (.builtin "isinstance") (rIsi K) := by
  subst hK
  exact call_isi
/-! #### targets -/
theorem x_gtup {a : Addr} {xs : List V} {n : Nat} {ts : TGs} {R : L2.St → Hp → Prop} (s : SqT K H a xs) (l : xs.length = n) (h : ts xs σ H R) : gTup K n ts (.ref a) σ H R := ⟨a, xs, rfl, s, l, h⟩
theorem x_gunl {a : Addr} {xs : List V} {n : Nat} {ts : TGs} {R : L2.St → Hp → Prop} (s : SqL K H a xs) (l : xs.length = n) (h : ts xs σ H R) : gUnl K n ts (.ref a) σ H R := ⟨a, xs, rfl, s, l, h⟩
theorem x_gcons {tg : TG} {ts : TGs} {r : List V} {R : L2.St → Hp → Prop} (h : tg v σ H fun σ' H' => ts r σ' H' R) : gCons tg ts (v :: r) σ H R := ⟨v, r, rfl, h⟩
theorem x_gnil {R : L2.St → Hp → Prop} (h : R σ H) : gNil [] σ H R := ⟨rfl, h⟩
/-! #### a text's methods -/
def rStrM (r : V → List V → Hp → VK → Prop) (x : V) (xs : List V) (H : Hp) (Q : VK) : Prop := r x xs H Q
theorem x_split {a b : Str} (hb : (b.length == 0) = false) (hl : a.length + 2 ≤ sizeLine) (h : ∀ p, H p = none → Q (.ref p) (upd H p (.lst ((Txt.split a b).map V.str)))) : rSplit (.str a) [.str b] H Q := ⟨a, b, rfl, rfl, hb, hl, h⟩
theorem x_tM1 {r : V → List V → Hp → VK → Prop} (h : to σ H fun x H1 => (∃ a, x = .str a) ∧ te σ H1 fun y H2 => r x [y] H2 Q) : tM1 r to te σ H Q := h
theorem x_isS {z : Str} {R : Prop} (h : R) : (∃ a, V.str z = .str a) ∧ R := ⟨⟨z, rfl⟩, h⟩
end
/-! ### texts: a sign, a part, sign by sign -/
section
variable {σ : L2.St} {H : Hp} {Q : VK} {tx te : TE} {tt : TT} {g : TG} {vs : List Nat} {i : Int}
theorem x_ixS {l : List Nat} {c : Nat} (hl : l.length ≤ sizeLine) (a : atI l i = some c) (h : Q (.str ⟨#[c]⟩) H) : rIxS (.str (SX.S l)) (.int i) H Q := ⟨SX.S l, i, c, rfl, rfl, by rw [SX.S_len]; exact hl, a, h⟩
theorem x_slS {z : Str} {lo hi : Option Int} (l : z.length ≤ sizeLine) (h : Q (.str (Txt.slice z lo hi)) H) : rSlS (.str z) lo hi H Q := ⟨z, rfl, l, by rw [C8.cutS_slice]; exact h⟩
def rLcStr (g : TG) (tt : TT) (te : TE) (vs : List Nat) (σ : L2.St) (x : V) (H : Hp) (Q : VK) : Prop := ∃ z, x = .str z ∧ ∀ p, H p = none → ∃ W : Nat → Nat → Hp → Prop, (∃ m, W 0 m (upd H p (.lst []))) ∧ ∀ k l H, W k l H → ((Its z).stop k H ∧ Q (.ref p) H) ∨ ((Its z).go k H ∧ ∃ Nx : Hp → Prop, (∀ H', Nx H' → ∃ m', m' < l ∧ W (k + 1) m' H') ∧ ∀ x H', (Its z).yld k H x H' → g x (wipe σ vs) H' fun σ2 H2 => wipe σ2 vs = wipe σ vs ∧ tt σ2 H2 fun b H3 => if b = true then te σ2 H3 fun y H4 => ∃ acc, H4 p = some (.lst acc) ∧ acc.length < sizeLine ∧ Nx (upd H4 p (.lst (acc ++ [y]))) else Nx H3)
theorem x_lcStr (h : tx σ H fun x H1 => rLcStr g tt te vs σ x H1 Q) : tLc (iStr tx) g tt te vs σ H Q := h
theorem w_lcStr {l : List Nat} (hz : l.length < sizeLine) (Iv : Nat → List V → Prop) (I0 : Iv 0 [])
    (turn : ∀ i c H' acc, l[i]? = some c → Same H H' → Iv i acc → acc.length ≤ i → ∀ (R : VK) (S : Hp → Prop), (∀ y H4, Same H' H4 → Iv (i + 1) (acc ++ [y]) → R y H4) → (∀ H3, Same H' H3 → Iv (i + 1) acc → S H3) →
      g (.str ⟨#[c]⟩) (wipe σ vs) H' fun σ2 H2 => wipe σ2 vs = wipe σ vs ∧ tt σ2 H2 fun b H3 => if b = true then te σ2 H3 R else S H3)
    (done : ∀ p H' acc, H p = none → Same H H' → H' p = some (.lst acc) → Iv l.length acc → Q (.ref p) H') : rLcStr g tt te vs σ (.str (SX.S l)) H Q := by
  refine ⟨SX.S l, rfl, fun p hp => ?_⟩
  have hs : (SX.S l).cps.size = l.length := by simp [SX.S]
  refine lc_it walk_str (fun i H' => ∃ acc, Same H H' ∧ H' p = some (.lst acc) ∧ Iv i acc ∧ acc.length ≤ i) ⟨[], Same.new hp, upd_same, I0, Nat.le_refl _⟩ (fun _ _ _ _ => True.intro) ?_ ?_
  · rintro i x H0 H' hi ⟨acc, s', hd', iv, hl⟩ ⟨rfl, c, e, rfl⟩
    have e' : l[i]? = some c := by simpa [SX.S] using e
    refine turn i c H' acc e' s' iv hl _ _ (fun y H4 q iv' => ?_) fun H3 q iv' => ?_
    · exact ⟨acc, q _ _ hd', by omega, acc ++ [y], Same.mut (Same.trans s' q) hp, upd_same, iv', by rw [List.length_append, List.length_singleton]; omega⟩
    · exact ⟨acc, Same.trans s' q, q _ _ hd', iv', by omega⟩
  · rintro H' ⟨acc, s', hd', iv, _⟩
    rw [hs] at iv
    exact done p H' acc hp s' hd' iv
end
/-! ### isinstance of ints and texts -/
section
variable {H : Hp} {Q : VK} {i : Int} {z : Str} {K : PySem.W.Frag}
theorem x_isII (h : Q (.bl true) H) : rIsi K [.int i, .ty "int"] H Q := x_isTy (.int _) (kit_ty (by decide +kernel)) h
theorem x_isIB (h : Q (.bl false) H) : rIsi K [.int i, .ty "bool"] H Q := x_isTy (.int _) (kit_ty (by decide +kernel)) h
theorem x_isIL (h : Q (.bl false) H) : rIsi K [.int i, .ty "list"] H Q := x_isTy (.int _) (kit_ty (by decide +kernel)) h
theorem x_isIT (h : Q (.bl false) H) : rIsi K [.int i, .ty "tuple"] H Q := x_isTy (.int _) (kit_ty (by decide +kernel)) h
theorem x_isID (h : Q (.bl false) H) : rIsi K [.int i, .ty "dict"] H Q := x_isTy (.int _) (kit_ty (by decide +kernel)) h
theorem x_isIS (h : Q (.bl false) H) : rIsi K [.int i, .ty "str"] H Q := x_isTy (.int _) (kit_ty (by decide +kernel)) h
theorem x_isSS (h : Q (.bl true) H) : rIsi K [.str z, .ty "str"] H Q := x_isTy (.str _) (kit_ty (by decide +kernel)) h
end
/-- all but b and c is as it was -/
def Kq (b c : Addr) (H H' : Hp) : Prop := ∀ a o, a ≠ b → a ≠ c → H a = some o → H' a = some o
theorem Kq.refl {b c : Addr} {H : Hp} : Kq b c H H := fun _ _ _ _ h => h
theorem Kq.of {b c : Addr} {H H' : Hp} (s : Same H H') : Kq b c H H' := fun a o _ _ h => s a o h
theorem Kq.of1 {b c : Addr} {H H' : Hp} (s : Kp b H H') : Kq b c H H' := fun a o n _ h => s a o n h
theorem Kq.of2 {b c : Addr} {H H' : Hp} (s : Kp c H H') : Kq b c H H' := fun a o _ n h => s a o n h
theorem Kq.trans {b c : Addr} {H H1 H2 : Hp} (x : Kq b c H H1) (y : Kq b c H1 H2) : Kq b c H H2 := fun a o n m h => y a o n m (x a o n m h)
theorem Kq.get {b c : Addr} {H H' : Hp} {a : Addr} {u : HO} (s : Kq b c H H') (n : a ≠ b) (m : a ≠ c) (h : H a = some u) : H' a = some u := s a u n m h
theorem Kq.swap {b c : Addr} {H H' : Hp} (s : Kq b c H H') : Kq c b H H' := fun a o n m h => s a o m n h
/-- both new: nothing that was is changed -/
theorem Kq.new {b c : Addr} {H0 H H' : Hp} (s : Kq b c H H') (s0 : Same H0 H) (hb : H0 b = none) (hc : H0 c = none) : Same H0 H' := fun a o h => s a o (ne_of_none h hb) (ne_of_none h hc) (s0 a o h)
/-- one of them new -/
theorem Kq.new2 {b c : Addr} {H0 H H' : Hp} (s : Kq b c H H') (s0 : Kp b H0 H) (hc : H0 c = none) : Kp b H0 H' := fun a o n h => s a o n (ne_of_none h hc) (s0 a o n h)
theorem Kq.upd1 {b c : Addr} {H H' : Hp} {o : HO} (k : Kq b c H H') : Kq b c H (upd H' b o) := fun a u n m e => by
  rw [upd_ne n]
  exact k a u n m e
theorem Kq.upd2 {b c : Addr} {H H' : Hp} {o : HO} (k : Kq b c H H') : Kq b c H (upd H' c o) := fun a u n m e => by
  rw [upd_ne m]
  exact k a u n m e
theorem Kp.new {b : Addr} {H0 H H' : Hp} (s : Kp b H H') (s0 : Same H0 H) (hb : H0 b = none) : Same H0 H' := fun a o h => s a o (ne_of_none h hb) (s0 a o h)
theorem Kp.sqt_i {K : PySem.W.Frag} {H H' : Hp} {a w C dx : Addr} {fs : List (Str × V)} {xs : List V} (k : Kp a H H') (ha : H a = some (.ins C dx fs)) (h : SqT K H w xs) : SqT K H' w xs := by
  rcases h with (h | ⟨o, h⟩) | h
  · exact .inl (.inl (k _ _ (fun e => by rw [e, ha] at h; cases h) h))
  · exact .inl (.inr ⟨o, k _ _ (fun e => by rw [e, ha] at h; cases h) h⟩)
  · exact .inr h
theorem Kp.sql_i {K : PySem.W.Frag} {H H' : Hp} {a w C dx : Addr} {fs : List (Str × V)} {xs : List V} (k : Kp a H H') (ha : H a = some (.ins C dx fs)) (h : SqL K H w xs) : SqL K H' w xs := by
  rcases h with (h | ⟨o, h⟩) | h
  · exact .inl (.inl (k _ _ (fun e => by rw [e, ha] at h; cases h) h))
  · exact .inl (.inr ⟨o, k _ _ (fun e => by rw [e, ha] at h; cases h) h⟩)
  · exact .inr h
theorem ne_of_some {H : Hp} {a b : Addr} {u v : HO} (h1 : H a = some u) (h2 : H b = some v) (n : u ≠ v) : a ≠ b := fun e => n (Option.some.inj (h1.symm.trans (by rw [e]; exact h2)))
/-! ### star calls -/
structure CalS (P : Program) (w : World) (K : PySem.W.Frag) (mg : Str → Option Value) (base : Heap) (k : Nat) (x : Str) (sp : Sp) : Prop where
  ex : ∃ f : Addr, FnR P w K mg base CX0 k f sp ∧ mg x = some (.ref f) ∧ PySem.W.keepIn K (.ref f) = true
theorem pe_cS {X : Cx} {k j : Nat} {x : Str} {p pos : Pos} {e : Expr} {es : List Expr} {t : TA} {sp : Sp} (c : CalS X.prog X.w X.K X.mg X.base k x sp) (hr : Room j X.A) (hk : k ≤ j) (hg : Gl X x) (ha : PA X (e :: es) t)
    (hdb : (x == ("__debug__" : Str)) = false := by decide) (he : starEach (e :: es) X.env = (false, eval e X.env) :: starEach es X.env := by rfl) (hst : (backTo pos (starEach es X.env)).any (·.1) = true := by rfl) :
    PE X (.Call (.Name x p) (e :: es) [] pos) (tCall sp [] E0 t) := by
  obtain ⟨f, F, hm, kp⟩ := c.ex
  have h := StX.pe_callS2 (E := E0) (p := p) F (hr.mono hk) kp hg hm pass0 ha hdb he hst
  refine ⟨fun pins s σ H Q I q => h.run pins s σ H Q I ?_⟩
  have q' : t σ H fun vs H1 => sp (vs ++ []) H1 Q E0 := q
  simpa only [List.append_nil] using q'
theorem x_pstar {σ : L2.St} {H : Hp} {te : TE} {t : TA} {K : PySem.W.Frag} {R : List V → Hp → Prop} (h : te σ H fun x H1 => ∃ p xs, x = V.ref p ∧ (SqT K H1 p xs ∨ SqL K H1 p xs) ∧ t σ H1 fun ys H2 => R (xs ++ ys) H2) : StX.tStar K te t σ H R := h
/-! ### walks: a list or a tuple; a tuple by places; a locked dict -/
def rForS (K : PySem.W.Frag) (g : TG) (tb : TS) (D : Ends) (σ : L2.St) (x : V) (H : Hp) : Prop := ∃ a, x = .ref a ∧ (((∃ xs, SqL K H a xs) ∧ ∃ W : Nat → Nat → L2.St → Hp → Prop, (∃ m, W 0 m σ H) ∧ ∀ i m σ H, W i m σ H → ((Itl K a).stop i H ∧ D.nx σ H) ∨ ((Itl K a).go i H ∧ ∃ N : L2.St → Hp → Prop, (∀ σ' H', N σ' H' → ∃ m', m' < m ∧ W (i + 1) m' σ' H') ∧ ∀ x H', (Itl K a).yld i H x H' → g x σ H' fun σ2 H2 => tb { D with nx := N, ct := N, bk := D.nx } σ2 H2)) ∨
  ((∃ xs, SqT K H a xs) ∧ ∃ W : Nat → Nat → L2.St → Hp → Prop, (∃ m, W 0 m σ H) ∧ ∀ i m σ H, W i m σ H → ((Itt K a).stop i H ∧ D.nx σ H) ∨ ((Itt K a).go i H ∧ ∃ N : L2.St → Hp → Prop, (∀ σ' H', N σ' H' → ∃ m', m' < m ∧ W (i + 1) m' σ' H') ∧ ∀ x H', (Itt K a).yld i H x H' → g x σ H' fun σ2 H2 => tb { D with nx := N, ct := N, bk := D.nx } σ2 H2)))
theorem Same.sqt {K : PySem.W.Frag} {H H' : Hp} {a : Addr} {xs : List V} (e : Same H H') (h : SqT K H a xs) : SqT K H' a xs := by
  rcases h with (h | ⟨o, h⟩) | h
  · exact .inl (.inl (e _ _ h))
  · exact .inl (.inr ⟨o, e _ _ h⟩)
  · exact .inr h
theorem SqA.same {K : PySem.W.Frag} {H H' : Hp} {a : Addr} {xs : List V} (h : SqA K H a xs) (s : Same H H') : SqA K H' a xs := h.elim (fun h => .inl (Same.sql s h)) fun h => .inr (Same.sqt s h)
section
variable {σ : L2.St} {H : Hp} {Q : VK} {D : Ends} {tx te td tk tv : TE} {ta : TA} {tt : TT} {K : PySem.W.Frag} {g : TG} {tb : TS} {vs : List Nat}
theorem x_forS (h : tx σ H fun x H1 => rForS K g tb D σ x H1) : tFor (iSeq K tx) g tb D σ H := h
theorem w_forS {H0 : Hp} {a : Addr} {xs : List V} (s : SqA K H0 a xs) (s0 : Same H0 H) (Pv : Nat → L2.St → Hp → Prop) (h0 : Pv 0 σ H) (hl : ∀ i σ H, Pv i σ H → Same H0 H)
    (hs : ∀ i x σ H, xs[i]? = some x → Pv i σ H → g x σ H fun σ2 H2 => tb { D with nx := Pv (i + 1), ct := Pv (i + 1), bk := D.nx } σ2 H2) (hd : ∀ σ H, Pv xs.length σ H → D.nx σ H) : rForS K g tb D σ (.ref a) H := by
  rcases s with s | s
  · exact ⟨a, rfl, .inl ⟨⟨xs, Same.sql s0 s⟩, for_list Pv h0 (fun i σ H _ p => Same.sql (hl i σ H p) s) hs hd⟩⟩
  · exact ⟨a, rfl, .inr ⟨⟨xs, Same.sqt s0 s⟩, for_tup Pv h0 (fun i σ H _ p => Same.sqt (hl i σ H p) s) hs hd⟩⟩
def rForE (K : PySem.W.Frag) (g : TG) (tb : TS) (D : Ends) (σ : L2.St) (us : List V) (H : Hp) : Prop := ∃ a xs, us = [.ref a] ∧ SqT K H a xs ∧ ∃ W : Nat → Nat → L2.St → Hp → Prop, (∃ m, W 0 m σ H) ∧ ∀ i m σ H, W i m σ H → ((Itet K a).stop i H ∧ D.nx σ H) ∨ ((Itet K a).go i H ∧ ∃ N : L2.St → Hp → Prop, (∀ σ' H', N σ' H' → ∃ m', m' < m ∧ W (i + 1) m' σ' H') ∧ ∀ x H', (Itet K a).yld i H x H' → g x σ H' fun σ2 H2 => tb { D with nx := N, ct := N, bk := D.nx } σ2 H2)
theorem x_forE (h : ta σ H fun us H1 => rForE K g tb D σ us H1) : tFor (iEnumT K ta) g tb D σ H := h
theorem w_forE {a : Addr} {xs : List V} (s : SqT K H a xs) (Pv : Nat → L2.St → Hp → Prop) (h0 : Pv 0 σ H) (hl : ∀ i σ H, Pv i σ H → SqT K H a xs)
    (hs : ∀ i x σ H T, xs[i]? = some x → Pv i σ H → H T = none → g (.ref T) σ (upd H T (.tup [.int (i : Nat), x])) fun σ2 H2 => tb { D with nx := Pv (i + 1), ct := Pv (i + 1), bk := D.nx } σ2 H2) (hd : ∀ σ H, Pv xs.length σ H → D.nx σ H) : rForE K g tb D σ [.ref a] H := by
  refine ⟨a, xs, rfl, s, for_it walk_enumT Pv h0 (fun i σ H _ p => hl i σ H p) ?_ hd⟩
  rintro i v σ H H' hi p ⟨T, x, y, rfl, hT, rfl, e1, e2⟩
  cases e1
  exact hs i y σ H T e2 p hT
/-- [e for x in a tuple if t] -/
theorem w_lcT {a : Addr} {xs : List V} (s : SqT K H a xs) (hz : xs.length < sizeLine) (Iv : Nat → List V → Prop) (I0 : Iv 0 [])
    (turn : ∀ i x H' acc, xs[i]? = some x → Same H H' → Iv i acc → acc.length ≤ i → ∀ (R : VK) (S : Hp → Prop), (∀ y H4, Same H' H4 → Iv (i + 1) (acc ++ [y]) → R y H4) → (∀ H3, Same H' H3 → Iv (i + 1) acc → S H3) →
      g x (wipe σ vs) H' fun σ2 H2 => wipe σ2 vs = wipe σ vs ∧ tt σ2 H2 fun b H3 => if b = true then te σ2 H3 R else S H3)
    (done : ∀ p H' acc, H p = none → Same H H' → H' p = some (.lst acc) → Iv xs.length acc → Q (.ref p) H') : rLcT K g tt te vs σ (.ref a) H Q := by
  refine ⟨a, rfl, ⟨xs, s⟩, fun p hp => ?_⟩
  refine lc_it walk_tup (fun i H' => ∃ acc, Same H H' ∧ H' p = some (.lst acc) ∧ Iv i acc ∧ acc.length ≤ i) ⟨[], Same.new hp, upd_same, I0, Nat.le_refl _⟩ (fun i H' _ ⟨acc, s', _⟩ => Same.sqt s' s) ?_ ?_
  · rintro i x H0 H' hi ⟨acc, s', hd', iv, hl⟩ ⟨rfl, e⟩
    refine turn i x H' acc e s' iv hl _ _ (fun y H4 q iv' => ?_) fun H3 q iv' => ?_
    · exact ⟨acc, q _ _ hd', by omega, acc ++ [y], Same.mut (Same.trans s' q) hp, upd_same, iv', by rw [List.length_append, List.length_singleton]; omega⟩
    · exact ⟨acc, Same.trans s' q, q _ _ hd', iv', by omega⟩
  · rintro H' ⟨acc, s', hd', iv, _⟩
    exact done p H' acc hp s' hd' iv
def lockD (d : Addr) (u : HO) (od : Obj) (D : Ends) : Ends := ⟨fun σ' H' => H' d = some (.frz od u) ∧ D.nx σ' (upd H' d u), fun v H' => H' d = some (.frz od u) ∧ D.rt v (upd H' d u), fun σ' H' => H' d = some (.frz od u) ∧ D.bk σ' (upd H' d u), fun σ' H' => H' d = some (.frz od u) ∧ D.ct σ' (upd H' d u)⟩
/-- for k in d: with d locked -/
theorem w_lockForK {d : Addr} {kvs : List (Key × V)} (hd : H d = some (.dK kvs)) (ht : ∀ od, td σ (upd H d (.frz od (.dK kvs))) fun x H1 => x = .ref d ∧ H1 = upd H d (.frz od (.dK kvs)))
    (mono : ∀ (H : Hp) (R R' : VK), (∀ v H, R v H → R' v H) → td σ H R → td σ H R') (Pv : Obj → Nat → L2.St → Hp → Prop) (h0 : ∀ od, Pv od 0 σ (upd H d (.frz od (.dK kvs)))) (hl : ∀ od i σ H', Pv od i σ H' → H' d = some (.frz od (.dK kvs)))
    (hs : ∀ od i k v σ H', kvs[i]? = some (k, v) → Pv od i σ H' → g (kV k) σ H' fun σ2 H2 => tb { lockD d (.dK kvs) od D with nx := Pv od (i + 1), ct := Pv od (i + 1), bk := (lockD d (.dK kvs) od D).nx } σ2 H2)
    (hn : ∀ od σ H', Pv od kvs.length σ H' → D.nx σ (upd H' d (.dK kvs))) : tLock (tFor (iKeys td) g tb) D σ H := by
  refine ⟨d, .dK kvs, hd, True.intro, fun od => ?_⟩
  refine mono _ _ _ ?_ (ht od)
  rintro x H1 ⟨rfl, rfl⟩
  refine ⟨d, od, rfl, .inl ⟨kvs, upd_same, ?_⟩⟩
  refine for_it (D := lockD d (.dK kvs) od D) walk_keys (Pv od) (h0 od) (fun i σ H _ p => hl od i σ H p) ?_ (fun σ H p => ⟨hl od _ σ H p, hn od σ H p⟩)
  rintro i x σ' H H' hi p ⟨rfl, k, v, e, rfl⟩
  exact hs od i k v σ' H' e p
/-- [e for k in d if t] with d locked -/
theorem w_lockLcK {d : Addr} {kvs : List (Key × V)} (hd : H d = some (.dK kvs)) (hz : kvs.length < sizeLine) (ht : ∀ od, td σ (upd H d (.frz od (.dK kvs))) fun x H1 => x = .ref d ∧ H1 = upd H d (.frz od (.dK kvs)))
    (mono : ∀ (H : Hp) (R R' : VK), (∀ v H, R v H → R' v H) → td σ H R → td σ H R') (Iv : Nat → List V → Prop) (I0 : Iv 0 [])
    (turn : ∀ od i k v H' acc, kvs[i]? = some (k, v) → Same (upd H d (.frz od (.dK kvs))) H' → Iv i acc → acc.length ≤ i → ∀ (R : VK) (S : Hp → Prop), (∀ y H4, Same H' H4 → Iv (i + 1) (acc ++ [y]) → R y H4) → (∀ H3, Same H' H3 → Iv (i + 1) acc → S H3) →
      g (kV k) (wipe σ vs) H' fun σ2 H2 => wipe σ2 vs = wipe σ vs ∧ tt σ2 H2 fun b H3 => if b = true then te σ2 H3 R else S H3)
    (done : ∀ p H' acc, H p = none → Same H H' → H' p = some (.lst acc) → Iv kvs.length acc → Q (.ref p) H') : tLockE (tLc (iKeys td) g tt te vs) σ H Q := by
  refine ⟨d, .dK kvs, hd, True.intro, fun od => ?_⟩
  refine mono _ _ _ ?_ (ht od)
  rintro x H1 ⟨rfl, rfl⟩
  refine ⟨d, od, rfl, .inl ⟨kvs, upd_same, fun p hp => ?_⟩⟩
  have hpd : p ≠ d := fun e => by rw [e, upd_same] at hp; cases hp
  refine lc_it walk_keys (fun i H' => ∃ acc, Same (upd H d (.frz od (.dK kvs))) H' ∧ H' p = some (.lst acc) ∧ Iv i acc ∧ acc.length ≤ i) ⟨[], Same.new hp, upd_same, I0, Nat.le_refl _⟩ (fun i H' _ ⟨acc, s, _⟩ => s _ _ upd_same) ?_ ?_
  · rintro i x H0 H' hi ⟨acc, s', hd', iv, hl⟩ ⟨rfl, k, v, e, rfl⟩
    refine turn od i k v H' acc e s' iv hl _ _ (fun y H4 q iv' => ?_) fun H3 q iv' => ?_
    · exact ⟨acc, q _ _ hd', by omega, acc ++ [y], Same.mut (Same.trans s' q) hp, upd_same, iv', by rw [List.length_append, List.length_singleton]; omega⟩
    · exact ⟨acc, Same.trans s' q, q _ _ hd', iv', by omega⟩
  · rintro H' ⟨acc, s', hd', iv, _⟩
    refine ⟨s' _ _ upd_same, done p _ acc (by rw [upd_ne hpd] at hp; exact hp) (fun a u ha => ?_) (by rw [upd_ne hpd]; exact hd') iv⟩
    by_cases hb : a = d
    · rw [hb] at ha ⊢
      rw [upd_same, ← ha, hd]
    · rw [upd_ne hb]
      exact s' _ _ (by rw [upd_ne hb]; exact ha)
/-- {k: v for x in a tuple} -/
def rDcT (K : PySem.W.Frag) (g : TG) (tt : TT) (tk tv : TE) (vs : List Nat) (σ : L2.St) (x : V) (H1 : Hp) (Q : VK) : Prop := ∃ a, x = .ref a ∧ (∃ xs, SqT K H1 a xs) ∧ ∀ D, H1 D = none → ∃ W : Nat → Nat → Hp → Prop, (∃ m, W 0 m (upd H1 D (.dK []))) ∧ ∀ i m H, W i m H →
  ((Itt K a).stop i H ∧ Q (.ref D) H) ∨ ((Itt K a).go i H ∧ ∃ Nx : Hp → Prop, (∀ H', Nx H' → ∃ m', m' < m ∧ W (i + 1) m' H') ∧ ∀ x H', (Itt K a).yld i H x H' → g x (wipe σ vs) H' fun σ2 H2 => wipe σ2 vs = wipe σ vs ∧ tt σ2 H2 fun b H3 =>
    if b = true then tk σ2 H3 fun y H4 => tv σ2 H4 fun z H5 => ∃ kvs k, y = kV k ∧ H5 D = some (.dK kvs) ∧ kvs.length < sizeLine ∧ Nx (upd H5 D (.dK (putK kvs k z))) else Nx H3)
theorem x_dcT (h : tx σ H fun x H1 => rDcT K g tt tk tv vs σ x H1 Q) : tDc (iTup K tx) g tt tk tv vs σ H Q := h
theorem w_dcT {a : Addr} {xs : List V} (s : SqT K H a xs) (hz : xs.length < sizeLine) (Iv : Nat → List (Key × V) → Prop) (I0 : Iv 0 [])
    (turn : ∀ i x H' acc, xs[i]? = some x → Same H H' → Iv i acc → acc.length ≤ i → ∀ (R : V → V → Hp → Prop) (S : Hp → Prop), (∀ k z H4, Same H' H4 → Iv (i + 1) (putK acc k z) → R (kV k) z H4) → (∀ H3, Same H' H3 → Iv (i + 1) acc → S H3) →
      g x (wipe σ vs) H' fun σ2 H2 => wipe σ2 vs = wipe σ vs ∧ tt σ2 H2 fun b H3 => if b = true then tk σ2 H3 fun y H4 => tv σ2 H4 fun z H5 => R y z H5 else S H3)
    (done : ∀ p H' acc, H p = none → Same H H' → H' p = some (.dK acc) → Iv xs.length acc → Q (.ref p) H') : rDcT K g tt tk tv vs σ (.ref a) H Q := by
  refine ⟨a, rfl, ⟨xs, s⟩, fun D hD => ?_⟩
  refine ⟨fun i m H' => m = xs.length - i ∧ i ≤ xs.length ∧ ∃ acc, Same H H' ∧ H' D = some (.dK acc) ∧ Iv i acc ∧ acc.length ≤ i, ⟨xs.length, by simp, Nat.zero_le _, [], Same.new hD, upd_same, I0, Nat.le_refl _⟩, ?_⟩
  rintro i m H' ⟨rfl, hi, acc, s', hd, iv, hl⟩
  have hq : SqT K H' a xs := Same.sqt s' s
  by_cases hlt : i < xs.length
  · refine .inr ⟨⟨xs, xs[i], hq, by simp [hlt]⟩, fun H2 => i + 1 ≤ xs.length ∧ ∃ acc, Same H H2 ∧ H2 D = some (.dK acc) ∧ Iv (i + 1) acc ∧ acc.length ≤ i + 1, fun H2 p => ⟨xs.length - (i + 1), by omega, rfl, p⟩, ?_⟩
    rintro x H2 ⟨rfl, y⟩
    refine turn i x H2 acc (y xs hq) s' iv hl (fun y z H5 => ∃ kvs k, y = kV k ∧ H5 D = some (.dK kvs) ∧ kvs.length < sizeLine ∧ (i + 1 ≤ xs.length ∧ ∃ acc, Same H (upd H5 D (.dK (putK kvs k z))) ∧ upd H5 D (.dK (putK kvs k z)) D = some (.dK acc) ∧ Iv (i + 1) acc ∧ acc.length ≤ i + 1)) _ (fun k z H4 q iv' => ?_) fun H3 q iv' => ?_
    · exact ⟨acc, k, rfl, q _ _ hd, by omega, hlt, _, Same.mut (Same.trans s' q) hD, upd_same, iv', Nat.le_trans (length_putK acc k z) (by omega)⟩
    · exact ⟨hlt, acc, Same.trans s' q, q _ _ hd, iv', by omega⟩
  · have e : i = xs.length := by omega
    subst e
    exact .inl ⟨⟨xs, hq, Nat.le_refl _⟩, done D H' acc hD s' hd iv⟩
end
end Cb
/-! ### further steps: masks, tables (comprehensions whose items are objects) -/
namespace Cb
open PySem PySem.Spec PyProof.Rows L2
section
variable {σ : L2.St} {H : Hp} {Q : VK} {D : Ends} {te ta tb tc : TE} {t u : TS} {tt : TT} {v : V} {i j : Int} {K : PySem.W.Frag} {g : TG} {vs : List Nat}
theorem pip_xor {X : Cx} : PIp X .BitXor (rI0 fun i j => .int (Builtin.bitXor i j)) := iop_xor
/-- a op1 b op2 c op3 d -/
def rCh2 (r' r'' : R2) (tc td : TE) (σ : L2.St) (y : V) (H3 : Hp) (Q : VK) : Prop := tc σ H3 fun z H4 => r' y z H4 fun q H5 => ∃ k, q = .bl k ∧ (if k = true then td σ H5 fun x' H6 => r'' z x' H6 Q else Q (.bl false) H5)
def tChain3 (r r' r'' : R2) (ta tb tc td : TE) : TE := fun σ H Q => ta σ H fun x H1 => tb σ H1 fun y H2 => r x y H2 fun z H3 => ∃ k, z = .bl k ∧ (if k = true then rCh2 r' r'' tc td σ y H3 Q else Q (.bl false) H3)
theorem pe_chain3 {X : Cx} {a b c d : Expr} {pos : Pos} {ta tb tc td : TE} {op op' op'' : CmpOp} {r r' r'' : R2} (ho : OpR X (compareOp op) r) (ho' : OpR X (compareOp op') r') (ho'' : OpR X (compareOp op'') r'') (ha : PE X a ta) (hb : PE X b tb) (hc : PE X c tc) (hd : PE X d td)
    (hm : lastMarks [op, op', op''] [b, c, d] = false := by with_unfolding_all rfl) : PE X (.Compare a [op, op', op''] [b, c, d] pos) (tChain3 r r' r'' ta tb tc td) := by
  refine ⟨fun pins s σ H Q I h => ?_⟩
  refine Compare_chain (thn (ha.run pins s σ H _ I h) fun v s1 ⟨x, H1, I1, r1, q1⟩ => chain_link (thn (hb.run pins s1 σ H1 _ I1 q1) fun u s2 ⟨y, H2, I2, r2, q2⟩ =>
    thn (ho pins s2 σ H2 x y v u _ I2 r1 r2 q2) fun d s3 ⟨z, H3, I3, r3, k, e, q3⟩ => ?_)) hm
  subst e
  cases r3
  refine wpAny_truthy_bool ?_
  cases k with
  | false => exact ite_ff ⟨.bl false, H3, I3, rfl, q3⟩
  | true =>
    refine ite_tt (chain_link (thn (hc.run pins s3 σ H3 _ I3 q3) fun w' s4 ⟨z', H4, I4, r4, q4⟩ => thn (ho' pins s4 σ H4 y z' u w' _ I4 r2 r4 q4) fun d' s5 ⟨z2, H5, I5, r5, k2, e2, q5⟩ => ?_))
    subst e2
    cases r5
    refine wpAny_truthy_bool ?_
    cases k2 with
    | false => exact ite_ff ⟨.bl false, H5, I5, rfl, q5⟩
    | true => exact ite_tt (chain_last (thn (hd.run pins s5 σ H5 _ I5 q5) fun w2 s6 ⟨z3, H6, I6, r6, q6⟩ => ho'' pins s6 σ H6 z' z3 w' w2 Q I6 r4 r6 q6))
theorem x_chain3 {td : TE} {r r' r'' : R2} (h : ta σ H fun x H1 => tb σ H1 fun y H2 => r x y H2 fun z H3 => ∃ k, z = .bl k ∧ (if k = true then rCh2 r' r'' tc td σ y H3 Q else Q (.bl false) H3)) : tChain3 r r' r'' ta tb tc td σ H Q := h
theorem x_ch2 {td : TE} {r' r'' : R2} {y : V} (h : tc σ H fun z H4 => r' y z H4 fun q H5 => ∃ k, q = .bl k ∧ (if k = true then td σ H5 fun x' H6 => r'' z x' H6 Q else Q (.bl false) H5)) : rCh2 r' r'' tc td σ y H Q := h
def rRevL (K : PySem.W.Frag) (x : V) (H1 : Hp) (Q : VK) : Prop := ∃ a xs, x = .ref a ∧ SqL K H1 a xs ∧ ∀ p, H1 p = none → Q (.ref p) (upd H1 p (.lst xs.reverse))
theorem x_revL (h : te σ H fun x H1 => rRevL K x H1 Q) : tRevL K te σ H Q := h
theorem x_revLI {a : Addr} {xs : List V} (s : SqL K H a xs) (h : ∀ p, H p = none → Q (.ref p) (upd H p (.lst xs.reverse))) : rRevL K (.ref a) H Q := ⟨a, xs, rfl, s, h⟩
theorem x_bits (h : te σ H fun x H1 => ∃ i, x = .int i ∧ Q (.int (Builtin.Int.intBits i : Nat)) H1) : tBits te σ H Q := h
theorem x_truI {R : Bool → Prop} (h : R (i != 0)) : ∃ k, TruV K (.int i) H k ∧ R k := ⟨_, rfl, h⟩
theorem x_dgetI {a : Addr} {kvs : List (Key × V)} {n : Int} (e : Rd H a (.dK kvs)) (g : valV kvs (.inl n) = some v) (h : Q v H) : rDGet (.ref a) (.int n) H Q := ⟨a, v, rfl, .inl ⟨kvs, .inl n, e, rfl, g.symm⟩, h⟩
theorem x_dinI {a : Addr} {kvs : List (Key × V)} {n : Int} {o : Option V} (e : Rd H a (.dK kvs)) (g : valV kvs (.inl n) = o) (h : Q (.bl o.isSome) H) : rDIn (.int n) (.ref a) H Q := ⟨a, o, rfl, .inl ⟨kvs, .inl n, e, rfl, g.symm⟩, h⟩
theorem x_dputI {a : Addr} {kvs : List (Key × V)} {n : Int} (e : H a = some (.dK kvs)) (l : kvs.length < sizeLine) (h : D.nx σ (upd H a (.dK (putK kvs (.inl n) v)))) : rDPut D σ v (.ref a) (.int n) H := ⟨a, _, rfl, DPut.k (k := .inl n) e l, h⟩
theorem Kp.mutp {p : Addr} {H : Hp} {o : HO} : Kp p H (upd H p o) := fun a u n e => by rw [upd_ne n]; exact e
/-- [e for x in t] whose items are new objects: what is said of them stays when all but the list in the making stays -/
theorem w_lcTH {a : Addr} {xs : List V} (s : SqT K H a xs) (hz : xs.length < sizeLine) (Iv : Addr → Nat → List V → Hp → Prop) (mono : ∀ p i acc H1 H2, Kp p H1 H2 → Iv p i acc H1 → Iv p i acc H2) (I0 : ∀ p, H p = none → Iv p 0 [] H)
    (turn : ∀ p i x H' acc, H p = none → xs[i]? = some x → Same H H' → H' p = some (.lst acc) → Iv p i acc H' → acc.length ≤ i → ∀ (R : VK) (S : Hp → Prop), (∀ y H4, Same H' H4 → Iv p (i + 1) (acc ++ [y]) H4 → R y H4) → (∀ H3, Same H' H3 → Iv p (i + 1) acc H3 → S H3) →
      g x (wipe σ vs) H' fun σ2 H2 => wipe σ2 vs = wipe σ vs ∧ tt σ2 H2 fun b H3 => if b = true then te σ2 H3 R else S H3)
    (done : ∀ p H' acc, H p = none → Same H H' → H' p = some (.lst acc) → Iv p xs.length acc H' → Q (.ref p) H') : rLcT K g tt te vs σ (.ref a) H Q := by
  refine ⟨a, rfl, ⟨xs, s⟩, fun p hp => ?_⟩
  refine lc_it walk_tup (fun i H' => ∃ acc, Same H H' ∧ H' p = some (.lst acc) ∧ Iv p i acc H' ∧ acc.length ≤ i) ⟨[], Same.new hp, upd_same, mono _ _ _ _ _ Kp.mutp (I0 p hp), Nat.le_refl _⟩ (fun i H' _ ⟨acc, s', _⟩ => Same.sqt s' s) ?_ ?_
  · rintro i x H0 H' hi ⟨acc, s', hd', iv, hl⟩ ⟨rfl, e⟩
    refine turn p i x H' acc hp e s' hd' iv hl _ _ (fun y H4 q iv' => ?_) fun H3 q iv' => ?_
    · exact ⟨acc, q _ _ hd', by omega, acc ++ [y], Same.mut (Same.trans s' q) hp, upd_same, mono _ _ _ _ _ Kp.mutp iv', by rw [List.length_append, List.length_singleton]; omega⟩
    · exact ⟨acc, Same.trans s' q, q _ _ hd', iv', by omega⟩
  · rintro H' ⟨acc, s', hd', iv, _⟩
    exact done p H' acc hp s' hd' iv
theorem w_lcLH {a : Addr} {xs : List V} (s : SqL K H a xs) (hz : xs.length < sizeLine) (Iv : Addr → Nat → List V → Hp → Prop) (mono : ∀ p i acc H1 H2, Kp p H1 H2 → Iv p i acc H1 → Iv p i acc H2) (I0 : ∀ p, H p = none → Iv p 0 [] H)
    (turn : ∀ p i x H' acc, H p = none → xs[i]? = some x → Same H H' → H' p = some (.lst acc) → Iv p i acc H' → acc.length ≤ i → ∀ (R : VK) (S : Hp → Prop), (∀ y H4, Same H' H4 → Iv p (i + 1) (acc ++ [y]) H4 → R y H4) → (∀ H3, Same H' H3 → Iv p (i + 1) acc H3 → S H3) →
      g x (wipe σ vs) H' fun σ2 H2 => wipe σ2 vs = wipe σ vs ∧ tt σ2 H2 fun b H3 => if b = true then te σ2 H3 R else S H3)
    (done : ∀ p H' acc, H p = none → Same H H' → H' p = some (.lst acc) → Iv p xs.length acc H' → Q (.ref p) H') : rLcL K g tt te vs σ (.ref a) H Q := by
  refine ⟨a, rfl, ⟨xs, s⟩, fun p hp => ?_⟩
  refine lc_list (K := K) (a := a) (xs := xs) (fun i H' => ∃ acc, Same H H' ∧ H' p = some (.lst acc) ∧ Iv p i acc H' ∧ acc.length ≤ i) ⟨[], Same.new hp, upd_same, mono _ _ _ _ _ Kp.mutp (I0 p hp), Nat.le_refl _⟩ (fun i H' _ ⟨acc, s', _⟩ => s'.seq s) ?_ ?_
  · rintro i x H' hi ⟨acc, s', hd', iv, hl⟩
    have hil : i < xs.length := (List.getElem?_eq_some_iff.mp hi).1
    refine turn p i x H' acc hp hi s' hd' iv hl _ _ (fun y H4 q iv' => ?_) fun H3 q iv' => ?_
    · exact ⟨acc, q _ _ hd', by omega, acc ++ [y], Same.mut (Same.trans s' q) hp, upd_same, mono _ _ _ _ _ Kp.mutp iv', by rw [List.length_append, List.length_singleton]; omega⟩
    · exact ⟨acc, Same.trans s' q, q _ _ hd', iv', by omega⟩
  · rintro H' ⟨acc, s', hd', iv, _⟩
    exact done p H' acc hp s' hd' iv
end
end Cb
/-! ### enumerate of a list; xs[i] op= e; bits -/
namespace Cb
open PySem PySem.Spec PyProof.Rows L2
section
variable {σ : L2.St} {H : Hp} {Q : VK} {D : Ends} {te ta tb tc : TE} {t u : TS} {tt : TT} {v : V} {i j : Int} {K : PySem.W.Frag} {g : TG} {vs : List Nat}
def rForEL (K : PySem.W.Frag) (g : TG) (tb : TS) (D : Ends) (σ : L2.St) (us : List V) (H : Hp) : Prop := ∃ a xs, us = [.ref a] ∧ SqL K H a xs ∧ ∃ W : Nat → Nat → L2.St → Hp → Prop, (∃ m, W 0 m σ H) ∧ ∀ i m σ H, W i m σ H → ((Ite K a).stop i H ∧ D.nx σ H) ∨ ((Ite K a).go i H ∧ ∃ N : L2.St → Hp → Prop, (∀ σ' H', N σ' H' → ∃ m', m' < m ∧ W (i + 1) m' σ' H') ∧ ∀ x H', (Ite K a).yld i H x H' → g x σ H' fun σ2 H2 => tb { D with nx := N, ct := N, bk := D.nx } σ2 H2)
theorem x_forEL {ta : TA} {tb : TS} (h : ta σ H fun us H1 => rForEL K g tb D σ us H1) : tFor (iEnum K ta) g tb D σ H := h
theorem w_forEL {tb : TS} {a : Addr} {xs : List V} (s : SqL K H a xs) (Pv : Nat → L2.St → Hp → Prop) (h0 : Pv 0 σ H) (hl : ∀ i σ H, Pv i σ H → SqL K H a xs)
    (hs : ∀ i x σ H T, xs[i]? = some x → Pv i σ H → H T = none → g (.ref T) σ (upd H T (.tup [.int (i : Nat), x])) fun σ2 H2 => tb { D with nx := Pv (i + 1), ct := Pv (i + 1), bk := D.nx } σ2 H2) (hd : ∀ σ H, Pv xs.length σ H → D.nx σ H) : rForEL K g tb D σ [.ref a] H := by
  refine ⟨a, xs, rfl, s, for_it walk_enum Pv h0 (fun i σ H _ p => hl i σ H p) ?_ hd⟩
  rintro i v σ H H' hi p ⟨T, x, y, rfl, hT, rfl, e1, e2⟩
  cases e1
  exact hs i y σ H T e2 p hT
theorem pg_list {X : Cx} : PGet X (rIxL X.K) := by
  intro pins s σ H x y v u Q I rx ry h
  obtain ⟨p, xs, i, z, rfl, rfl, hq, he, q⟩ := h
  cases rx
  obtain ⟨t, rfl⟩ := ry
  obtain ⟨its, r, pl, hz⟩ := I.list hq
  obtain ⟨j, h1, h2, h3, h4, h5⟩ := atI_get he
  obtain ⟨w, ew, rw'⟩ := r.get h2
  have hl := r.length
  have hn := line63
  have fin : EP X pins σ Q w s := ⟨z, H, I, rw', q⟩
  by_cases h0 : 0 ≤ i
  · have hj : i.toNat = j := by
      rw [seqIndex_of h0 h5] at h1
      exact Option.some.inj h1
    exact wpAny_getItem_list pl.isList h0 (by omega) (by rw [hj]; simpa using ew) fin
  · have hj : (i + (its.toArray.size : Int)).toNat = j := by
      rw [seqIndex_neg (by omega) h4] at h1
      rw [List.size_toArray, ← hl]
      exact Option.some.inj h1
    exact wpAny_getItem_list_neg pl.isList (by omega) (by rw [List.size_toArray] <;> omega) (by omega) (by rw [hj]; simpa using ew) fin
theorem x_augS {to ti te : TE} {tget : V → V → Hp → VK → Prop} {tip : TIp} {tset : TSet} (h : to σ H fun o H1 => ti σ H1 fun i H2 => tget o i H2 fun x H3 => te σ H3 fun y H4 => tip x y H4 fun z H5 => tset o i z H5 fun H6 => D.nx σ H6) : tAugS to ti te tget tip tset D σ H := h
theorem bit_and (m k : Nat) : Builtin.bitAnd ((m : Int) / 2 ^ k) 1 = (((m.testBit k).toNat : Nat) : Int) := by
  rw [show ((m : Int) / 2 ^ k) = ((m / 2 ^ k : Nat) : Int) by rw [Int.natCast_ediv, Int.natCast_pow]; rfl, PyProof.Rows.bitAnd_pp (Int.natCast_nonneg _) (by decide), Int.toNat_natCast]
  congr 1
  show m / 2 ^ k &&& 1 = _
  rw [Nat.and_one_is_mod, Nat.testBit_eq_decide_div_mod_eq]
  by_cases h : m / 2 ^ k % 2 = 1
  · rw [decide_eq_true h, h]; rfl
  · rw [decide_eq_false h]
    show _ = 0
    omega
theorem bx_and (a b : Bool) : Builtin.bitAnd ((a.toNat : Nat) : Int) ((b.toNat : Nat) : Int) = (((a && b).toNat : Nat) : Int) := by
  rw [PyProof.Rows.bitAnd_pp (Int.natCast_nonneg _) (Int.natCast_nonneg _)]
  cases a <;> cases b <;> rfl
theorem bx_xor (a b : Bool) : Builtin.bitXor ((a.toNat : Nat) : Int) ((b.toNat : Nat) : Int) = (((xor a b).toNat : Nat) : Int) := by
  rw [Bits.bitXor_pp (Int.natCast_nonneg _) (Int.natCast_nonneg _)]
  cases a <;> cases b <;> rfl
end
end Cb
namespace Cb
open PySem PySem.Spec PyProof.Rows L2
/-! ### a op1 b op2 c op3 d as a test; in over texts -/
theorem pt_chain3 {X : Cx} {a b c d : Expr} {pos : Pos} {ta tb tc td : TE} {op op' op'' : CmpOp} {r r' r'' : R2} (ho : OpR X (compareOp op) r) (ho' : OpR X (compareOp op') r') (ho'' : OpR X (compareOp op'') r'') (ha : PE X a ta) (hb : PE X b tb) (hc : PE X c tc) (hd : PE X d td)
    (hm : lastMarks [op, op', op''] [b, c, d] = false := by with_unfolding_all rfl) : PT X (.Compare a [op, op', op''] [b, c, d] pos) (tTest (tChain3 r r' r'' ta tb tc td)) := by
  refine ⟨fun pins s σ H Q I h => ?_⟩
  refine isTrue_chain (thn (ha.run pins s σ H _ I h) fun v s1 ⟨x, H1, I1, r1, q1⟩ => test_link (thn (hb.run pins s1 σ H1 _ I1 q1) fun u s2 ⟨y, H2, I2, r2, q2⟩ =>
    thn (ho pins s2 σ H2 x y v u _ I2 r1 r2 q2) fun _ s3 ⟨z, H3, I3, r3, k, e, q3⟩ => ?_)) hm
  subst e
  cases r3
  refine wpAny_truthy_bool ?_
  cases k with
  | false =>
    obtain ⟨k', e', q'⟩ := q3
    cases e'
    exact ite_ff ⟨H3, I3, q'⟩
  | true =>
    refine ite_tt (test_link (thn (hc.run pins s3 σ H3 _ I3 q3) fun w' s4 ⟨z', H4, I4, r4, q4⟩ => thn (ho' pins s4 σ H4 y z' u w' _ I4 r2 r4 q4) fun _ s5 ⟨z2, H5, I5, r5, k2, e2, q5⟩ => ?_))
    subst e2
    cases r5
    refine wpAny_truthy_bool ?_
    cases k2 with
    | false =>
      obtain ⟨k', e', q'⟩ := q5
      cases e'
      exact ite_ff ⟨H5, I5, q'⟩
    | true =>
      refine ite_tt (test_last (thn (hd.run pins s5 σ H5 _ I5 q5) fun w2 s6 ⟨z3, H6, I6, r6, q6⟩ => thn (ho'' pins s6 σ H6 z' z3 w' w2 _ I6 r4 r6 q6) fun _ s7 ⟨z4, H7, I7, r7, k3, e3, q7⟩ => ?_))
      subst e3
      cases r7
      exact wpAny_truthy_bool ⟨H7, I7, q7⟩
theorem inV_str (L : List Str) (b : Str) : inV (.str b) (L.map V.str) = decide (b ∈ L) := by
  induction L with
  | nil => rfl
  | cons a L ih =>
    show (eqV (.str a) (.str b) || inV (.str b) (L.map V.str)) = _
    rw [ih]
    by_cases e : a = b
    · subst e
      rw [show eqV (.str a) (.str a) = true from by simp [eqV], decide_eq_true (List.mem_cons_self ..)]
      rfl
    · rw [show eqV (.str a) (.str b) = false from by simp [eqV, e]]
      rw [Bool.false_or]
      exact decide_eq_decide.mpr ⟨fun z => List.mem_cons_of_mem _ z, fun z => (List.mem_cons.mp z).elim (fun q => absurd q.symm e) id⟩
theorem flat_str (L : List Str) : (L.map V.str).all flatV = true := by
  rw [List.all_eq_true]
  intro x hx
  obtain ⟨b, _, rfl⟩ := List.mem_map.mp hx
  rfl
theorem x_inS {K : PySem.W.Frag} {H : Hp} {Q : VK} {p : Addr} {L : List Str} {b : Str} (s : SqL K H p (L.map V.str) ∨ SqT K H p (L.map V.str)) (h : Q (.bl (decide (b ∈ L))) H) : rIn K false (.str b) (.ref p) H Q :=
  ⟨p, L.map V.str, rfl, s, rfl, flat_str L, by rw [if_neg Bool.false_ne_true, inV_str]; exact h⟩
theorem x_niS {K : PySem.W.Frag} {H : Hp} {Q : VK} {p : Addr} {L : List Str} {b : Str} (s : SqL K H p (L.map V.str) ∨ SqT K H p (L.map V.str)) (h : Q (.bl (!decide (b ∈ L))) H) : rIn K true (.str b) (.ref p) H Q :=
  ⟨p, L.map V.str, rfl, s, rfl, flat_str L, by rw [if_pos rfl, inV_str]; exact h⟩
theorem x_sum {K : PySem.W.Frag} {H : Hp} {Q : VK} {p : Addr} {ns : List Int} (s : SqL K H p (ns.map V.int)) (h : Q (.int ns.sum) H) : rSum K [.ref p] H Q := ⟨p, ns, rfl, s, h⟩
end Cb
namespace Cb
open PySem PySem.Spec PyProof.Rows L2
/-! ### own errors whose __init__ says super().__init__(text) and keeps its arguments -/
section
open PySem.W PySem.Calls
/-- what a class of errors over the built-in B says -/
structure SupC (K : Frag) (B newId i : String) (bmB : List Value) (C : Addr) : Prop where
  FB : ExcBaseFacts B newId i bmB
  SF : StoreFacts B bmB "object.__setattr__" "object"
  KF : KxsFacts B i
  exI : excInitIn K C bmB newId = true
  ov : excOver K C bmB = true
  hdC : hasDictIn K C = true
  sa : findIn K (.ref C) "__setattr__" = some (some (.builtin "object.__setattr__"))
  kC : keepIn K (.ref C) = true
  exC : subIn K (.ref C) (.type "BaseException") = some true
  subB : subIn K (.ref C) (.type B) = some true
  tyC : typeIn K (.ref C) = some (.type "type")
  tp : nsIn K cStatics "thirdparty.any" = some none
  mroC : mroIn K C (.ref C) = some true
  supI : ks_superIn K C C "__init__" = some (some (.builtin i))
/-- what its __init__ says -/
structure SupF (P : Program) (K : Frag) (C fI : Addr) (qual : Str) (params : Arguments) (body : List Stmt) (scope : Scope) : Prop where
  iC : findIn K (.ref C) "__init__" = some (some (.ref fI))
  tI : typeIn K (.ref fI) = some (.type "function")
  fn : ∃ (oc : Value) (od : Option Addr) (doc pm : Value) (an : Option Addr) (cda : Addr) (ct : Value) (cc : Addr) (osl : Array (Option Value)),
    (K.lookup fI = some ⟨oc, od, .func (ksFn "__init__" qual params body scope .none .none doc pm an (.ref cda) ct cc), osl⟩ ∧ codeIn K (.ref cda) qual = true) ∧
    (∃ ccl cdd vs ccs file tf, K.lookup cda = some ⟨ccl, cdd, .fields vs, ccs⟩ ∧ vs[2]? = some (.str file tf) ∧ ((P.main.file : Str) == file) = true) ∧
    ∃ cl cld csl, K.lookup cc = some ⟨cl, cld, .cell (some (.ref C)), csl⟩
  top : (P.main.scope.names.lookup ("super" : Str)).isSome = false
section
variable {P : Program} {w : World} {A : Around} {K : Frag} {B newId i : String} {bmB : List Value} {C : Addr}
/-- the wrapper of B's own __init__, called: the error's args are new -/
theorem sup_call {E : Value → Shared → Prop} {h : Heap} {g : Array GenState} {d : Drawn} {t : Nat} {os : OsState} {e u t0 : Addr} {rest : List Value} {Q : Value → Shared → Prop}
    (T : SupC K B newId i bmB C) (X : K.In h) (he : h.get? e = some (HandSPX.excO C t0)) (gu : h.get? u = some (kxs_mw i e)) (hz : rest.length ≤ sizeLine)
    (kq : ∀ hz t1, (∀ b o, b ≠ e → h.get? b = some o → hz.get? b = some o) → hz.get? e = some (HandSPX.excO C t1) → Q .none ⟨hz, g, d, t, os⟩) :
    wpAny (model P w) A (call (.ref u) rest) Q E ⟨h, g, d, t, os⟩ := by
  obtain ⟨nm, N, qn, bs, bm, hdct, sn, sub, ab, col, dd, k0, k1, k2, k3, k5, hC, hT⟩ := excInit_of X T.exI
  refine wpAny_call (codeAny_of_tree (show wpAny _ A.in1 (callAny (.ref u) ⟨rest, []⟩) _ _ _ from ?_))
  unfold callAny
  refine wpAny_bind (wpAny_load gu ?_)
  refine W.KFB.if_so (by dsimp only [kxs_mw]; decide) ?_
  refine wpAny_bind (check_bound_init T.FB.toExcCallFacts hC he rfl ?_)
  refine wpAny_bind (wpAny_pure (wpAny_pure ⟨plainId_quiet T.FB.init.plain _, codeAny_builtin T.FB.initEntry ?_⟩))
  exact exc_init_tree (cls := .ref C) (t0 := t0) (dv := none) (c2 := .none) (c3 := .none) (b4 := .bool false) he hz fun hz k e' _ => kq hz _ k e'
/-- the first field -/
theorem sup_new {hp : Heap} {g : Array GenState} {d : Drawn} {t : Nat} {os : OsState} {R : Result → Shared → Prop} {name : Str} {tk : Tok} {v : Value} {x t0 : Addr}
    (T : SupC K B newId i bmB C) (X : K.In hp) (hx : hp.get? x = some (excObj C t0 none .none)) (ht : takerIn K C name = some none)
    (kq : ∀ hz tz dx, (∀ b o, b ≠ x → hp.get? b = some o → hz.get? b = some o) → hp.objs.size ≤ dx → dx ≠ x → hz.get? x = some (excObj C t0 (some dx) .none) →
      hz.Ns1 dx (fun y => if y = name then some v else none) → R (.ok (.ret .none)) ⟨hz, g, d, tz, os⟩) :
    codeAny (model P w) A (.call (.builtin "object.__setattr__") ⟨[.ref x, .str name tk, v], []⟩) R ⟨hp, g, d, t, os⟩ := by
  have nxs : x ≠ hp.objs.size := Nat.ne_of_lt (Heap.lt_size hx)
  refine osa_openX (od := none) T.SF X ⟨hx, rfl, rfl, trivial⟩ T.ov ht fun b => ?_
  obtain ⟨cd, hc, hd2⟩ := any_some T.hdC
  refine wpAny_bind (wpAny_pure (wpAny_bind (instanceDict_exc hx (looks_clsIn X hc) hd2 ?_)))
  refine HandSPX.store_in_new ?_ fun hz tz hn2 sb => ?_
  · exact ⟨_, #[], _, (Heap.get?_update_ne _ _ _ _ nxs.symm).trans (Heap.get?_push_at rfl rfl), rfl, fun e he => absurd he (by simp), fun _ => rfl⟩
  · have hx1 : (hp.push { cls := .type "dict", data := .dict #[] }).get? x = some (excObj C t0 none .none) := Heap.get?_push_of_some _ hx
    refine kq hz tz hp.objs.size (fun b o hb ho => ?_) (Nat.le_refl _) nxs.symm ?_ hn2
    · exact (sb.2 b (Nat.ne_of_lt (Heap.lt_size ho))).trans ((Heap.get?_update_ne _ _ _ _ hb).trans (Heap.get?_push_of_some _ ho))
    · exact (sb.2 x nxs).trans (Heap.get?_update_self _ hx1 rfl)
/-- a later field -/
theorem sup_old {hp : Heap} {g : Array GenState} {d : Drawn} {t : Nat} {os : OsState} {R : Result → Shared → Prop} {name : Str} {tk : Tok} {v : Value} {x dx t0 : Addr} {m0 : Str → Option Value} {nl : List Str}
    (T : SupC K B newId i bmB C) (X : K.In hp) (hx : hp.get? x = some (excObj C t0 (some dx) .none)) (hns : hp.Ns1 dx m0) (hw : Within m0 nl) (hz : nl.length ≤ 1000) (ht : takerIn K C name = some none)
    (kq : ∀ hz tz, (∀ b o, b ≠ dx → hp.get? b = some o → hz.get? b = some o) → hz.Ns1 dx (fun y => if y = name then some v else m0 y) → R (.ok (.ret .none)) ⟨hz, g, d, tz, os⟩) :
    codeAny (model P w) A (.call (.builtin "object.__setattr__") ⟨[.ref x, .str name tk, v], []⟩) R ⟨hp, g, d, t, os⟩ := by
  obtain ⟨uD, eD, pD, gD, dD, _⟩ := hns.count hw
  refine osa_openX (od := some uD) T.SF X ⟨hx, rfl, rfl, gD⟩ T.ov ht fun b => ?_
  obtain ⟨cd, hc, hd2⟩ := any_some T.hdC
  refine wpAny_bind (wpAny_pure (wpAny_bind (wpAny_bind (wpAny_loadPart hx (wpAny_bind ((looks_clsIn X hc).here ?_))))))
  rw [hd2]
  refine wpAny_pure (a := some dx) ?_
  exact PySem.ESX.store_in_old hns hw hz fun hz tz hn2 sb => kq hz tz (fun b o hb ho => (sb.2 b hb).trans ho) hn2
/-- the scope of such an __init__ -/
abbrev supS (nms : List (Str × NameKind)) : Scope := { kind := .function, names := nms, isGenerator := false, isCoroutine := false, more := [] }
/-- super().__init__(text): the error's args are new, all else stays -/
theorem sup_first {E : Value → Shared → Prop} {mg : Str → Option Value} {base h : Heap} {g : Array GenState} {d : Drawn} {t : Nat} {os : OsState} {L x t0 fI cda cc : Addr} {qual msg : Str} {params : Arguments} {body0 body : List Stmt} {nms : List (Str × NameKind)}
    {doc pm ct oc ccl cl : Value} {an od cdd cld : Option Addr} {osl ccs csl : Array (Option Value)} {vs : Array Value} {file : Str} {tf : Tok} {ar : Arg} {m : Str → Option Value} {p0 p1 p2 p3 p4 p5 : Pos} {j : Nat} {Q : Flow → Shared → Prop}
    (T : SupC K B newId i bmB C) (X : K.In h) (Md : Mod K mg base) (kb : ∀ b o, base.get? b = some o → h.get? b = some o) (hsup : mg "super" = none)
    (ho : K.lookup fI = some ⟨oc, od, .func (ksFn "__init__" qual params body0 (supS nms) .none .none doc pm an (.ref cda) ct cc), osl⟩)
    (hcode : K.lookup cda = some ⟨ccl, cdd, .fields vs, ccs⟩) (hvs : vs[2]? = some (.str file tf)) (hfile : ((P.main.file : Str) == file) = true) (htop : (P.main.scope.names.lookup ("super" : Str)).isSome = false)
    (hcell : K.lookup cc = some ⟨cl, cld, .cell (some (.ref C)), csl⟩) (hns : h.Ns L m) (hself : m "self" = some (.ref x)) (hx : h.get? x = some (HandSPX.excO C t0))
    (hp : (params.posonlyargs ++ params.args).head? = some ar) (har : ar.arg = "self")
    (hks : nms.lookup ("super" : Str) = some .globalImplicit) (hkc : nms.lookup ("__class__" : Str) = some .free) (hka : nms.lookup ("self" : Str) = some .local)
    (hpos : (p2.endLine == p4.line) = true)
    (hq : ∀ h' tk t1, (∀ b o, b ≠ x → h.get? b = some o → h'.get? b = some o) → h'.get? x = some (HandSPX.excO C t1) → Q .next ⟨h', g, d, tk, os⟩) :
    PySem.wpAt (model P w) A (.func body (ksEnv qual (supS nms) L fI (.ref cda) cc)) (exec (.Expr (.Call (.Attribute (.Call (.Name "super" p0) [] [] p1) "__init__" p2) [.Constant (.str msg) j p3] [] p4) p5) (ksEnv qual (supS nms) L fI (.ref cda) cc)) Q E ⟨h, g, d, t, os⟩ := by
  obtain ⟨cd, hcC, _⟩ := any_some T.hdC
  obtain ⟨oD, hD1, hD2⟩ : ∃ oD, h.get? C = some oD ∧ oD.data = .cls cd := by
    unfold clsIn at hcC
    split at hcC
    · rename_i c d cd' sl ho'
      cases hcC
      exact ⟨_, X _ _ ho', rfl⟩
    · cases hcC
  have hxC : x ≠ C := by
    intro e
    rw [e, hD1] at hx
    cases hx
    cases hD2
  obtain ⟨mb, hb1, hb2⟩ := Md.blt
  refine ks_wpAt_Expr_any ?_
  refine ks_wpAt_MethodCall (pl := (do return (← importBound (.Call (.Name "super" p0) [] [] p1) (ksEnv qual (supS nms) L fI (.ref cda) cc)).getD true)) ?_ (he := by
    show (do
      let ov ← attributeBase (.Call (.Name "super" p0) [] [] p1) "__init__" _ _
      standAt p2.atName
      methodCall _ _ _ _ _ ov _ _ _) = _
    unfold methodCall methodCallPos
    rw [hpos]
    rfl)
  refine ks_wpAt_super_base hks hkc rfl rfl (X _ _ ho) rfl hp rfl (X _ _ hcode) rfl hvs hfile htop ?_
  refine ks_loadName_global rfl hks (loadGlobal_builtin (env := ksEnv qual (supS nms) L fI (.ref cda) cc) (Md.glob.keeps kb) hsup (hb1.keeps kb) ((hb2 "super" (by decide)).trans (by first | boot_by_name | rfl | kernel_rfl)) ⟨rfl, ?_⟩)
  refine wpAny_loadName_free rfl hkc rfl ⟨_, X _ _ hcell, rfl⟩ ?_
  rw [har]
  refine wpAny_loadName_local rfl hka hns hself ?_
  refine ks_wpAny_isType_cls hD1 hD2 ⟨rfl, ?_⟩
  refine ks_wpAny_call_super hD1 hD2 hx rfl (fun c e => by cases e) (looks_mroIn X T.mroC) (fun h1 e1 k1 => ?_)
  have X1 : K.In h1 := X.keeps k1
  have sI : alongIn K "__init__" ((cd.mro.dropWhile (· != .ref C)).drop 1) = some (some (.builtin i)) := by
    have z := T.supI
    unfold ks_superIn at z
    rw [hcC] at z
    exact z
  have hI : Looks (model P w) h1 (isInstance (.ref x) (.type B)) true := (InstAt.type (⟨k1 _ _ hx, rfl, rfl, trivial⟩ : InstAt h1 x (HandSPX.excO C t0) C none)).andThen (looks_subIn X1 T.subB)
  refine kxs_getMethod T.KF e1 (looks_opaque X1 T.tp) (l₀ := cd.mro) (fun A Q E s k q => wpAny_bind ((looks_clsIn X1 hcC) A _ E s k (wpAny_pure q))) rfl X1 sI hI hxC (by decide) ?_
  refine kxs_callWith (x := x) (i := i) rfl (evalArgs_plain (spliced_cons (wpAny_Constant_str (k := j) (pos := p3) (spliced_nil ⟨Heap.get?_push_at rfl rfl, ?_⟩))))
  have kp : ∀ b o, h1.get? b = some o → (h1.push (kxs_mw i x)).get? b = some o := fun b o e => Heap.get?_push_of_some _ e
  refine sup_call T (X1.keeps kp) (kp _ _ (k1 _ _ hx)) (Heap.get?_push_at rfl rfl) (by show 1 ≤ sizeLine; rw [sizeLine_eq]; decide) fun h' t1 k' e' => ?_
  exact hq h' _ t1 (fun b o hb e => k' b o hb (kp _ _ (k1 _ _ e))) e'
/-- the places of the first statement -/
structure SupP where
  p0 : Pos
  p1 : Pos
  p2 : Pos
  p3 : Pos
  p4 : Pos
  p5 : Pos
  j : Nat
abbrev supE (msg : Str) (z : SupP) : Stmt := .Expr (.Call (.Attribute (.Call (.Name "super" z.p0) [] [] z.p1) "__init__" z.p2) [.Constant (.str msg) z.j z.p3] [] z.p4) z.p5
/-- the places of a storing statement -/
structure SupQ where
  q1 : Pos
  q2 : Pos
  q3 : Pos
  q4 : Pos
abbrev supA (f : Str) (z : SupQ) : Stmt := .Assign [.Attribute (.Name "self" z.q1) f z.q2] (.Name f z.q3) z.q4
theorem ns_but {h h' : Heap} {L x : Addr} {m : Str → Option Value} (hn : h.Ns L m) (hx : L ≠ x) (k : ∀ b o, b ≠ x → h.get? b = some o → h'.get? b = some o) : h'.Ns L m := by
  obtain ⟨oL, es, ep, hL, r⟩ := hn
  exact ⟨oL, es, ep, k _ _ hx hL, r⟩
theorem in_but {h h' : Heap} {x : Addr} (X : K.In h) (hx : K.lookup x = none) (k : ∀ b o, b ≠ x → h.get? b = some o → h'.get? b = some o) : K.In h' := fun a o e => k a o (fun z => by rw [z, hx] at e; cases e) (X a o e)
/-- what __init__ leaves -/
structure SupEnd (h h' : Heap) (x C dx t1 : Addr) (mA : Str → Option Value) : Prop where
  keep : ∀ b o, b ≠ x → h.get? b = some o → h'.get? b = some o
  obj : h'.get? x = some (excObj C t1 (some dx) .none)
  big : h.objs.size ≤ dx
  ne : dx ≠ x
  ns : h'.Ns1 dx mA
theorem sup_init1 {s : Shared} {R : Result → Shared → Prop} {mg : Str → Option Value} {base : Heap} {fI x t0 : Addr} {v : Value} {qual msg f : Str} {params : Arguments} {nms : List (Str × NameKind)} {ar : Arg} {z : SupP} {z1 : SupQ}
    (T : SupC K B newId i bmB C) (F : SupF P K C fI qual params [supE msg z, supA f z1] (supS nms)) (X : K.In s.heap) (Md : Mod K mg base) (kb : ∀ b o, base.get? b = some o → s.heap.get? b = some o) (hsup : mg "super" = none)
    (hlim : s.heap.NoLimit) (hx : s.heap.get? x = some (HandSPX.excO C t0)) (hnx : K.lookup x = none) (hroom : A.depth < recursionLimit) (ht : takerIn K C f = some none)
    (hbind : ∀ (doc pm : Value) (an : Option Addr) (cdv ct : Value) (cc : Addr), BindsTo s (ksFn "__init__" qual params [supE msg z, supA f z1] (supS nms) .none .none doc pm an cdv ct cc) ⟨[.ref x, v], []⟩ [("self", .ref x), (f, v)])
    (hp : (params.posonlyargs ++ params.args).head? = some ar) (har : ar.arg = "self") (hcl : ∀ y ∈ nms, y.2 ≠ .cell)
    (hks : nms.lookup ("super" : Str) = some .globalImplicit) (hkc : nms.lookup ("__class__" : Str) = some .free) (hka : nms.lookup ("self" : Str) = some .local) (hkf : nms.lookup f = some .local)
    (hf1 : (("self" : Str) == f) = false) (hf2 : (f == ("__debug__" : Str)) = false) (hpos : (z.p2.endLine == z.p4.line) = true)
    (hq : ∀ h' tk dx t1, SupEnd s.heap h' x C dx t1 (fun y => if y = f then some v else none) → R (.ok (.ret .none)) { s with heap := h', toks := tk }) :
    codeAny (model P w) A (.call (.ref fI) ⟨[.ref x, v], []⟩) R s := by
  obtain ⟨oc, od, doc, pm, an, cda, ct, cc, osl, ⟨ho, hcd⟩, ⟨ccl, cdd, vs, ccs, file, tf, hcode, hvs, hfile⟩, cl, cld, csl, hcell⟩ := F.fn
  refine ks_codeAny_call_defAt (binds := [("self", .ref x), (f, v)]) hroom (X _ _ ho) rfl hlim (codeRec_of X hcd) rfl (hbind _ _ _ _ _ _) hcl (fun y hy => ?_) (fun h1 hns k1 => ?_)
  · rcases List.mem_cons.mp hy with rfl | hy
    · exact hka
    · rcases List.mem_cons.mp hy with rfl | hy
      · exact hkf
      · cases hy
  have X1 : K.In h1 := X.keeps k1
  have hLx : s.heap.objs.size ≠ x := Nat.ne_of_gt (Heap.lt_size hx)
  have mS : (fun y : Str => List.lookup y ([(("self" : Str), Value.ref x), (f, v)] : List (Str × Value)).reverse) ("self" : Str) = some (.ref x) := by
    show List.lookup ("self" : Str) ([(f, v), (("self" : Str), Value.ref x)] : List (Str × Value)) = _
    rw [List.lookup_cons, hf1]
    rfl
  have mF : (fun y : Str => List.lookup y ([(("self" : Str), Value.ref x), (f, v)] : List (Str × Value)).reverse) f = some v := by
    show List.lookup f ([(f, v), (("self" : Str), Value.ref x)] : List (Str × Value)) = _
    rw [List.lookup_cons, beq_self_eq_true]
  refine ks_wpAt_execs_cons (sup_first T X1 Md (fun b o e => k1 b o (kb b o e)) hsup ho hcode hvs hfile F.top hcell hns mS (k1 _ _ hx) hp har hks hkc hka hpos fun h2 tk t1 k2 e2 => ?_)
  have X2 : K.In h2 := in_but X1 hnx k2
  have n2 := ns_but hns hLx k2
  refine wpAt_of_wpAny (wpAny_execs_cons (plainObj_wpAny_Assign_Attribute ?_))
  refine wpAny_Name (wpAny_loadName_local rfl hkf n2 mF ?_) hf2
  refine wpAny_Name (wpAny_loadName_local rfl hka n2 mS ?_) (by decide)
  refine set_plain X2 (ox := excObj C t1 none .none) (od := none) ⟨e2, rfl, rfl, trivial⟩ T.sa ?_
  refine sup_new T X2 e2 ht fun h3 tk3 dx k3 dn dne e3 n3 => ?_
  show wpAny _ _ (execs _ _) _ _ _
  have lt : s.heap.objs.size < h2.objs.size := n2.lt
  exact wpAny_execs_nil (hq h3 tk3 dx t1 ⟨fun b o hb e => k3 b o hb (k2 b o hb (k1 b o e)), e3, Nat.le_of_lt (Nat.lt_of_lt_of_le lt dn), dne, n3⟩)
theorem sup_init2 {s : Shared} {R : Result → Shared → Prop} {mg : Str → Option Value} {base : Heap} {fI x t0 : Addr} {v v' : Value} {qual msg f f' : Str} {params : Arguments} {nms : List (Str × NameKind)} {ar : Arg} {z : SupP} {z1 z2 : SupQ}
    (T : SupC K B newId i bmB C) (F : SupF P K C fI qual params [supE msg z, supA f z1, supA f' z2] (supS nms)) (X : K.In s.heap) (Md : Mod K mg base) (kb : ∀ b o, base.get? b = some o → s.heap.get? b = some o) (hsup : mg "super" = none)
    (hlim : s.heap.NoLimit) (hx : s.heap.get? x = some (HandSPX.excO C t0)) (hnx : K.lookup x = none) (hroom : A.depth < recursionLimit) (ht : takerIn K C f = some none) (ht' : takerIn K C f' = some none)
    (hbind : ∀ (doc pm : Value) (an : Option Addr) (cdv ct : Value) (cc : Addr), BindsTo s (ksFn "__init__" qual params [supE msg z, supA f z1, supA f' z2] (supS nms) .none .none doc pm an cdv ct cc) ⟨[.ref x, v, v'], []⟩ [("self", .ref x), (f, v), (f', v')])
    (hp : (params.posonlyargs ++ params.args).head? = some ar) (har : ar.arg = "self") (hcl : ∀ y ∈ nms, y.2 ≠ .cell)
    (hks : nms.lookup ("super" : Str) = some .globalImplicit) (hkc : nms.lookup ("__class__" : Str) = some .free) (hka : nms.lookup ("self" : Str) = some .local) (hkf : nms.lookup f = some .local) (hkg : nms.lookup f' = some .local)
    (hf1 : (("self" : Str) == f) = false) (hf2 : (f == ("__debug__" : Str)) = false) (hg1 : (("self" : Str) == f') = false) (hg2 : (f' == ("__debug__" : Str)) = false) (hfg : (f == f') = false) (hpos : (z.p2.endLine == z.p4.line) = true)
    (hq : ∀ h' tk dx t1, SupEnd s.heap h' x C dx t1 (fun y => if y = f' then some v' else if y = f then some v else none) → R (.ok (.ret .none)) { s with heap := h', toks := tk }) :
    codeAny (model P w) A (.call (.ref fI) ⟨[.ref x, v, v'], []⟩) R s := by
  obtain ⟨oc, od, doc, pm, an, cda, ct, cc, osl, ⟨ho, hcd⟩, ⟨ccl, cdd, vs, ccs, file, tf, hcode, hvs, hfile⟩, cl, cld, csl, hcell⟩ := F.fn
  refine ks_codeAny_call_defAt (binds := [("self", .ref x), (f, v), (f', v')]) hroom (X _ _ ho) rfl hlim (codeRec_of X hcd) rfl (hbind _ _ _ _ _ _) hcl (fun y hy => ?_) (fun h1 hns k1 => ?_)
  · rcases List.mem_cons.mp hy with rfl | hy
    · exact hka
    · rcases List.mem_cons.mp hy with rfl | hy
      · exact hkf
      · rcases List.mem_cons.mp hy with rfl | hy
        · exact hkg
        · cases hy
  have X1 : K.In h1 := X.keeps k1
  have hLx : s.heap.objs.size ≠ x := Nat.ne_of_gt (Heap.lt_size hx)
  have mS : (fun y : Str => List.lookup y ([(("self" : Str), Value.ref x), (f, v), (f', v')] : List (Str × Value)).reverse) ("self" : Str) = some (.ref x) := by
    show List.lookup ("self" : Str) ([(f', v'), (f, v), (("self" : Str), Value.ref x)] : List (Str × Value)) = _
    rw [List.lookup_cons, hg1]
    show List.lookup ("self" : Str) ([(f, v), (("self" : Str), Value.ref x)] : List (Str × Value)) = _
    rw [List.lookup_cons, hf1]
    rfl
  have mF : (fun y : Str => List.lookup y ([(("self" : Str), Value.ref x), (f, v), (f', v')] : List (Str × Value)).reverse) f = some v := by
    show List.lookup f ([(f', v'), (f, v), (("self" : Str), Value.ref x)] : List (Str × Value)) = _
    rw [List.lookup_cons, hfg]
    show List.lookup f ([(f, v), (("self" : Str), Value.ref x)] : List (Str × Value)) = _
    rw [List.lookup_cons, beq_self_eq_true]
  have mG : (fun y : Str => List.lookup y ([(("self" : Str), Value.ref x), (f, v), (f', v')] : List (Str × Value)).reverse) f' = some v' := by
    show List.lookup f' ([(f', v'), (f, v), (("self" : Str), Value.ref x)] : List (Str × Value)) = _
    rw [List.lookup_cons, beq_self_eq_true]
  refine ks_wpAt_execs_cons (sup_first T X1 Md (fun b o e => k1 b o (kb b o e)) hsup ho hcode hvs hfile F.top hcell hns mS (k1 _ _ hx) hp har hks hkc hka hpos fun h2 tk t1 k2 e2 => ?_)
  have X2 : K.In h2 := in_but X1 hnx k2
  have n2 := ns_but hns hLx k2
  refine wpAt_of_wpAny (wpAny_execs_cons (plainObj_wpAny_Assign_Attribute ?_))
  refine wpAny_Name (wpAny_loadName_local rfl hkf n2 mF ?_) hf2
  refine wpAny_Name (wpAny_loadName_local rfl hka n2 mS ?_) (by decide)
  refine set_plain X2 (ox := excObj C t1 none .none) (od := none) ⟨e2, rfl, rfl, trivial⟩ T.sa ?_
  refine sup_new T X2 e2 ht fun h3 tk3 dx k3 dn dne e3 n3 => ?_
  show wpAny _ _ (execs _ _) _ _ _
  have lt : s.heap.objs.size < h2.objs.size := n2.lt
  have Ld : s.heap.objs.size ≠ dx := Nat.ne_of_lt (Nat.lt_of_lt_of_le lt dn)
  have X3 : K.In h3 := in_but X2 hnx k3
  have N3 := ns_but n2 hLx k3
  refine wpAny_execs_cons (plainObj_wpAny_Assign_Attribute ?_)
  refine wpAny_Name (wpAny_loadName_local rfl hkg N3 mG ?_) hg2
  refine wpAny_Name (wpAny_loadName_local rfl hka N3 mS ?_) (by decide)
  obtain ⟨oD, esD, epD, hoD, hdD, _⟩ := n3.count (Within.cons f v Within.nil)
  refine set_plain X3 (ox := excObj C t1 (some dx) .none) (od := some oD) ⟨e3, rfl, rfl, hoD⟩ T.sa ?_
  refine sup_old T X3 e3 n3 (Within.cons f v Within.nil) (by show 1 ≤ 1000; decide) ht' fun h4 tk4 k4 n4 => ?_
  show wpAny _ _ (execs _ _) _ _ _
  have nd : ∀ b o, s.heap.get? b = some o → b ≠ dx := fun b o e q => by
    have z := Nat.lt_of_lt_of_le (Nat.lt_trans (Heap.lt_size e) lt) dn
    rw [q] at z
    exact Nat.lt_irrefl _ z
  exact wpAny_execs_nil (hq h4 tk4 dx t1 ⟨fun b o hb e => k4 b o (nd b o e) (k3 b o hb (k2 b o hb (k1 b o e))), k4 _ _ (Ne.symm dne) e3, Nat.le_of_lt (Nat.lt_of_lt_of_le lt dn), dne, n4⟩)
/-- a made error: its own dict d bears mA -/
structure SupMade (h h' : Heap) (e C d : Addr) (mA : Str → Option Value) : Prop where
  keep : ∀ b o, h.get? b = some o → h'.get? b = some o
  new : h.objs.size ≤ e
  obj : ∃ t1, h'.get? e = some (excObj C t1 (some d) .none)
  dbig : h.objs.size ≤ d
  dne : d ≠ e
  ns : h'.Ns1 d mA
/-- what is asked of the text of a one-field __init__ -/
structure SupS1 (qual msg f : Str) (params : Arguments) (nms : List (Str × NameKind)) (z : SupP) (z1 : SupQ) : Prop where
  bind : ∀ (s : Shared) (x : Addr) (v doc pm : Value) (an : Option Addr) (cdv ct : Value) (cc : Addr), BindsTo s (ksFn "__init__" qual params [supE msg z, supA f z1] (supS nms) .none .none doc pm an cdv ct cc) ⟨[.ref x, v], []⟩ [("self", .ref x), (f, v)]
  hp : ∃ ar : Arg, (params.posonlyargs ++ params.args).head? = some ar ∧ ar.arg = "self"
  hcl : ∀ y ∈ nms, y.2 ≠ .cell
  hks : nms.lookup ("super" : Str) = some .globalImplicit
  hkc : nms.lookup ("__class__" : Str) = some .free
  hka : nms.lookup ("self" : Str) = some .local
  hkf : nms.lookup f = some .local
  hf1 : (("self" : Str) == f) = false
  hf2 : (f == ("__debug__" : Str)) = false
  hpos : (z.p2.endLine == z.p4.line) = true
structure SupS2 (qual msg f f' : Str) (params : Arguments) (nms : List (Str × NameKind)) (z : SupP) (z1 z2 : SupQ) : Prop where
  bind : ∀ (s : Shared) (x : Addr) (v v' doc pm : Value) (an : Option Addr) (cdv ct : Value) (cc : Addr), BindsTo s (ksFn "__init__" qual params [supE msg z, supA f z1, supA f' z2] (supS nms) .none .none doc pm an cdv ct cc) ⟨[.ref x, v, v'], []⟩ [("self", .ref x), (f, v), (f', v')]
  hp : ∃ ar : Arg, (params.posonlyargs ++ params.args).head? = some ar ∧ ar.arg = "self"
  hcl : ∀ y ∈ nms, y.2 ≠ .cell
  hks : nms.lookup ("super" : Str) = some .globalImplicit
  hkc : nms.lookup ("__class__" : Str) = some .free
  hka : nms.lookup ("self" : Str) = some .local
  hkf : nms.lookup f = some .local
  hkg : nms.lookup f' = some .local
  hf1 : (("self" : Str) == f) = false
  hf2 : (f == ("__debug__" : Str)) = false
  hg1 : (("self" : Str) == f') = false
  hg2 : (f' == ("__debug__" : Str)) = false
  hfg : (f == f') = false
  hpos : (z.p2.endLine == z.p4.line) = true
theorem sup_made {s : Shared} {R : Result → Shared → Prop} {fI : Addr} {vs : List Value} {mA : Str → Option Value}
    (T : SupC K B newId i bmB C) (iC : findIn K (.ref C) "__init__" = some (some (.ref fI))) (tI : typeIn K (.ref fI) = some (.type "function")) (X : K.In s.heap) (hlim : s.heap.NoLimit) (hz : vs.length ≤ sizeLine)
    (hi : ∀ (A' : Around) (s' : Shared) (x t0 : Addr) (R' : Result → Shared → Prop), A'.depth = A.depth + 1 → (∀ b o, s.heap.get? b = some o → s'.heap.get? b = some o) → s'.heap.NoLimit → s'.heap.get? x = some (HandSPX.excO C t0) → K.lookup x = none →
      (∀ h' tk dx t1, SupEnd s'.heap h' x C dx t1 mA → R' (.ok (.ret .none)) { s' with heap := h', toks := tk }) → codeAny (model P w) A' (.call (.ref fI) ⟨.ref x :: vs, []⟩) R' s')
    (hq : ∀ h' tk e d, SupMade s.heap h' e C d mA → R (.ok (.ret (.ref e))) { s with heap := h', toks := tk }) :
    codeAny (model P w) A (.call (.ref C) ⟨vs, []⟩) R s := by
  obtain ⟨nm, N, qn, bs, bm, hdct, sn, sub, ab, col, dd, k0, k1, k2, k3, k5, hC, hT⟩ := excInit_of X T.exI
  obtain ⟨hp, g, dr, tk, os⟩ := s
  have k : ∀ b o, hp.get? b = some o → ((hp.push (kdv_tup vs)).push (HandSPX.excO C hp.objs.size)).get? b = some o := fun b o e => Heap.get?_push_of_some _ (Heap.get?_push_of_some _ e)
  have hget : ((hp.push (kdv_tup vs)).push (HandSPX.excO C hp.objs.size)).get? (hp.objs.size + 1) = some (HandSPX.excO C hp.objs.size) := by heap_get
  have hnx : K.lookup (hp.objs.size + 1) = none := by
    cases e : K.lookup (hp.objs.size + 1) with
    | none => rfl
    | some o =>
      have z : hp.get? (hp.objs.size + 1) = some o := X _ _ e
      exact absurd (Nat.lt_of_succ_lt (Heap.lt_size z)) (Nat.lt_irrefl _)
  refine HandSPX.call_own T.FB hT hC (looks_findIn X iC) (fun self => bind_fn X self tI) hz ?_
  refine hi _ ⟨(hp.push (kdv_tup vs)).push (HandSPX.excO C hp.objs.size), g, dr, tk, os⟩ _ _ _ rfl k (hlim.keeps k) hget hnx fun h' tk' dx t1 e => ?_
  have old : ∀ b o, hp.get? b = some o → h'.get? b = some o := fun b o q => e.keep b o (Nat.ne_of_lt (Nat.lt_succ_of_lt (Heap.lt_size q))) (k b o q)
  have zz : hp.objs.size + 1 + 1 ≤ dx := by
    have q := e.big
    first
      | (simpa only [Heap.size_push] using q)
      | exact q
  exact ⟨rfl, hq h' tk' (hp.objs.size + 1) dx ⟨old, Nat.le_succ _, ⟨t1, e.obj⟩, Nat.le_trans (Nat.le_trans (Nat.le_succ _) (Nat.le_succ _)) zz, e.ne, e.ns⟩⟩
end
end
/-! ### made and raised, in the hand layer -/
theorem relO_one {v : V} {v' : Value} {f : Str} (r : RelV v v') (y : Str) : RelO (List.lookup y [(f, v)]) (if y = f then some v' else none) := by
  by_cases e : y = f
  · subst e
    rw [if_pos rfl, List.lookup_cons, beq_self_eq_true]
    exact r
  · rw [if_neg e, List.lookup_cons, beq_eq_false_iff_ne.mpr e]
    trivial
theorem relO_two {v u : V} {v' u' : Value} {f g : Str} (r : RelV v v') (q : RelV u u') (y : Str) : RelO (List.lookup y [(g, u), (f, v)]) (if y = g then some u' else if y = f then some v' else none) := by
  by_cases e : y = g
  · subst e
    rw [if_pos rfl, List.lookup_cons, beq_self_eq_true]
    exact q
  · rw [if_neg e, List.lookup_cons, beq_eq_false_iff_ne.mpr e]
    exact relO_one r y
/-- what is common to the classes of errors that are made here -/
structure ErC (K : PySem.W.Frag) (mg : Str → Option Value) (cn : Str) (C : Addr) : Prop where
  g : mg cn = some (.ref C)
  gs : mg "super" = none
  kC : PySem.W.keepIn K (.ref C) = true
  exC : PySem.W.subIn K (.ref C) (.type "BaseException") = some true
  tyC : PySem.W.typeIn K (.ref C) = some (.type "type")
  ec : ExcC K C
theorem ErC.xf {K : PySem.W.Frag} {mg : Str → Option Value} {cn : Str} {C : Addr} (T : ErC K mg cn C) : XfC K C := ⟨T.ec.hg, T.ec.hk, T.ec.hs, T.ec.hd⟩
/-- one field -/
structure Er1 (P : Program) (K : PySem.W.Frag) (mg : Str → Option Value) (cn : Str) (C : Addr) (f : Str) : Prop extends ErC K mg cn C where
  ex : ∃ (B newId i : String) (bmB : List Value) (fI : Addr) (qual msg : Str) (params : Arguments) (nms : List (Str × NameKind)) (z : SupP) (z1 : SupQ),
    SupC K B newId i bmB C ∧ SupF P K C fI qual params [supE msg z, supA f z1] (supS nms) ∧ SupS1 qual msg f params nms z z1
  tf : PySem.W.takerIn K C f = some none
  nof : PySem.W.findIn K (.ref C) f = some none
/-- two fields -/
structure Er2 (P : Program) (K : PySem.W.Frag) (mg : Str → Option Value) (cn : Str) (C : Addr) (f f' : Str) : Prop extends ErC K mg cn C where
  ex : ∃ (B newId i : String) (bmB : List Value) (fI : Addr) (qual msg : Str) (params : Arguments) (nms : List (Str × NameKind)) (z : SupP) (z1 z2 : SupQ),
    SupC K B newId i bmB C ∧ SupF P K C fI qual params [supE msg z, supA f z1, supA f' z2] (supS nms) ∧ SupS2 qual msg f f' params nms z z1 z2
  tf : PySem.W.takerIn K C f = some none
  tg : PySem.W.takerIn K C f' = some none
  nof : PySem.W.findIn K (.ref C) f = some none
  nog : PySem.W.findIn K (.ref C) f' = some none
section
variable {X : Cx} {C : Addr} {cn f f' : Str}
/-- behind the making: the error is laid beside, its dict into the heap that is told -/
theorem mkp_made {pins : List (Addr × Obj)} {σ : L2.St} {H1 : Hp} {s1 : Shared} {Q : XK} {fs : List (Str × V)} {mA : Str → Option Value} {h' : Heap} {tk : Nat} {e d : Addr} (I1 : Inv X pins σ H1 s1) (E : ErC X.K X.mg cn C) (M : SupMade s1.heap h' e C d mA)
    (hr : ∀ y, RelO (List.lookup y fs) (mA y)) (q : Q (.ref C) (some d) (upd H1 d (.xd fs))) : L2N.MkP X pins σ Q (.ref e) { s1 with heap := h', toks := tk } := by
  obtain ⟨hp, g, dr, tk0, os⟩ := s1
  obtain ⟨t1, he⟩ := M.obj
  have hns := M.ns
  obtain ⟨G', r1, r2⟩ := restrict h' fun b => decide (b ≠ e)
  have g1 : ∀ b, b ≠ e → G'.get? b = h'.get? b := fun b hb => r1 b (decide_eq_true hb)
  have g2 : G'.get? e = none := r2 e (by simp)
  have old : ∀ b o, hp.get? b = some o → G'.get? b = some o := fun b o q => (g1 b (Nat.ne_of_lt (Nat.lt_of_lt_of_le (Heap.lt_size q) M.new))).trans (M.keep b o q)
  have ob : ObjOk X.prog X.w (upd H1 d (.xd fs)) G' d (.xd fs) := ⟨_, hns.at (fun o q => (g1 d M.dne).trans q), hr⟩
  have J : Inv X pins σ (upd H1 d (.xd fs)) ⟨G', g, dr, tk, os⟩ := I1.laid (t' := tk) old M.dbig ob
  refine ⟨e, _, _, ⟨G', g, dr, tk, os⟩, _, .ref C, some d, rfl, J, fun b o q => ?_, g2, he, ⟨rfl, rfl, fun vs h => by cases h; rfl⟩, rfl, rfl, ?_, rfl, I1.bare, raises_own E.exC E.tyC, q⟩
  · by_cases hb : b = e
    · have q' : G'.get? b = some o := q
      rw [hb, g2] at q'
      cases q'
    · exact (g1 b hb).symm.trans q
  · rw [upd_ne (Ne.symm M.dne)]
    exact I1.hok.fresh M.new
/-- cn(a) -/
def tMk1 (C : Addr) (f : Str) (ta : TA) : L2.St → Hp → XK → Prop := fun σ H Q => ta σ H fun vs H1 => ∃ v, vs = [v] ∧ ∀ d, H1 d = none → Q (.ref C) (some d) (upd H1 d (.xd [(f, v)]))
def tMk2 (C : Addr) (f f' : Str) (ta : TA) : L2.St → Hp → XK → Prop := fun σ H Q => ta σ H fun vs H1 => ∃ v u, vs = [v, u] ∧ ∀ d, H1 d = none → Q (.ref C) (some d) (upd H1 d (.xd [(f', u), (f, v)]))
theorem pmk_1 {a : Expr} {ta : TA} {p pos : Pos} {k : Nat} (T : Er1 X.prog X.K X.mg cn C f) (hr : Room k X.A) (ha : PA X [a] ta) (hg : Gl X cn := by rfl) (hd : (cn == ("__debug__" : Str)) = false := by decide)
    (he : starEach (a :: []) X.env = (false, eval a X.env) :: starEach [] X.env := by rfl) (hpl : (backTo pos (starEach [] X.env)).any (·.1) = false := by rfl) : L2N.PMk X (.Call (.Name cn p) [a] [] pos) (tMk1 C f ta) := by
  intro pins s σ H Q I h
  refine wpAny_Call_Name_kw (ld_glob I hg T.g ?_ hd)
  refine PySem.W.callWith_K (h₀ := X.base) I.ok.mod.kin T.kC (thn (ha.run pos pins s σ H _ I h) fun us s1 hh => ?_) he hpl
  obtain ⟨vs, H1, I1, r1, v, ev, q1⟩ := hh
  subst ev
  refine ⟨I1.kIn, ?_⟩
  cases r1 with
  | cons rv rn =>
    rename_i v' us'
    cases rn
    obtain ⟨B, newId, i, bmB, fI, qual, msg, params, nms, z, z1, TC, TF, TS⟩ := T.ex
    obtain ⟨ar, hp1, hp2⟩ := TS.hp
    refine wpAny_call (sup_made TC TF.iC TF.tI I1.kIn I1.nolimit (by show 1 ≤ sizeLine; rw [sizeLine_eq]; decide) (fun A' s' x t0 R' dA k' lim hx hnx hq => ?_) fun h' tk e d M => mkp_made I1 T.toErC M (relO_one rv) (q1 d (I1.hok.fresh M.dbig)))
    exact sup_init1 TC TF (I1.kIn.keeps k') I1.ok.mod (fun b o e => k' b o (I1.bk b o e)) T.gs lim hx hnx (by rw [dA]; have := hr.dp; omega) T.tf (TS.bind _ _ _) hp1 hp2 TS.hcl TS.hks TS.hkc TS.hka TS.hkf TS.hf1 TS.hf2 TS.hpos hq
theorem pmk_2 {a a' : Expr} {ta : TA} {p pos : Pos} {k : Nat} (T : Er2 X.prog X.K X.mg cn C f f') (hr : Room k X.A) (ha : PA X [a, a'] ta) (hg : Gl X cn := by rfl) (hd : (cn == ("__debug__" : Str)) = false := by decide)
    (he : starEach (a :: [a']) X.env = (false, eval a X.env) :: starEach [a'] X.env := by rfl) (hpl : (backTo pos (starEach [a'] X.env)).any (·.1) = false := by rfl) : L2N.PMk X (.Call (.Name cn p) [a, a'] [] pos) (tMk2 C f f' ta) := by
  intro pins s σ H Q I h
  refine wpAny_Call_Name_kw (ld_glob I hg T.g ?_ hd)
  refine PySem.W.callWith_K (h₀ := X.base) I.ok.mod.kin T.kC (thn (ha.run pos pins s σ H _ I h) fun us s1 hh => ?_) he hpl
  obtain ⟨vs, H1, I1, r1, v, u, ev, q1⟩ := hh
  subst ev
  refine ⟨I1.kIn, ?_⟩
  cases r1 with
  | cons rv rn =>
    rename_i v' us'
    cases rn with
    | cons ru rn =>
      cases rn
      obtain ⟨B, newId, i, bmB, fI, qual, msg, params, nms, z, z1, z2, TC, TF, TS⟩ := T.ex
      obtain ⟨ar, hp1, hp2⟩ := TS.hp
      refine wpAny_call (sup_made TC TF.iC TF.tI I1.kIn I1.nolimit (by show 2 ≤ sizeLine; rw [sizeLine_eq]; decide) (fun A' s' x t0 R' dA k' lim hx hnx hq => ?_) fun h' tk e d M => mkp_made I1 T.toErC M (relO_two rv ru) (q1 d (I1.hok.fresh M.dbig)))
      exact sup_init2 TC TF (I1.kIn.keeps k') I1.ok.mod (fun b o e => k' b o (I1.bk b o e)) T.gs lim hx hnx (by rw [dA]; have := hr.dp; omega) T.tf T.tg (TS.bind _ _ _ _) hp1 hp2 TS.hcl TS.hks TS.hkc TS.hka TS.hkf TS.hkg TS.hf1 TS.hf2 TS.hg1 TS.hg2 TS.hfg TS.hpos hq
/-- isinstance(e, c), e the caught error at a, of the class C, its own dict d -/
def rIsX (K : PySem.W.Frag) (C a : Addr) (cls : Value) (d : Option Addr) : List V → Hp → VK → Prop := fun xs H Q => ∃ (c : V) (cv : Value) (b : Bool) (dd : Addr) (fs : List (Str × V)), cls = .ref C ∧ d = some dd ∧ H dd = some (.xd fs) ∧ xs = [.ref a, c] ∧ (∀ u, RelV c u → u = cv) ∧ PySem.W.kitOne K (.ref C) cv = some b ∧ Q (.bl b) H
theorem call_isX {a : Addr} {oe : Obj} {cls : Value} {d : Option Addr} {pn : List (Addr × Obj)} (T : ExcC X.K C) (hz : Zc cls d oe) (hf : ∃ vs, oe.data = .fields vs) : CallR (X.suite a ((a, oe) :: pn)) (.builtin "isinstance") (rIsX X.K C a cls d) := by
  intro pins s σ H xs us Q I r h
  obtain ⟨c, cv, b, dd, fs, ec, ed, hd, rfl, hcv, e, q⟩ := h
  subst ec ed
  cases r with
  | cons rx rr =>
    cases rr with
    | cons rt rr =>
      cases rr
      cases rx
      have e2 := hcv _ rt
      subst e2
      obtain ⟨hget, _⟩ := I.pin (a, oe) (List.mem_append.mpr (.inl List.mem_cons_self))
      obtain ⟨vs, hv⟩ := hf
      have hx : ObjOk X.prog X.w H s.heap dd (.xd fs) := I.hok dd _ hd
      obtain ⟨mA, hns, _⟩ := hx
      obtain ⟨od, ho, _⟩ := lookIn_ns hns
      have J : PySem.W.InstAt s.heap a oe C (some od) := ⟨hget, hz.1, by unfold PySem.W.notCls; rw [hv] <;> rfl, by rw [hz.2]; exact ho⟩
      obtain ⟨cd, hcd, _⟩ := PySem.W.any_some T.hd
      exact PySem.W.kia_one (PySem.W.kitx_exc (by rw [hcd]; rfl) T.hg T.hk T.hs T.ha T.hn T.ht T.hm) I.kIn J e (fun z => nomatch z) fun tk => ⟨.bl b, H, I.kept (t' := tk) fun _ _ z => z, rfl, q⟩
/-- raise cn(a) -/
def tRaise1 (C : Addr) (f : Str) (W : WX) (ta : TA) : TS := fun _ σ H => tMk1 C f ta σ H fun cls d H' => W cls d σ H'
def tRaise2 (C : Addr) (f f' : Str) (W : WX) (ta : TA) : TS := fun _ σ H => tMk2 C f f' ta σ H fun cls d H' => W cls d σ H'
theorem ps_raise1 {a : Expr} {ta : TA} {W : WX} {p pos pos2 : Pos} {k : Nat} (hc : X.calm = true) (T : Er1 X.prog X.K X.mg cn C f) (hr : Room k X.A) (tk : L2N.Takes X W) (ha : PA X [a] ta) (hg : Gl X cn := by rfl) (hd : (cn == ("__debug__" : Str)) = false := by decide)
    (he : starEach (a :: []) X.env = (false, eval a X.env) :: starEach [] X.env := by rfl) (hpl : (backTo pos (starEach [] X.env)).any (·.1) = false := by rfl) : PS X (.Raise (some (.Call (.Name cn p) [a] [] pos)) none pos2) (tRaise1 C f W ta) :=
  L2N.ps_raise hc tk (pmk_1 T hr ha hg hd he hpl)
theorem ps_raise2 {a a' : Expr} {ta : TA} {W : WX} {p pos pos2 : Pos} {k : Nat} (hc : X.calm = true) (T : Er2 X.prog X.K X.mg cn C f f') (hr : Room k X.A) (tk : L2N.Takes X W) (ha : PA X [a, a'] ta) (hg : Gl X cn := by rfl) (hd : (cn == ("__debug__" : Str)) = false := by decide)
    (he : starEach (a :: [a']) X.env = (false, eval a X.env) :: starEach [a'] X.env := by rfl) (hpl : (backTo pos (starEach [a'] X.env)).any (·.1) = false := by rfl) : PS X (.Raise (some (.Call (.Name cn p) [a, a'] [] pos)) none pos2) (tRaise2 C f f' W ta) :=
  L2N.ps_raise hc tk (pmk_2 T hr ha hg hd he hpl)
end
end Cb
/-! ### a comprehension where an error is handled -/
namespace Cb
open PySem PySem.Spec PyProof.Rows L2
/-- the block's context, the handled error's object kept -/
abbrev blkH (X : Cx) (s : Shared) (H : Hp) (scope : Scope) (cenv : Env) (fp : List Addr) (p : Addr × Obj) : Cx := { X.blk s H scope cenv fp with pn := [p] }
section
variable {X : Cx}
theorem inv_blkH {s s' : Shared} {σ : L2.St} {H H' : Hp} {scope : Scope} {cenv : Env} {fp : List Addr} {p : Addr × Obj} (I : Inv (X.blk s H scope cenv fp) [] σ H' s')
    (h : s'.heap.get? p.1 = some p.2 ∧ H' p.1 = none ∧ p.1 ≠ cenv.locals ∧ p.1 ∉ frs X.stack ∧ ∀ v, p.2.data ≠ .cell v) : Inv (blkH X s H scope cenv fp p) [] σ H' s' := by
  refine ⟨⟨I.ok.mod, I.ok.kind, I.ok.glob, I.ok.blt, I.ok.above, I.ok.inj, I.ok.has, I.ok.cab, I.ok.hd, I.ok.frames, I.ok.stk, I.ok.exf, I.ok.bs, I.ok.bsz, I.ok.noex, I.ok.exfs, I.ok.funs, I.ok.frf⟩, I.os, I.bare, I.base, I.loc, I.cell, I.free, I.freeC, fun q hq => ?_, I.hok, I.len⟩
  have e : q = p := by simpa using (show q ∈ [p] ++ ([] : List (Addr × Obj)) from hq)
  rw [e]
  exact h
theorem hot_blk {s : Shared} {H : Hp} {scope : Scope} {cenv : Env} {fp : List Addr} {p : Addr × Obj} (h : L2H.Hot1 X.A p) : L2H.HotC (blkH X s H scope cenv fp p) := ⟨p, h, List.mem_singleton_self _⟩
theorem pe_lcH {elt tg iter : Expr} {ifs : List Expr} {scope : Scope} {own : List (Str × Nat)} {pos : Pos} {wi : TI} {g : TG} {tt : TT} {te : TE} (hot : L2H.HotC X) (hN : X.N.Nodup) (hi : L2H.PIH X tg iter wi) (ok : BlkOk X.N X.env.scope scope own)
    (hg : ∀ (s : Shared) (H : Hp) (C : Addr) (cl : List (Str × Addr)) (fp : List Addr) (p : Addr × Obj), L2H.Hot1 X.A p → PG (blkH X s H scope (compEnvC scope cl C X.env) fp p) tg g)
    (ht : ∀ (s : Shared) (H : Hp) (C : Addr) (cl : List (Str × Addr)) (fp : List Addr) (p : Addr × Obj), L2H.Hot1 X.A p → PTs (blkH X s H scope (compEnvC scope cl C X.env) fp p) ifs tt)
    (he : ∀ (s : Shared) (H : Hp) (C : Addr) (cl : List (Str × Addr)) (fp : List Addr) (p : Addr × Obj), L2H.Hot1 X.A p → PE (blkH X s H scope (compEnvC scope cl C X.env) fp p) elt te) (hs : ∀ x, foldedSetIterable iter X.env x = pure x := by intro _; rfl) :
    PE X (.ListComp elt [⟨tg, iter, ifs, 0⟩] scope pos) (tLc wi g tt te (own.map (·.2))) := by
  refine ⟨fun pins s σ H Q I h => ?_⟩
  rw [eval_ListComp]
  obtain ⟨p, hp1, hpm⟩ := hot
  have hfree : ∀ y ∈ scope.names, y.2 = .free → ∃ c, X.env.cells.lookup y.1 = some c := fun y hy e => by
    rcases ok.free y hy e with k | k
    · exact I.ok.has _ (.inl k)
    · exact I.ok.has _ (.inr k)
  refine wpAny_comprehension_free (use := none) rfl hs (closure_ok hfree) ok.kind (fun y hy e => by rw [ok.uniq y hy, e])
    (thn (hi.run pins s σ H _ I h) fun xv s1 hx => thn hx fun itv s2 h2 => ?_)
  obtain ⟨it, fp, tn, J, H2, e, I2, T, st2, f2, q⟩ := h2
  subst e
  refine wpAny_newObj_type (newEnv_comp ?_) (by show 0 ≤ sizeLine; decide)
  generalize hD : s2.heap.objs.size = D
  have hDn : H2 D = none := I2.hok.fresh (Nat.le_of_eq hD)
  obtain ⟨W, ⟨m0, w0⟩, turn⟩ := q D hDn
  generalize hs3 : ({ s2 with heap := s2.heap.push { cls := .type "list", data := .seq ([] : List Value).toArray } } : Shared) = s3
  have I3 : Inv X pins σ (upd H2 D (.lst [])) s3 := by
    rw [← hs3]
    refine I2.laid (t' := s2.toks) (fun b o e => Heap.get?_push_of_some _ e) (Nat.le_of_eq hD) ⟨Nat.zero_le _, [], 0, .nil, ?_⟩
    rw [← hD]
    exact Heap.get?_push_size _ rfl
  have h3 : s3.heap = s2.heap.push { cls := .type "list", data := .seq ([] : List Value).toArray } := by rw [← hs3]
  have sz : ∀ b ∈ fp, b < s2.heap.objs.size := fun b hb => by
    obtain ⟨o, e, _⟩ := T.obj _ _ st2 b hb
    exact Heap.lt_size e
  have f3 : ∀ b ∈ fp, FpOk X pins (upd H2 D (.lst [])) b ∧ b < s3.heap.objs.size := fun b hb => by
    have hlt := sz b hb
    refine ⟨⟨?_, (f2 b hb).2⟩, by rw [h3, Heap.size_push]; exact Nat.lt_succ_of_lt hlt⟩
    rw [upd_ne (by rw [← hD]; exact Nat.ne_of_lt hlt)]
    exact (f2 b hb).1
  have st3 : tn 0 s3.heap := T.keep _ _ _ st2 fun b _ o e => by rw [h3]; exact Heap.get?_push_of_some _ e
  have P3 := I3.pin p (List.mem_append_left _ hpm)
  have npf : ∀ b ∈ fp, p.1 ≠ b := fun b hb => (f3 b hb).1.2.2.2.2.2 p (List.mem_append_left _ hpm)
  have npC : p.1 ≠ s3.heap.objs.size := Nat.ne_of_lt (Heap.lt_size P3.1)
  have nps : p.1 ∉ frs X.stack := fun hm => (List.mem_cons.mp (I3.stkSub p.1 hm)).elim P3.2.2.1 P3.2.2.2.1
  have I4' := block_start I3 ok hN f3
  have I4 := inv_blkH (p := p) I4' ⟨pushCells_keeps _ _ _ _ (Heap.get?_push_of_some _ P3.1), P3.2.1, npC, nps, P3.2.2.2.2⟩
  have pg := hg s3 (upd H2 D (.lst [])) s3.heap.objs.size (cellsFrom (s3.heap.objs.size + 1) scope.names (cloFrom X.env.cells scope.names [])) fp p hp1
  have pt := ht s3 (upd H2 D (.lst [])) s3.heap.objs.size (cellsFrom (s3.heap.objs.size + 1) scope.names (cloFrom X.env.cells scope.names [])) fp p hp1
  have pe := he s3 (upd H2 D (.lst [])) s3.heap.objs.size (cellsFrom (s3.heap.objs.size + 1) scope.names (cloFrom X.env.cells scope.names [])) fp p hp1
  show codeAny _ _ (.compStart (.ListComp elt [⟨tg, iter, ifs, 0⟩] scope pos) 0 (.ref it) (.ref D) (compEnvC scope (cellsFrom (s3.heap.objs.size + 1) scope.names (cloFrom X.env.cells scope.names [])) s3.heap.objs.size X.env)) (compPost (model X.prog X.w) X.A X.xe none (EP X pins σ Q) (.ref D) s3.heap.objs.size) { s3 with heap := pushCells (s3.heap.push { cls := .type "dict", data := .dict #[] }) scope.names }
  have nfp : ∀ b ∈ fp, (upd H2 D (.lst [])) b = none := fun b hb => (f3 b hb).1.1
  clear I4'
  generalize hce : compEnvC scope (cellsFrom (s3.heap.objs.size + 1) scope.names (cloFrom X.env.cells scope.names [])) s3.heap.objs.size X.env = ce at I4 pg pt pe ⊢
  have cL : ce.locals = s3.heap.objs.size := by subst hce; rfl
  generalize hH3 : upd H2 D (.lst []) = H3 at I3 I4 pg pt pe w0 nfp f3
  generalize hs4 : ({ s3 with heap := pushCells (s3.heap.push { cls := .type "dict", data := .dict #[] }) scope.names } : Shared) = s4 at I4 ⊢
  have st4 : tn 0 s4.heap := T.keep _ _ _ st3 fun b _ o e => by rw [← hs4]; exact pushCells_keeps _ _ _ _ (Heap.get?_push_of_some _ e)
  have hotB : L2H.HotC (blkH X s3 H3 scope ce fp p) := hot_blk hp1
  have stat : ∀ {σ' : L2.St} {H' : Hp} {s' : Shared}, Inv (blkH X s3 H3 scope ce fp p) [] σ' H' s' → (∀ b ∈ fp, H' b = none) → ∀ b ∈ fp, FpOk (blkH X s3 H3 scope ce fp p) [] H' b := fun {σ' H' s'} I' hn b hb =>
    ⟨hn b hb, (I'.ok.exf b hb).1, I'.ok.exfs b hb, .inl hb, fun x c e => (I'.ok.exf b hb).2 x c e, fun q hq => by
      have e : q = p := by simpa using (show q ∈ [p] ++ ([] : List (Addr × Obj)) from hq)
      rw [e]
      exact npf b hb⟩
  have loop : codeAny (model X.prog X.w) X.A (.compLoop (.ListComp elt [⟨tg, iter, ifs, 0⟩] scope pos) 0 (.ref it) (.ref D) ce) (compPost (model X.prog X.w) X.A X.xe none (EP X pins σ Q) (.ref D) s3.heap.objs.size) s4 := by
    refine compLoop_any (fun n s' => ∃ i H', Inv (blkH X s3 H3 scope ce fp p) [] (wipe σ (own.map (·.2))) H' s' ∧ tn i s'.heap ∧ (∀ b ∈ fp, H' b = none) ∧ W i n H') ?_ m0 ⟨0, H3, I4, st4, nfp, w0⟩
    rintro n s5 ⟨i, H5, I5, st5, n5, w5⟩
    rcases turn i n H5 w5 with ⟨stop, qq⟩ | ⟨go, Nx, hNx, step⟩
    · have td := T.done (blkH X s3 H3 scope ce fp p) rfl rfl rfl hotB i [] s5 _ H5 (fun _ _ => False) I5 (stat I5 n5) st5 stop
      refine thnF td fun r s6 ⟨hr, I6⟩ => ?_
      subst hr
      have I7 : Inv X pins σ H5 s6 := I3.call' (ch := fp) I6.os I6.base I6.hok I6.bare fun b hb => ⟨(f3 b hb).1.2.2.2.1, (f3 b hb).1.2.1, (f3 b hb).1.2.2.2.2.1, (f3 b hb).1.2.2.2.2.2⟩
      have nC : H5 s3.heap.objs.size = none := by
        have z : H5 ce.locals = none := I6.free
        rw [cL] at z
        exact z
      obtain ⟨m, hn, _⟩ := I6.loc
      have hn : s6.heap.Ns ce.locals m := hn
      rw [cL] at hn
      refine ⟨m, hn, fun h'' sb => ?_⟩
      obtain ⟨f0, f1, f2, f3, f4, f5⟩ := I3.fpOk (H' := H5) (Nat.le_refl _) nC
      exact ⟨.ref D, H5, I7.turned (t' := s6.toks) (fun b o hb e => (sb.2 b hb).trans e) f0 f1 f3 f4 f5, rfl, qq⟩
    · have ti := T.item (blkH X s3 H3 scope ce fp p) rfl rfl rfl hotB i [] s5 _ H5 (fun _ _ => False) I5 (stat I5 n5) st5 go
      refine thnF ti fun r s6 ⟨u, hr, h6⟩ => ?_
      subst hr
      refine thnF h6 fun _ s7 ⟨x, H7, I7, r7, y7, st7, n7⟩ => ?_
      have I7' := I7.pinned (stat I7 n7) (T.obj _ _ st7)
      refine thnF (pg.run _ s7 _ H7 x u _ I7' r7 (step x H7 y7)) fun _ s8 ⟨σ8, H8, I8, hw8, q8⟩ => ?_
      refine thnF (pt.run _ s8 σ8 H8 _ I8 q8) fun b s9 ⟨H9, I9, q9⟩ => ?_
      have fin : ∀ {s' : Shared} {H' : Hp}, Inv (blkH X s3 H3 scope ce fp p) ([] ++ pinsAt fp s7.heap) σ8 H' s' → Nx H' → ∃ m, m < n ∧ ∃ i H', Inv (blkH X s3 H3 scope ce fp p) [] (wipe σ (own.map (·.2))) H' s' ∧ tn i s'.heap ∧ (∀ b ∈ fp, H' b = none) ∧ W i m H' := fun {s' H'} I' nx => by
        obtain ⟨m', hm, w'⟩ := hNx H' nx
        have pin' : ∀ b ∈ fp, ∀ o, s7.heap.get? b = some o → s'.heap.get? b = some o ∧ H' b = none := fun b hb o e =>
          let z := I'.pin (b, o) (List.mem_append_right _ (List.mem_append_right _ (mem_pinsAt hb e)))
          ⟨z.1, z.2.1⟩
        have hl : (wipe σ (own.map (·.2))).length = σ8.length := by rw [← hw8, wipe_length]
        refine ⟨m', hm, i + 1, H', (I'.unpinned (pins := [])).weak hl (fun j v e => ?_), T.keep _ _ _ st7 fun b hb o e => (pin' b hb o e).1, fun b hb => ?_, w'⟩
        · rw [← hw8] at e
          exact (wipe_some e).1
        · obtain ⟨o, e, _⟩ := T.obj _ _ st7 b hb
          exact (pin' b hb o e).2
      cases b with
      | false =>
        simp only [Bool.false_eq_true, if_false] at q9 ⊢
        exact fin I9 q9
      | true =>
        simp only [if_true] at q9 ⊢
        refine thnF (pe.run _ s9 σ8 H9 _ I9 q9) fun z s10 ⟨yv, H10, I10, r10, acc, hD10, hz10, nx⟩ => ?_
        exact app_ok (X := blkH X s3 H3 scope ce fp p) I10 hD10 hz10 r10 fun s11 I11 => fin I11 nx
  exact codeAny_compStart_list loop (T.self X.A 0 _ _ _ st4 loop)
end
end Cb
/-! ### try: body, several clauses, each with the same name behind as -/
namespace Cb
open PySem PySem.Spec PyProof.Rows L2
/-- the clauses, one after the other -/
def wAsM (K : PySem.W.Frag) (i : Nat) (Wout : WX) (D : Ends) : List (Value × (Addr → Value → Option Addr → TS)) → WX
  | [] => Wout
  | (c, ts) :: r => fun cls d σ H => ∃ b, PySem.W.exmOne K cls c = some b ∧ (b = true → ∀ a, H a = none → ts a cls d { nx := fun σ' H' => D.nx (σ'.set i none) H', rt := D.rt, bk := fun σ' H' => D.bk (σ'.set i none) H', ct := fun σ' H' => D.ct (σ'.set i none) H' } (σ.set i (some (.ref a))) H) ∧
    (b = false → wAsM K i Wout D r cls d σ H)
inductive HdsAs (X : Cx) (n : Str) : List ExceptHandler → List (Value × (Addr → Value → Option Addr → TS)) → Prop
  | nil : HdsAs X n [] []
  | cons {x : Str} {c : Value} {ts : Addr → Value → Option Addr → TS} {b₀ : Stmt} {suite : List Stmt} {np pos' : Pos} {hds : List ExceptHandler} {l : List (Value × (Addr → Value → Option Addr → TS))} (hc : Names X x c)
      (hsu : ∀ (a : Addr) (oe : Obj) (cls : Value) (d : Option Addr) (pn : List (Addr × Obj)), L2N.Zn cls d oe → (∃ vs, oe.data = .fields vs) → PSs (X.suite a ((a, oe) :: pn)) (b₀ :: suite) (ts a cls d)) (r : HdsAs X n hds l) :
      HdsAs X n (.ExceptHandler (some (.Name x np)) (some n) (b₀ :: suite) pos' :: hds) ((c, ts) :: l)
section
variable {X : Cx} {n : Str} {i : Nat} {body : List Stmt} {h₀ : ExceptHandler} {hds : List ExceptHandler} {l : List (Value × (Addr → Value → Option Addr → TS))} {pos : Pos} {tb : WX → TS} {Wout : WX}
theorem ps_try_asM (hs : X.stack = X.env :: X.outer) (hf : X.env.frame = some X.env.locals) (hN : X.N.Nodup) (hi : X.N[i]? = some n) (hln : X.env.kindOf n = some .local) (tk : L2N.Takes X Wout)
    (hb : ∀ (W : WX) (pn : List (Addr × Obj)) (xe : Value → Shared → Prop), L2N.Takes (X.tr pn xe) W → PassesOwn (model X.prog X.w) X.A X.env xe → PSs (X.tr pn xe) body (tb W))
    (hh : HdsAs X n (h₀ :: hds) l) : PS X (.Try body (h₀ :: hds) [] [] pos) (fun D σ H => tb (wAsM X.K i Wout D l) D σ H) := by
  refine ⟨fun pins s σ H D I h => ?_⟩
  have ok := I.ok
  have hfr : X.A.frames = some (X.env :: X.outer) := by rw [ok.frames, hs]
  have hloc : Loc X.env.scope n := .inl hln
  refine wpAny_Try_except ?_
  refine wpAny_mono ((hb (wAsM X.K i Wout D l) (X.pn ++ pins) (fun e s₁ => wpAny (model X.prog X.w) X.A (noteFrame e X.env) (fun _ s₂ => wpAny (model X.prog X.w) X.A (setFlight e none) (fun _ s₃ =>
    wpAny (model X.prog X.w) X.A (handleBy e X.env (h₀ :: hds)) (SP X pins D) X.xe s₃) X.xe s₂) X.xe s₁) (fun u s' xx => ?_) PassesOwn.looking).run [] s σ H D (I.toTry _) h) (fun f s1 hsp => ?_) (fun e s1 he => he)
  · -- the catch
    obtain ⟨a, B, sI, pins', σ', H', cls, d, rfl, J', nb, up, sky, na, os, ag, w⟩ := xx
    have J : Inv X pins σ' H' sI := J'.ofTry ok
    have sky' : Sky B (X.env :: X.outer) a (L2N.Zn cls d) X.env.locals s'.heap := by rw [← hs]; exact sky
    show wpAny (model X.prog X.w) X.A (noteFrame (.ref a) X.env) _ _ _
    refine L2N.Sky.land L2N.Zn.steady hfr hf sky' fun h3 fl3 up3 => ?_
    have J3 : Inv X pins σ' H' { s' with heap := h3 } := J.landed nb fl3.1 (up.trans up3) os ag
    obtain ⟨oe3, vs3, he3, hz3, hd3⟩ := fl3.there
    have notFr : ∀ {h : Heap} {o : Obj} {vs : Array Value}, h.FunFrames B (X.env :: X.outer) → h.get? a = some o → o.data = .fields vs → a ∉ frs (X.env :: X.outer) := fun {h o vs} ff e dd hm => by
      obtain ⟨_, o', e', hnf⟩ := ff.mem hm
      rw [e] at e'; cases e'
      exact hnf _ dd
    have nfr := notFr fl3.2.2.1 he3 hd3
    have nL : a ≠ X.env.locals := fun z => nfr (List.mem_filterMap.mpr ⟨X.env, List.mem_cons_self, by rw [hf, z]⟩)
    have nF : a ∉ X.fs := fun hm => by
      obtain ⟨e, he, q⟩ := List.mem_filterMap.mp hm
      exact nfr (List.mem_filterMap.mpr ⟨e, List.mem_cons_of_mem _ he, q⟩)
    have S3 := J3.suite he3 hd3 na nL nF
    have go : ∀ {hds' : List ExceptHandler} {l' : List (Value × (Addr → Value → Option Addr → TS))}, HdsAs X n hds' l' → wAsM X.K i Wout D l' cls d σ' H' →
        wpAny (model X.prog X.w) X.A (handleBy (.ref a) X.env hds') (SP X pins D) X.xe { s' with heap := h3 } := by
      intro hds' l' hk
      induction hk with
      | nil =>
        intro w
        refine wpAny_handleBy_nil ?_
        obtain ⟨k1, k2, k3, oe, vs, T, oT, ts', he, hz, hd, h1, hr⟩ := id fl3
        unfold PySem.passOn
        refine wpAny_bind (wpAny_field he hd h1 ?_)
        rw [if_neg (show ¬ ((Value.ref T == Value.none) = true) from by simp)]
        have fin : wpAny (model X.prog X.w) X.A (setFlight (.ref a) X.env.frame) (fun _ s4 => wpAny (model X.prog X.w) X.A (throw (.ref a) : Sem Flow) (SP X pins D) X.xe s4) X.xe { s' with heap := h3 } := by
          rw [hf]
          refine HandSPX.setFlight_upZ fl3 fun h4 hh4 up4 => wpAny_throw (tk _ _ ?_)
          exact ⟨a, B, sI, pins, σ', H', cls, d, rfl, J, nb, (up.trans up3).trans up4, .inr (.inr (by rw [hs]; exact hh4)), na, os, ag, w⟩
        first
          | exact wpAny_bind (wpAny_pure (wpAny_bind fin))
          | exact wpAny_bind fin
      | @cons x c ts b₀ suite np pos' hds2 l2 hc hsu r ih =>
        intro w
        obtain ⟨b, hb1, hyes, hno⟩ := w
        refine wpAny_handleBy_cons (codeAny_handlers_test ?_) (by intro q; cases q)
        have LT : PySem.W.Looks (model X.prog X.w) h3 (typeOf (.ref a)) cls := fun A Q E s k q => wpAny_typeOf_ref (k _ _ he3) (by rw [hz3.1]; exact q)
        have LM := PySem.W.exm_one (M := model X.prog X.w) (J3.kIn) LT hb1
        have test : ∀ {Q : Value → Shared → Prop} {E : Value → Shared → Prop}, Q c { s' with heap := h3 } → wpAny (model X.prog X.w) (X.A.mark (some (.ref a))) (eval (.Name x np) X.env) Q E { s' with heap := h3 } := fun {Q E} q => by
          obtain ⟨hg, hdbg, hm | ⟨hm, hv, hnn⟩⟩ := hc
          · exact ld_glob (X := X.suite a ((a, oe3) :: (X.pn ++ pins))) S3 hg hm q hdbg
          · exact ld_blt (X := X.suite a ((a, oe3) :: (X.pn ++ pins))) S3 hg hm hv q hnn hdbg
        refine test (LM.here ?_)
        cases b with
        | true =>
          refine codeAny_handlers_suite_as ?_
          refine HandSPX.lands_againZ fl3 fun h4 fl4 up4 => ?_
          have J4 : Inv X pins σ' H' { s' with heap := h4 } := J.landed nb fl4.1 ((up.trans up3).trans up4) os ag
          obtain ⟨oe4, vs4, he4, hz4, hd4⟩ := fl4.there
          have S4 := J4.suite he4 hd4 na nL nF
          refine store_ok (X := X.suite a ((a, oe4) :: (X.pn ++ pins))) (v := .ref a) S4 hN hi hloc rfl (fun s5 S5 => ?_) (.inr hln)
          refine wpAny_mono ((hsu a oe4 cls d (X.pn ++ pins) hz4 ⟨_, hd4⟩).run [] s5 _ H' _ S5 (hyes rfl a na)) (fun f s6 hsp => ?_) (fun _ _ z => False.elim z)
          have end_ : ∀ {σ6 : L2.St} {H6 : Hp} {Q : Shared → Prop}, Inv (X.suite a ((a, oe4) :: (X.pn ++ pins))) [] σ6 H6 s6 → (∀ s7, Inv X pins (σ6.set i none) H6 s7 → Q s7) →
              wpAny (model X.prog X.w) X.A (do bindName X.env n .none; unbindBehindTheSuite X.env n pos') (fun _ s7 => Q s7) X.xe s6 := fun {σ6 H6 Q} S6 hq => gone_ok (S6.unsuite ok) hN hi hln hq
          cases f with
          | next =>
            obtain ⟨σ6, H6, S6, q6⟩ := hsp
            exact end_ S6 fun s7 J7 => ⟨_, _, J7, q6⟩
          | brk =>
            obtain ⟨σ6, H6, S6, q6⟩ := hsp
            exact end_ S6 fun s7 J7 => ⟨_, _, J7, q6⟩
          | cont =>
            obtain ⟨σ6, H6, S6, q6⟩ := hsp
            exact end_ S6 fun s7 J7 => ⟨_, _, J7, q6⟩
          | ret u =>
            obtain ⟨v6, σ6, H6, S6, r6, q6⟩ := hsp
            exact end_ S6 fun s7 J7 => ⟨_, _, _, J7, r6, q6⟩
        | false =>
          show wpAny _ X.A (handleBy (.ref a) X.env hds2) _ _ _
          exact ih (hno rfl)
    exact go hh w
  · cases f with
    | next =>
      obtain ⟨σ', H', J', q⟩ := hsp
      exact wpAny_execs_nil ⟨σ', H', J'.ofTry ok, q⟩
    | brk =>
      obtain ⟨σ', H', J', q⟩ := hsp
      exact ⟨σ', H', J'.ofTry ok, q⟩
    | cont =>
      obtain ⟨σ', H', J', q⟩ := hsp
      exact ⟨σ', H', J'.ofTry ok, q⟩
    | ret u =>
      obtain ⟨v, σ', H', J', r, q⟩ := hsp
      exact ⟨v, σ', H', J'.ofTry ok, r, q⟩
end
/-! ### C(.., k = v, ..) that may raise, the caller's slots known -/
def tMakeKS (C : Addr) (n m : Nat) (sp : Sp) (gV : List V → List V → List V) (E : L2.St → XK) (t tk : TA) : TE := fun σ H Q => t σ H fun vs H1 => tk σ H1 fun zs H2 => vs.length = n ∧ zs.length = m ∧ ∀ x dx, H2 x = none → H2 dx = none → dx ≠ x →
  sp (gV (.ref x :: vs) zs) (upd (upd H2 dx (.own x)) x (.ins C dx [])) (fun v H3 => v = .non ∧ Q (.ref x) H3) (E σ)
def tMakeS (C : Addr) (sp : Sp) (dvs : List V) (E : L2.St → XK) (t : TA) : TE := fun σ H Q => t σ H fun vs H1 => ∀ x dx, H1 x = none → H1 dx = none → dx ≠ x →
  sp (.ref x :: (vs ++ dvs)) (upd (upd H1 dx (.own x)) x (.ins C dx [])) (fun v H2 => v = .non ∧ Q (.ref x) H2) (E σ)
section
variable {X : Cx} {CX : CXT} {k n : Nat} {f C : Addr} {fd : FuncData} {ps ks : List Str} {sp : Sp} {E : L2.St → XK} {x : Str} {p pos : Pos} {e : Expr} {es : List Expr} {kws : List Keyword} {t tk : TA} {g : List Value → List Value → List Value} {gV : List V → List V → List V} {dvs : List V} {ds : List Value}
theorem run_makeKS {pins : List (Addr × Obj)} {σ : L2.St} {H : Hp} {s : Shared} {Q : VK} {us ws : List Value} {vs zs : List V} (M : Mk X.K C f) (F : FnOk X.prog X.w X.K X.mg X.base CX k f fd ps sp) (hr : Room (k + 1) X.A) (hb : KBn X.K fd ps (n + 1) ks g gV) (hx : PassesAt CX X σ (E σ))
    (I : Inv X pins σ H s) (r : Vals vs us) (rz : Vals zs ws) (l1 : vs.length = n) (l2 : zs.length = ks.length)
    (h : ∀ x dx, H x = none → H dx = none → dx ≠ x → sp (gV (.ref x :: vs) zs) (upd (upd H dx (.own x)) x (.ins C dx [])) (fun v H2 => v = .non ∧ Q (.ref x) H2) (E σ)) :
    wpAny (model X.prog X.w) X.A (call (.ref C) us (ks.zip ws)) (EP X pins σ Q) X.xe s := by
  have hq := h (s.heap.objs.size + 1) s.heap.objs.size (I.hok.fresh (Nat.le_succ _)) (I.hok.fresh (Nat.le_refl _)) (Nat.ne_of_lt (Nat.lt_succ_self _))
  have I2 := Inv.made (C := C) I
  have r1 : Vals (V.ref (s.heap.objs.size + 1) :: vs) (Value.ref (s.heap.objs.size + 1) :: us) := .cons rfl r
  have r2 := hb.rel r1 rz
  have n1 : (Value.ref (s.heap.objs.size + 1) :: us).length = n + 1 := by
    rw [List.length_cons, ← r.length, l1]
  refine wpAny_call (make_map (f := f) I.kIn M.makes M.init (beq_iff_eq.mp M.fn) (codeAny_mono (F.run _ X.stack _ _ ⟨Value.ref (s.heap.objs.size + 1) :: us, ks.zip ws⟩ (g (Value.ref (s.heap.objs.size + 1) :: us) ws) _ _ (E σ) (hr.make C us (ks.zip ws))
    (I2.env0.make C us (ks.zip ws)) (hb.to _ (Value.ref (s.heap.objs.size + 1) :: us) ws I2.kIn n1 (rz.length.symm.trans l2)) r2 hq) fun r s' hq' => ?_))
  cases r with
  | error e => exact hx pins _ _ e s' I2 hq'
  | ok fl =>
    cases fl with
    | ret u =>
      obtain ⟨v, H', I3, rv, ev, q3⟩ := I2.after hq'
      subst ev
      exact ⟨rv, ⟨V.ref (s.heap.objs.size + 1), H', I3, rfl, q3⟩⟩
    | next => exact False.elim hq'
    | brk => exact False.elim hq'
    | cont => exact False.elim hq'
theorem pe_makeKS (M : Mk X.K C f) (F : FnOk X.prog X.w X.K X.mg X.base CX k f fd ps sp) (hr : Room (k + 1) X.A) (hg : Gl X x) (hm : X.mg x = some (.ref C)) (hb : KBn X.K fd ps (n + 1) ks g gV) (hx : ∀ σ, PassesAt CX X σ (E σ)) (ha : PA X (e :: es) t) (hkw : PK X kws tk)
    (hall : (backToKw pos (keywordEach kws X.env)).all (·.1.isSome) = true := by rfl) (hks : (backToKw pos (keywordEach kws X.env)).filterMap (·.1) = ks := by rfl) (hdb : (x == ("__debug__" : Str)) = false := by decide)
    (he : starEach (e :: es) X.env = (false, eval e X.env) :: starEach es X.env := by rfl) (hpl : ((backTo pos (starEach (e :: es) X.env)).any (·.1) || (backToKw pos (keywordEach kws X.env)).any (·.1.isNone)) = false := by rfl) :
    PE X (.Call (.Name x p) (e :: es) kws pos) (tMakeKS C n ks.length sp gV E t tk) := by
  refine ⟨fun pins s σ H Q I h => ?_⟩
  refine wpAny_Call_Name_kw (ld_glob I hg hm ?_ hdb)
  refine PySem.W.callWith_KW (h₀ := X.base) I.ok.mod.kin M.kp hall (thn (ha.run pos pins s σ H _ I h) fun us s1 ⟨vs, H1, I1, r, q⟩ => ?_) hpl he
  refine thn (hkw.run pos pins s1 σ H1 _ I1 q) fun ws s2 ⟨zs, H2, I2, rz, l1, l2, q2⟩ => ⟨I2.kIn, ?_⟩
  rw [hks]
  exact run_makeKS M F hr hb (hx σ) I2 r rz l1 l2 q2
end
end Cb
/-! ### sum(t) of a tuple of ints -/
namespace Cb
open PySem PySem.Spec PyProof.Rows L2
theorem sum_tupRaw {prog : Program} {w : World} {A : Around} {E : Value → Shared → Prop} {s : Shared} {t : Addr} {its : List Value} {ns : List Int} {Q : Value → Shared → Prop} (hh : A.handled = none) (hl : IsTup s.heap t its.toArray) (hi : IntsAre its ns)
    (h : ∀ h' tk t', (∀ b o, s.heap.get? b = some o → h'.get? b = some o) → Q (.int ns.sum t') { s with heap := h', toks := tk }) : wpAny (model prog w) A (call (.builtin "sum") [.ref t]) Q E s := by
  obtain ⟨xs, e⟩ := hi.allInts.items
  have hn : numsOf (intItems xs).toList = ns := by rw [← e]; exact hi.numsOf
  rw [nums_intItems] at hn
  rw [e] at hl
  have ht' : s.heap.IsTuple t (intItems xs) := hl
  have hlt : t < s.heap.objs.size := by obtain ⟨_, e, _⟩ := hl; exact Heap.lt_size e
  refine PySem.call_sum_walkG (wpAny_pyIter_tuple ht' ?_)
  refine ⟨_, _, _, _, _, _, numAt xs, rfl, Walks.tuple (A := A.in1) hh _ t (Nat.ne_of_lt hlt) (intItems xs), ⟨⟨_, Heap.get?_push_size _ rfl, rfl, rfl⟩, ht'.at fun o e => Heap.get?_push_of_some _ e⟩, fun b hb => ?_, (fun _ _ => intItems_at), fun h' tk t' hk => ?_⟩
  · show b < (s.heap.push _).objs.size
    rw [Heap.size_push]
    rcases List.mem_cons.mp hb with e | hb
    · rw [e]; exact Nat.lt_succ_self _
    · rw [List.mem_singleton.mp hb]; exact Nat.lt_succ_of_lt hlt
  · have := h h' tk t' fun b o e => hk b o (fun hm => by
      have e' : b = s.heap.objs.size := by simpa using hm
      exact absurd (Heap.lt_size e) (by rw [e']; exact Nat.lt_irrefl _)) (Heap.get?_push_of_some _ e)
    have e2 : (intItems xs).size = xs.size := by simp [intItems]
    rw [e2, preSum_eq, List.take_of_length_le (by simp), hn]
    exact this
def rSumT (K : PySem.W.Frag) : List V → Hp → VK → Prop := fun vs H Q => ∃ (a : Addr) (ns : List Int), vs = [V.ref a] ∧ SqT K H a (ns.map V.int) ∧ Q (.int ns.sum) H
theorem cr_sumT {X : Cx} (hc : X.calm = true) : CallR X (.builtin "sum") (rSumT X.K) := by
  intro pins s σ H vs us Q I r h
  obtain ⟨a, ns, rfl, hs, q⟩ := h
  obtain ⟨its, rv, hl, _⟩ := I.tuple hs
  rw [Vals.ref1 r]
  exact sum_tupRaw (I.ok.hd hc) hl rv.ints fun h' tk t' hk => ⟨.int _, H, I.kept hk, ⟨_, rfl⟩, q⟩
theorem x_sumT {K : PySem.W.Frag} {H : Hp} {Q : VK} {p : Addr} {ns : List Int} (s : SqT K H p (ns.map V.int)) (h : Q (.int ns.sum) H) : rSumT K [.ref p] H Q := ⟨p, ns, rfl, s, h⟩
end Cb
namespace L2
open PySem PySem.Spec PyProof.Rows
/-! ### t.count(x) of a tuple of texts -/
section
variable {X : Cx}
def rCntS (K : PySem.W.Frag) : V → List V → Hp → VK → Prop := fun x xs H Q => ∃ (p : Addr) (ns : List Str) (k : Str), x = .ref p ∧ xs = [.str k] ∧ SqT K H p (ns.map V.str) ∧ Q (.int (ns.count k : Nat)) H
def eqkS (k : Str) : Value → Bool
  | .str x _ => decide (x = k)
  | _ => false
theorem eqkS_count {k : Str} : ∀ {ns : List Str} {its : List Value}, Vals (ns.map V.str) its → its.countP (eqkS k) = ns.count k
  | [], its, h => by cases h; rfl
  | n :: ns, its, h => by
    cases h with
    | cons r t =>
      obtain ⟨tk, rfl⟩ := r
      rw [List.countP_cons, eqkS_count t, List.count_cons]
      congr 1
theorem mt_tcountS : MtR X "tuple.count" (rCntS X.K) := by
  intro pins s σ H x xs v us Q I rx rxs h
  obtain ⟨p, ns, k, rfl, rfl, hs, q⟩ := h
  cases rx
  obtain ⟨u, rfl, ru⟩ := rxs.one
  have ru' := ru
  obtain ⟨t, rfl⟩ := ru
  obtain ⟨its, rv, ⟨⟨cls, dd, data, sl⟩, ho, hc, n, hd⟩, hlen⟩ := I.tuple hs
  simp only at hc hd
  subst hc hd
  refine call_meets PySem.F.slot_tuple_count ⟨_, ho, rfl⟩ PySem.F.entry_tuple_count (PySem.F.args_tuple_count_2 _ _)
    (SeqAt.tuple_countAt p its.toArray n dd sl (.str k t) (eqkS k)) ⟨ho, fun y hy => ?_, ?_⟩
  · have hy' : y ∈ its := by simpa using hy
    obtain ⟨i, hi⟩ := List.getElem?_of_mem hy'
    have hil : i < ns.length := by
      have := (List.getElem?_eq_some_iff.mp hi).1
      have := rv.length
      rw [List.length_map] at this
      omega
    have hn : (ns.map V.str)[i]? = some (.str ns[i]) := by rw [List.getElem?_map, List.getElem?_eq_getElem hil]; rfl
    obtain ⟨u2, hu2, ru2⟩ := rv.get hn
    rw [hi] at hu2
    cases hu2
    have e1 : eqkS k y = eqV (.str ns[i]) (.str k) := by
      obtain ⟨t2, rfl⟩ := ru2
      show decide (ns[i] = k) = _
      by_cases e : ns[i] = k <;> simp [eqV, e]
    rw [e1]
    exact eqAt_V ru2 ru' rfl rfl
  · have ec : its.toArray.toList.countP (eqkS k) = ns.count k := eqkS_count rv
    refine ⟨.int (ns.count k : Nat), H, I.tok _, ⟨s.toks, ?_⟩, q⟩
    show Value.int ((its.toArray.toList.countP (eqkS k) : Nat) : Int) s.toks = Value.int ((ns.count k : Nat) : Int) s.toks
    rw [ec]
theorem mt_tcountSK {K : PySem.W.Frag} (hK : X.K = K) : MtR X "tuple.count" (rCntS K) := by
  subst hK
  exact mt_tcountS
def tBMT (r : V → List V → Hp → VK → Prop) (to : TE) (t : TA) : TE := fun σ H Q => to σ H fun x H1 => (∃ a o xs, x = .ref a ∧ H1 a = some (.frz o (.tup xs)) ∧ o.dict = none) ∧ t σ H1 fun xs H2 => r x xs H2 Q
theorem pe_bmT {o e : Expr} {es : List Expr} {to : TE} {t : TA} {id : String} {name : Str} {r : V → List V → Hp → VK → Prop} {apos cpos : Pos} (pa : PlainAttrs "tuple") (slot : Slot "tuple" name id) (hty : typeOf (.builtin id) = pure (.type "method_descriptor")) (hm : MtR X id r) (ho : PE X o to) (ha : PA X (e :: es) t)
    (hbase : attributeBase o name X.env (eval o X.env) = eval o X.env := by rfl)
    (hfew : ((backTo cpos (starEach (e :: es) X.env)).all (fun x => !x.1) && (backToKw cpos (keywordEach [] X.env)).all (fun x => x.1.isSome)
      && decide ((e :: es).length + ([] : List Keyword).length + (if ([] : List Keyword).isEmpty then 0 else 1) < 30)) = true := by rfl)
    (hline : (apos.endLine == cpos.line) = true := by rfl) (hs : starEach (e :: es) X.env = (false, eval e X.env) :: starEach es X.env := by rfl) (hplain : (backTo cpos (starEach es X.env)).any (·.1) = false := by rfl) :
    PE X (.Call (.Attribute o name apos) (e :: es) [] cpos) (tBMT r to t) := by
  refine ⟨fun pins s σ H Q I h => ?_⟩
  refine wpAny_Call_method_late hbase hfew hline rfl (thn (ho.run pins s σ H _ I h) fun v s1 ⟨x, H1, I1, r1, ty, q1⟩ => ?_)
  obtain ⟨a, ob, xs, rfl, hf, hd⟩ := ty
  cases r1
  obtain ⟨g1, g2⟩ := (show ObjOk X.prog X.w H1 s1.heap a (.frz ob (.tup xs)) from I1.hok a _ hf)
  obtain ⟨_, its, _, ⟨o2, e1, e2, _⟩⟩ := g2
  rw [g1] at e1
  cases e1
  have h1 : s1.TypeIs (.ref a) "tuple" := ⟨ob, g1, e2⟩
  refine ⟨"tuple", id, pa, slot, hty, h1, fun b eb => ?_, ?_⟩
  · cases eb
    exact ⟨ob, g1, hd⟩
  have hA := ha.run cpos pins s1 σ H1 _ I1 q1
  rw [hs] at hA ⊢
  refine Calls.callWith_builtin (by show (false || (backTo cpos (starEach es X.env)).any (·.1)) = false; rw [hplain] <;> rfl) (Calls.evalArgs_plain ?_)
  exact thn hA fun us s2 ⟨vs, H2, I2, r2, q2⟩ => hm pins s2 σ H2 (.ref a) vs (.ref a) us Q I2 rfl r2 q2
def rTupF (K : PySem.W.Frag) : List V → Hp → VK → Prop := fun vs H Q => ∃ p xs, vs = [.ref p] ∧ SqL K H p xs ∧ ∀ q (o : Obj), H q = none → o.dict = none → Q (.ref q) (upd H q (.frz o (.tup xs)))
theorem call_tupF : CallR X (.type "tuple") (rTupF X.K) := by
  intro pins s σ H xs us Q I r h
  obtain ⟨p, ys, rfl, hq, q⟩ := h
  obtain ⟨u, rfl, rx⟩ := vals1 r
  cases rx
  obtain ⟨its, r', pl, hz⟩ := I.list hq
  have hlen := r'.length
  refine call_tuple_list pl.isList (fun h' kp => ?_) (by simp only [List.size_toArray] <;> omega)
  have I1 : Inv X pins σ H { s with heap := h' } := I.kept (t' := s.toks) kp
  have I2 : Inv X pins σ (upd H h'.objs.size (.frz { cls := .type "tuple", data := .seq its.toArray } (.tup ys))) { s with heap := h'.push { cls := .type "tuple", data := .seq its.toArray } } :=
    I1.laid (t' := s.toks) (fun b o e => Heap.get?_push_of_some _ e) (Nat.le_refl _) (show ObjOk X.prog X.w _ _ _ (.frz _ (.tup ys)) from ⟨Heap.get?_push_size _ rfl, hz, its, r', IsTup.new _ _⟩)
  exact ⟨.ref h'.objs.size, _, I2, rfl, q _ _ (I1.hok.fresh (Nat.le_refl _)) rfl⟩
/-- lists of different length -/
def rNeL0 (K : PySem.W.Frag) : R2 := fun x y H Q => ∃ a b xs ys, x = .ref a ∧ y = .ref b ∧ SqL K H a xs ∧ SqL K H b ys ∧ xs.length ≠ ys.length ∧ Q (.bl true) H
theorem op_neL0 (hu : X.A.units + 64 < cLine) : OpR X (compareOp .NotEq) (rNeL0 X.K) := by
  intro pins s σ H x y v u Q I rx ry h
  obtain ⟨a, b, xs, ys, rfl, rfl, ha, hb, hl, q⟩ := h
  obtain rfl : v = Value.ref a := rx
  obtain rfl : u = Value.ref b := ry
  obtain ⟨its, r1, ⟨⟨cls, dd, data, sl⟩, n, ho, hc, hdn, hd⟩, _⟩ := I.list ha
  obtain ⟨its2, r2, ⟨⟨cls2, dd2, data2, sl2⟩, n2, ho2, hc2, hdn2, hd2⟩, _⟩ := I.list hb
  simp only at hc hd hc2 hd2
  subst hc hd hc2 hd2
  have e1 := r1.length
  have e2 := r2.length
  show wpAny _ _ (richCompare .NotEq (.ref a) (.ref b)) _ _ s
  refine wpAny_richCompare_same_room (T := "list") ⟨_, ho, rfl⟩ ⟨_, ho2, rfl⟩ PySem.F.slot_list_ne ?_ (by omega)
  refine call_meets PySem.F.slot_list_ne ⟨_, ho, rfl⟩ PySem.F.entry_list_ne (PySem.F.args_list_ne_2 _ _)
    (SeqAt.list_ne_lengthsAt a b its.toArray its2.toArray n n2 dd dd2 sl sl2 (by simp only [List.size_toArray, bne_iff_ne]; omega)) ⟨ho, ho2, by simp, .bl true, H, I, rfl, q⟩
theorem call_isiJ {K : PySem.W.Frag} (hK : X.K = K) : CallR X (.builtin "isinstance") (rIsi K) := by
  subst hK
  exact call_isi
end
end L2
namespace Cb
open PySem PySem.Spec PyProof.Rows L2
section
variable {X : Cx} {CX : CXT} {k n : Nat} {f C : Addr} {fd : FuncData} {ps ks : List Str} {sp : Sp} {E : L2.St → XK} {x : Str} {p pos : Pos} {kws : List Keyword} {tk : TA} {g : List Value → List Value → List Value} {gV : List V → List V → List V}
theorem pe_makeKS0 (M : Mk X.K C f) (F : FnOk X.prog X.w X.K X.mg X.base CX k f fd ps sp) (hr : Room (k + 1) X.A) (hg : Gl X x) (hm : X.mg x = some (.ref C)) (hb : KBn X.K fd ps 1 ks g gV) (hx : ∀ σ, PassesAt CX X σ (E σ)) (hkw : PK X kws tk)
    (hall : (backToKw pos (keywordEach kws X.env)).all (·.1.isSome) = true := by rfl) (hks : (backToKw pos (keywordEach kws X.env)).filterMap (·.1) = ks := by rfl) (hdb : (x == ("__debug__" : Str)) = false := by decide)
    (hpl : ((backTo pos (starEach [] X.env)).any (·.1) || (backToKw pos (keywordEach kws X.env)).any (·.1.isNone)) = false := by rfl) :
    PE X (.Call (.Name x p) [] kws pos) (tMakeKS C 0 ks.length sp gV E tNil tk) := by
  refine ⟨fun pins s σ H Q I h => ?_⟩
  refine wpAny_Call_Name_kw (ld_glob I hg hm ?_ hdb)
  refine PySem.W.callWith_KW0 (h₀ := X.base) I.ok.mod.kin M.kp hall ?_ hpl
  refine thn (hkw.run pos pins s σ H _ I h) fun ws s2 ⟨zs, H2, I2, rz, l1, l2, q2⟩ => ⟨I2.kIn, ?_⟩
  rw [hks]
  exact run_makeKS (us := []) (vs := []) M F hr hb (hx σ) I2 .nil rz rfl l2 q2
end
theorem x_bmT {r : V → List V → Hp → VK → Prop} {to : TE} {t : TA} {σ : L2.St} {H : Hp} {Q : VK} (h : to σ H fun x H1 => (∃ a o xs, x = .ref a ∧ H1 a = some (.frz o (.tup xs)) ∧ o.dict = none) ∧ t σ H1 fun xs H2 => r x xs H2 Q) : tBMT r to t σ H Q := h
end Cb
/-! ### the executor: one step by the head of the goal; hl: an object at an address; sd: a side goal -/
local macro_rules | `(tactic| walk_at "hl") => `(tactic| ((repeat' (first
  | (show _ = some _; assumption)
  | (show L2.SqL _ _ _ _; assumption)
  | (show L2.SqT _ _ _ _; assumption)
  | exact L2.upd_same
  | (refine' Cb.upd_old (by assumption) ?_)
  | (refine' Cb.Same.get (by assumption) ?_)
  | (refine' Cb.upd_oth (by first | assumption | exact Ne.symm (by assumption)) ?_)
  | (refine' Cb.Kp.get (by assumption) (by first | assumption | exact Ne.symm (by assumption)) ?_)
  | (refine' L2.SqL.of ?_)
  | (refine' Cb.Same.sql (by assumption) ?_)
  | (refine' Cb.Kp.sql (by assumption) (by first | assumption | exact Ne.symm (by assumption)) ?_)
  | (refine' Cb.Kq.get (by assumption) (by first | assumption | exact Ne.symm (by assumption)) (by first | assumption | exact Ne.symm (by assumption)) ?_)
  | (refine' L2.SqT.of ?_)
  | (refine' Cb.Same.sqt (by assumption) ?_)))))
local macro_rules | `(tactic| walk_at "sd") => `(tactic| first
  | assumption
  | rfl
  | omega
  | decide
  | exact ⟨by omega, by omega⟩
  | exact Or.inl ⟨by omega, by omega⟩
  | exact Or.inr ⟨by omega, by omega⟩
  | exact ⟨by omega, by omega, by omega⟩)
local macro_rules | `(tactic| walk_at "go") => `(tactic| repeat (first
  | with_reducible refine Cb.x_seq ?_
  | ((with_reducible apply Cb.x_var); (· exact rfl))
  | with_reducible refine Cb.x_c ?_
  | with_reducible refine Cb.x_op ?_
  | with_reducible refine Cb.x_rI0 ?_
  | ((with_reducible apply Cb.x_rI); (· walk_at "sd"))
  | with_reducible refine Cb.x_asg ?_
  | with_reducible refine Cb.x_gname ?_
  | with_reducible refine Cb.x_eqI ?_
  | with_reducible refine Cb.x_neI ?_
  | with_reducible refine Cb.x_test ?_
  | with_reducible refine Cb.x_tB ?_
  | with_reducible refine Cb.x_bl ?_
  | with_reducible refine Cb.x_ifs ?_
  | with_reducible refine Cb.x_cons ?_
  | with_reducible refine Cb.x_nil ?_
  | with_reducible refine Cb.x_call ?_
  | with_reducible refine Cb.x_callN ?_
  | with_reducible refine Cb.x_cb ?_
  | with_reducible refine Cb.x_int1 ?_
  | with_reducible refine Cb.x_int ?_
  | with_reducible refine Cb.x_ret ?_
  | with_reducible refine Cb.x_retN ?_
  | with_reducible refine Cb.x_drop ?_
  | with_reducible refine Cb.x_next ?_
  | with_reducible refine Cb.x_brk ?_
  | with_reducible refine Cb.x_cont ?_
  | ((with_reducible apply Cb.x_aug); (· exact rfl))
  | with_reducible refine Cb.x_ipI ?_
  | with_reducible refine Cb.x_rU ?_
  | with_reducible refine Cb.x_un ?_
  | with_reducible refine Cb.x_if ?_
  | with_reducible refine Cb.x_and ?_
  | with_reducible refine Cb.x_or ?_
  | with_reducible refine Cb.x_not ?_
  | with_reducible refine Cb.x_andV ?_
  | with_reducible refine Cb.x_orV ?_
  | with_reducible refine Cb.x_notV ?_
  | with_reducible refine Cb.x_chain ?_
  | with_reducible refine Cb.x_chain3 ?_
  | with_reducible refine Cb.x_ch2 ?_
  | with_reducible refine Cb.x_par ?_
  | with_reducible refine Cb.x_par2 ?_
  | with_reducible refine Cb.x_lst ?_
  | with_reducible refine Cb.x_tup ?_
  | with_reducible refine Cb.x_sub ?_
  | with_reducible refine Cb.x_sl ?_
  | with_reducible refine Cb.x_nopart ?_
  | with_reducible refine Cb.x_part ?_
  | with_reducible refine Cb.x_bm ?_
  | with_reducible refine Cb.x_bm0 ?_
  | with_reducible refine Cb.x_iteT ?_
  | with_reducible refine Cb.x_iteF ?_
  | with_reducible refine Cb.x_iteNT ?_
  | with_reducible refine Cb.x_iteNF ?_
  | with_reducible refine Cb.x_iteS ?_
  | with_reducible refine Cb.x_iteO ?_
  | with_reducible refine Cb.x_iteNS ?_
  | with_reducible refine Cb.x_iteNO ?_
  | with_reducible refine Cb.x_tYes ?_
  | with_reducible refine Cb.x_forL ?_
  | with_reducible refine Cb.x_forT ?_
  | with_reducible refine Cb.x_forR1 ?_
  | with_reducible refine Cb.x_forR2 ?_
  | with_reducible refine Cb.x_lcL ?_
  | with_reducible refine Cb.x_lcT ?_
  | with_reducible refine Cb.x_lcR1 ?_
  | with_reducible refine Cb.x_lcR2 ?_
  | with_reducible refine Cb.x_dget ?_
  | with_reducible refine Cb.x_din ?_
  | with_reducible refine Cb.x_dni ?_
  | with_reducible refine Cb.x_dput ?_
  | with_reducible refine Cb.x_dnew ?_
  | with_reducible refine Cb.x_dget2 ?_
  | with_reducible refine Cb.x_fldR ?_
  | ((with_reducible apply Cb.x_fldI); (· walk_at "hl"); (· assumption); (· assumption); (· exact rfl))
  | with_reducible refine Cb.x_sfld ?_
  | with_reducible refine Cb.x_meth ?_
  | ((with_reducible apply Cb.x_methI); (· walk_at "hl"); (· exact rfl))
  | with_reducible refine Cb.x_make ?_
  | ((with_reducible apply Cb.x_gtup); (· walk_at "hl"); (· exact rfl))
  | ((with_reducible apply Cb.x_gunl); (· walk_at "hl"); (· exact rfl))
  | with_reducible refine Cb.x_gcons ?_
  | with_reducible refine Cb.x_gnil ?_
  | with_reducible refine Cb.x_listVals ?_
  | with_reducible refine Cb.x_tM1 ?_
  | with_reducible refine Cb.x_isS ?_
  | ((with_reducible apply Cb.x_vals); (· walk_at "hl"))
  | with_reducible refine Cb.x_gcd ?_
  | with_reducible refine Cb.x_maxTwo ?_
  | with_reducible refine Cb.x_minTwo ?_
  | with_reducible refine Cb.x_inSg ?_
  | with_reducible refine Cb.x_niSg ?_
  | with_reducible refine Cb.x_isNn ?_
  | with_reducible refine Cb.x_noNn ?_
  | with_reducible refine Cb.x_eqS ?_
  | with_reducible refine Cb.x_neS ?_
  | with_reducible refine Cb.x_eqB ?_
  | with_reducible refine Cb.x_neB ?_
  | with_reducible refine Cb.x_pstar ?_
  | with_reducible refine Cb.x_forS ?_
  | with_reducible refine Cb.x_lcStr ?_
  | with_reducible refine Cb.x_forE ?_
  | with_reducible refine Cb.x_dcT ?_
  | ((with_reducible apply Cb.x_strN); (· walk_at "sd"))
  | with_reducible refine Cb.x_isII ?_
  | with_reducible refine Cb.x_isIB ?_
  | with_reducible refine Cb.x_isIL ?_
  | with_reducible refine Cb.x_isIT ?_
  | with_reducible refine Cb.x_isID ?_
  | with_reducible refine Cb.x_isIS ?_
  | with_reducible refine Cb.x_isSS ?_
  | ((with_reducible apply Cb.x_dictOf); (· walk_at "hl"))
  | with_reducible refine Cb.x_abs ?_
  | with_reducible refine Cb.x_augS ?_
  | with_reducible refine Cb.x_forEL ?_
  | with_reducible refine Cb.x_revL ?_
  | ((with_reducible apply Cb.x_revLI); (· walk_at "hl"))
  | with_reducible refine Cb.x_bits ?_
  | with_reducible refine Cb.x_truI ?_
  | ((with_reducible apply Cb.x_ixL); (· walk_at "hl"); (· first | exact rfl | assumption))
  | ((with_reducible apply Cb.x_ixT); (· walk_at "hl"); (· first | exact rfl | assumption))
  | ((with_reducible apply Cb.x_setL); (· walk_at "hl"); (· first | exact rfl | assumption))
  | ((with_reducible apply Cb.x_lenL); (· walk_at "hl"))
  | ((with_reducible apply Cb.x_tyL); (· walk_at "hl"))))
namespace Cb
open PySem PySem.Spec PyProof.Rows L2
/-! ### the law's source of draws (six places) -/
/-- a bag stands at b, its cells at l -/
structure BagAt (H : Hp) (b l : Addr) : Prop where
  ex : ∃ (ns : List Int) (i : Nat) (g e x c : Int), H b = some (.lst [.ref l, .int i, .int g, .int e, .int x, .int c]) ∧ H l = some (.lst (ns.map V.int)) ∧ ns.length ≤ 63 ∧ 0 ≤ g ∧ 0 ≤ x ∧ x < 2147483549
theorem BagAt.ne {H : Hp} {b l : Addr} (B : BagAt H b l) : l ≠ b := by
  obtain ⟨ns, i, g, e, x, c, h1, h2, _⟩ := B.ex
  intro z
  rw [z, h1] at h2
  cases ns <;> simp at h2
theorem BagAt.same {H H' : Hp} {b l : Addr} (B : BagAt H b l) (s : Same H H') : BagAt H' b l := by
  obtain ⟨ns, i, g, e, x, c, h1, h2, h3⟩ := B.ex
  exact ⟨ns, i, g, e, x, c, s _ _ h1, s _ _ h2, h3⟩
theorem BagAt.upd {H : Hp} {b l p : Addr} {o : HO} (B : BagAt H b l) (n1 : p ≠ b) (n2 : p ≠ l) : BagAt (upd H p o) b l := by
  obtain ⟨ns, i, g, e, x, c, h1, h2, h3⟩ := B.ex
  exact ⟨ns, i, g, e, x, c, by rw [upd_ne n1.symm]; exact h1, by rw [upd_ne n2.symm]; exact h2, h3⟩
theorem BagAt.b_some {H : Hp} {b l : Addr} (B : BagAt H b l) : H b ≠ none := by
  obtain ⟨ns, i, g, e, x, c, h1, _⟩ := B.ex
  rw [h1]
  intro z
  cases z
theorem BagAt.l_some {H : Hp} {b l : Addr} (B : BagAt H b l) : H l ≠ none := by
  obtain ⟨ns, i, g, e, x, c, _, h1, _⟩ := B.ex
  rw [h1]
  intro z
  cases z
theorem BagAt.new {H : Hp} {b l p : Addr} {o : HO} (B : BagAt H b l) (hp : H p = none) : BagAt (L2.upd H p o) b l := B.same (Same.new hp)
theorem BagAt.kp {H H' : Hp} {b l c : Addr} (B : BagAt H b l) (s : Kp c H H') (n1 : b ≠ c) (n2 : l ≠ c) : BagAt H' b l := by
  obtain ⟨ns, i, g, e, x, c, h1, h2, h3⟩ := B.ex
  exact ⟨ns, i, g, e, x, c, s _ _ n1 h1, s _ _ n2 h2, h3⟩
theorem BagAt.kq {H H' : Hp} {b l c d : Addr} (B : BagAt H b l) (s : Kq c d H H') (n1 : b ≠ c) (m1 : b ≠ d) (n2 : l ≠ c) (m2 : l ≠ d) : BagAt H' b l := by
  obtain ⟨ns, i, g, e, x, c, h1, h2, h3⟩ := B.ex
  exact ⟨ns, i, g, e, x, c, s _ _ n1 m1 h1, s _ _ n2 m2 h2, h3⟩
theorem Kp.upd {b : Addr} {H H' : Hp} {o : HO} (k : Kp b H H') : Kp b H (upd H' b o) := fun a u n e => by
  rw [upd_ne n]
  exact k a u n e
end Cb
namespace Cb
open PySem PySem.Spec PyProof.Rows L2
/-! ### the head's look, with imported built-ins beside -/
def bltB (K : PySem.W.Frag) (q : Str × String) : Bool := match PySem.W.nsIn K mainGlobals q.1 with
  | some (some (.builtin i)) => decide (i = q.2)
  | _ => false
theorem bltB_ok {K : PySem.W.Frag} {h : Heap} {mg : Str → Option Value} (X : K.In h) (G : h.Ns mainGlobals mg) {q : Str × String} (c : bltB K q = true) : mg q.1 = some (.builtin q.2) := by
  unfold bltB at c
  split at c
  · rename_i i e
    have e2 : i = q.2 := of_decide_eq_true c
    rw [e2] at e
    exact PySem.W.mg_of X G e
  · cases c
abbrev AlY : Type := He.AlD × Bool
def obsY (fa : List He.Fa) (fn : List He.DefD) (ex : List (Str × String)) (K : PySem.W.Frag) : AlY := (He.obsD fa fn K, ex.all (bltB K))
def obsYG (n : Nat) (fa : List He.Fa) (fn : List He.DefD) (ex : List (Str × String)) (g : Addr → Option Obj) : AlY := obsY fa fn ex (He.frG g (He.asD g n))
structure SaysY (fa : List He.Fa) (fn : List He.DefD) (ex : List (Str × String)) (K : PySem.W.Frag) : Prop where
  eq : obsY fa fn ex K = (He.valD fn, true)
theorem SaysY.d {fa : List He.Fa} {fn : List He.DefD} {ex : List (Str × String)} {K : PySem.W.Frag} (c : SaysY fa fn ex K) : He.SaysD fa fn K := congrArg (fun z : AlY => z.1) c.eq
theorem SaysY.e {fa : List He.Fa} {fn : List He.DefD} {ex : List (Str × String)} {K : PySem.W.Frag} (c : SaysY fa fn ex K) : ex.all (bltB K) = true := congrArg (fun z : AlY => z.2) c.eq
def hookY (n : Nat) (fa : List He.Fa) (fn : List He.DefD) (ex : List (Str × String)) : PySem.W.Hook where
  α := AlY
  obs := fun s => obsYG n fa fn ex s.heap.get?
  val := fun _ => (He.valD fn, true)
  says := fun _ h => ∃ K : PySem.W.Frag, K.In h ∧ SaysY fa fn ex K
  of := fun _ _ e => ⟨_, He.frG_in, ⟨e⟩⟩
  keeps := fun _ _ _ ⟨K, hK, c⟩ k => ⟨K, PySem.W.Frag.In.keeps hK k, c⟩
theorem obsYG_eq {n : Nat} {fa : List He.Fa} {fn : List He.DefD} {ex : List (Str × String)} {g : Addr → Option Obj} {s : Shared} (h : ∀ a, g a = s.heap.get? a) : obsYG n fa fn ex g = (hookY n fa fn ex).obs s := by
  have e : g = s.heap.get? := funext h
  rw [e] <;> rfl
theorem kbn_of {K : PySem.W.Frag} {x qual : Str} {params : Arguments} {body : List Stmt} {scope : Scope} {kws : List (Str × V)} {f : Addr} {fd : FuncData} {ps ks : List Str} {n : Nat} {g : List Value → List Value → List Value} {gV : List V → List V → List V} (F : FunD K x qual params body scope [] kws f fd)
    (h : ∀ (kV doc pm : Value) (an : Option Addr) (cdv ct : Value) (us ws : List Value), us.length = n → ws.length = ks.length → bindArgs (PySem.W.fnOf x qual params body scope .none kV doc pm an cdv ct) ⟨us, ks.zip ws⟩ = pure (ps.zip (g us ws))) (hr : ∀ {vs zs : List V} {us ws : List Value}, Vals vs us → Vals zs ws → Vals (gV vs zs) (g us ws)) : KBn K fd ps n ks g gV := by
  refine ⟨fun s us ws X l1 l2 => ?_, fun r1 r2 => hr r1 r2⟩
  obtain ⟨oc, od, dV, kV, doc, pm, an, cdv, ct, osl, rfl, lk, hcd, hD, hK⟩ := F.ex
  rcases hD with ⟨_, rfl⟩ | ⟨e, _⟩
  · exact .of_eq (h kV doc pm an cdv ct us ws l1 l2)
  · exact absurd rfl e
end Cb
namespace Cb
open PySem PySem.Spec PyProof.Rows L2
/-! ### the head's look, with errors beside -/
/-- a class of errors with its __init__: the name, the built-in base, the text -/
structure ErD where
  cn : Str
  B : String
  newId : String
  i : String
  bmB : List Value
  qual : Str
  msg : Str
  file : Str
  params : Arguments
  nms : List (Str × NameKind)
  z : SupP
  fs : List (Str × SupQ)
def ErD.body (d : ErD) : List Stmt := supE d.msg d.z :: d.fs.map fun p => supA p.1 p.2
abbrev ErW : Type := Option (Str × Str × Arguments × FuncBody × Scope × Addr × Addr)
def ErD.fa (d : ErD) (K : PySem.W.Frag) : Addr := He.fAd K (d.cn, some "__init__")
def ErD.w (K : PySem.W.Frag) (d : ErD) : ErW := match K.lookup (d.fa K) with
  | some ⟨_, _, .func fd, _⟩ => some (fd.name, fd.qualname, fd.params, fd.body, fd.scope, fd.globals, fd.builtins)
  | _ => none
def ErD.v (d : ErD) : ErW := some ("__init__", d.qual, d.params, .stmts d.body, supS d.nms, mainGlobals, builtinsNs)
/-- the function's own part: its cell, its code -/
def ErD.fnB (d : ErD) (K : PySem.W.Frag) : Bool := match K.lookup (d.fa K) with
  | some ⟨_, _, .func fd, _⟩ => (match fd.closure, fd.code, fd.defaults, fd.kwdefaults with
    | [(n, cc)], .ref cda, .none, .none => decide (n = ("__class__" : Str)) && (PySem.W.codeIn K (.ref cda) d.qual && ((match K.lookup cda with
        | some ⟨_, _, .fields vs, _⟩ => (match (vs[2]? : Option Value) with
          | some (Value.str file _) => d.file == file
          | _ => false)
        | _ => false) && (match K.lookup cc with
        | some ⟨_, _, .cell (some (.ref D)), _⟩ => decide (D = He.ga K d.cn)
        | _ => false)))
    | _, _, _, _ => false)
  | _ => false
/-- the class says what isinstance and its fields' reading ask -/
def excB (K : PySem.W.Frag) (C : Addr) : Bool := [decide (PySem.W.findIn K (.ref C) "__getattribute__" = some (some (.builtin "BaseException.__getattribute__"))), decide (PySem.W.findIn K (.ref C) "__getattr__" = some none),
  decide (PySem.W.subIn K (.ref C) (.type "BaseException") = some true), PySem.W.hasDictIn K C, decide (PySem.W.findIn K (.ref C) "__class__" = some (some (.builtin "object.__class__"))),
  decide (PySem.W.specialIn K (.builtin "object.__class__") "__get__" = some (some (.builtin "getset_descriptor.__get__"))), decide (PySem.W.takesIn K (.builtin "object.__class__") = some true), decide (PySem.W.mroIn K C (.type "object") = some true)].all id
theorem excB_ok {K : PySem.W.Frag} {C : Addr} (h : excB K C = true) : ExcC K C := by
  have g : ∀ (i : Nat) (b : Bool), ([decide (PySem.W.findIn K (.ref C) "__getattribute__" = some (some (.builtin "BaseException.__getattribute__"))), decide (PySem.W.findIn K (.ref C) "__getattr__" = some none),
    decide (PySem.W.subIn K (.ref C) (.type "BaseException") = some true), PySem.W.hasDictIn K C, decide (PySem.W.findIn K (.ref C) "__class__" = some (some (.builtin "object.__class__"))),
    decide (PySem.W.specialIn K (.builtin "object.__class__") "__get__" = some (some (.builtin "getset_descriptor.__get__"))), decide (PySem.W.takesIn K (.builtin "object.__class__") = some true), decide (PySem.W.mroIn K C (.type "object") = some true)] : List Bool)[i]? = some b → b = true :=
    fun i b e => List.all_eq_true.mp (show List.all _ id = true from h) b (List.mem_of_getElem? e)
  exact ⟨of_decide_eq_true (g 0 _ rfl), of_decide_eq_true (g 1 _ rfl), of_decide_eq_true (g 2 _ rfl), g 3 _ rfl, of_decide_eq_true (g 4 _ rfl), of_decide_eq_true (g 5 _ rfl), of_decide_eq_true (g 6 _ rfl), of_decide_eq_true (g 7 _ rfl)⟩
def ErD.ok (d : ErD) (K : PySem.W.Frag) : Bool :=
  let C := He.ga K d.cn
  [PySem.W.excInitIn K C d.bmB d.newId, PySem.W.excOver K C d.bmB, PySem.W.hasDictIn K C, decide (PySem.W.findIn K (.ref C) "__setattr__" = some (some (.builtin "object.__setattr__"))),
    PySem.W.keepIn K (.ref C), decide (PySem.W.subIn K (.ref C) (.type "BaseException") = some true), decide (PySem.W.subIn K (.ref C) (.type d.B) = some true), decide (PySem.W.typeIn K (.ref C) = some (.type "type")),
    decide (PySem.W.nsIn K cStatics "thirdparty.any" = some none), decide (PySem.W.mroIn K C (.ref C) = some true), decide (PySem.W.ks_superIn K C C "__init__" = some (some (.builtin d.i))),
    excB K C, d.fs.all fun p => decide (PySem.W.takerIn K C p.1 = some none) && decide (PySem.W.findIn K (.ref C) p.1 = some none), decide (PySem.W.nsIn K mainGlobals d.cn = some (some (.ref C))), decide (PySem.W.nsIn K mainGlobals "super" = some none),
    decide (PySem.W.findIn K (.ref C) "__init__" = some (some (.ref (d.fa K)))), decide (PySem.W.typeIn K (.ref (d.fa K)) = some (.type "function")), d.fnB K].all id
theorem ErD.get {d : ErD} {K : PySem.W.Frag} (h : d.ok K = true) (i : Nat) {b : Bool} (e : ([PySem.W.excInitIn K (He.ga K d.cn) d.bmB d.newId, PySem.W.excOver K (He.ga K d.cn) d.bmB, PySem.W.hasDictIn K (He.ga K d.cn), decide (PySem.W.findIn K (.ref (He.ga K d.cn)) "__setattr__" = some (some (.builtin "object.__setattr__"))),
    PySem.W.keepIn K (.ref (He.ga K d.cn)), decide (PySem.W.subIn K (.ref (He.ga K d.cn)) (.type "BaseException") = some true), decide (PySem.W.subIn K (.ref (He.ga K d.cn)) (.type d.B) = some true), decide (PySem.W.typeIn K (.ref (He.ga K d.cn)) = some (.type "type")),
    decide (PySem.W.nsIn K cStatics "thirdparty.any" = some none), decide (PySem.W.mroIn K (He.ga K d.cn) (.ref (He.ga K d.cn)) = some true), decide (PySem.W.ks_superIn K (He.ga K d.cn) (He.ga K d.cn) "__init__" = some (some (.builtin d.i))),
    excB K (He.ga K d.cn), d.fs.all fun p => decide (PySem.W.takerIn K (He.ga K d.cn) p.1 = some none) && decide (PySem.W.findIn K (.ref (He.ga K d.cn)) p.1 = some none), decide (PySem.W.nsIn K mainGlobals d.cn = some (some (.ref (He.ga K d.cn)))), decide (PySem.W.nsIn K mainGlobals "super" = some none),
    decide (PySem.W.findIn K (.ref (He.ga K d.cn)) "__init__" = some (some (.ref (d.fa K)))), decide (PySem.W.typeIn K (.ref (d.fa K)) = some (.type "function")), d.fnB K] : List Bool)[i]? = some b) : b = true := by
  have h' : List.all _ id = true := h
  exact List.all_eq_true.mp h' b (List.mem_of_getElem? e)
/-- what the program's own frame must say -/
structure ErP (P : Program) (file : Str) : Prop where
  file : ((P.main.file : Str) == file) = true
  top : (P.main.scope.names.lookup ("super" : Str)).isSome = false
section
variable {P : Program} {K : PySem.W.Frag} {h : Heap} {mg : Str → Option Value} {d : ErD}
theorem ErD.erC (X : K.In h) (G : h.Ns mainGlobals mg) (c : d.ok K = true) : ErC K mg d.cn (He.ga K d.cn) where
  g := PySem.W.mg_of X G (of_decide_eq_true (ErD.get c 13 rfl))
  gs := PySem.W.mg_none_of X G (of_decide_eq_true (ErD.get c 14 rfl))
  kC := ErD.get c 4 rfl
  exC := of_decide_eq_true (ErD.get c 5 rfl)
  tyC := of_decide_eq_true (ErD.get c 7 rfl)
  ec := excB_ok (ErD.get c 11 rfl)
theorem ErD.supC (FB : ExcBaseFacts d.B d.newId d.i d.bmB) (SF : StoreFacts d.B d.bmB "object.__setattr__" "object") (KF : PySem.W.KxsFacts d.B d.i) (c : d.ok K = true) : SupC K d.B d.newId d.i d.bmB (He.ga K d.cn) where
  FB := FB
  SF := SF
  KF := KF
  exI := ErD.get c 0 rfl
  ov := ErD.get c 1 rfl
  hdC := ErD.get c 2 rfl
  sa := of_decide_eq_true (ErD.get c 3 rfl)
  kC := ErD.get c 4 rfl
  exC := of_decide_eq_true (ErD.get c 5 rfl)
  subB := of_decide_eq_true (ErD.get c 6 rfl)
  tyC := of_decide_eq_true (ErD.get c 7 rfl)
  tp := of_decide_eq_true (ErD.get c 8 rfl)
  mroC := of_decide_eq_true (ErD.get c 9 rfl)
  supI := of_decide_eq_true (ErD.get c 10 rfl)
theorem ErD.supF (hP : ErP P d.file) (c : d.ok K = true) (e : d.w K = d.v) : SupF P K (He.ga K d.cn) (d.fa K) d.qual d.params d.body (supS d.nms) where
  iC := of_decide_eq_true (ErD.get c 15 rfl)
  tI := of_decide_eq_true (ErD.get c 16 rfl)
  top := hP.top
  fn := by
    have f := ErD.get c 17 rfl
    unfold ErD.fnB at f
    unfold ErD.w at e
    cases q : K.lookup (d.fa K) with
    | none => rw [q] at f; cases f
    | some o =>
      obtain ⟨oc, od, dt, osl⟩ := o
      rw [q] at f e
      cases dt with
      | func fd =>
        obtain ⟨n1, n2, n3, n4, n5, n6, n7, n8, n9, n10, n11, n12, n13, n14, n15⟩ := fd
        have e2 : (some (n1, n2, n3, n4, n5, n6, n15) : ErW) = some (("__init__" : Str), d.qual, d.params, FuncBody.stmts d.body, supS d.nms, mainGlobals, builtinsNs) := e
        simp only [Option.some.injEq, Prod.mk.injEq] at e2
        obtain ⟨h1, h2, h3, h4, h5, h6, h7⟩ := e2
        subst h1 h2 h3 h4 h5 h6 h7
        dsimp only at f
        split at f
        · rename_i n cc cda
          obtain ⟨f1, f2⟩ := Bool.and_eq_true_iff.mp f
          obtain ⟨f2, f3⟩ := Bool.and_eq_true_iff.mp f2
          obtain ⟨f3, f4⟩ := Bool.and_eq_true_iff.mp f3
          have en := of_decide_eq_true f1
          subst en
          split at f3
          · rename_i ccl cdd vs ccs q2
            split at f3
            · rename_i file tf q3
              split at f4
              · rename_i cl cld D csl q4
                have eD := of_decide_eq_true f4
                subst eD
                have ef : d.file = file := eq_of_beq f3
                exact ⟨oc, od, _, _, _, cda, _, cc, osl, ⟨rfl, f2⟩, ⟨ccl, cdd, vs, ccs, file, tf, q2, q3, ef ▸ hP.file⟩, cl, cld, csl, q4⟩
              · cases f4
            · cases f3
          · cases f3
        · cases f
      | _ => cases f
theorem ErD.er1 {f : Str} {z1 : SupQ} (X : K.In h) (G : h.Ns mainGlobals mg) (hP : ErP P d.file) (c : d.ok K = true) (e : d.w K = d.v) (hf : d.fs = [(f, z1)]) (FB : ExcBaseFacts d.B d.newId d.i d.bmB) (SF : StoreFacts d.B d.bmB "object.__setattr__" "object") (KF : PySem.W.KxsFacts d.B d.i)
    (TS : SupS1 d.qual d.msg f d.params d.nms d.z z1) : Er1 P K mg d.cn (He.ga K d.cn) f := by
  have b := ErD.supF hP c e
  have t := ErD.get c 12 rfl
  unfold ErD.body at b
  rw [hf] at b t
  have t1 := List.all_eq_true.mp t (f, z1) (List.mem_cons_self ..)
  obtain ⟨t1, t2⟩ := Bool.and_eq_true_iff.mp t1
  exact { ErD.erC X G c with ex := ⟨_, _, _, _, _, _, _, _, _, _, _, ErD.supC FB SF KF c, b, TS⟩, tf := of_decide_eq_true t1, nof := of_decide_eq_true t2 }
theorem ErD.er2 {f f' : Str} {z1 z2 : SupQ} (X : K.In h) (G : h.Ns mainGlobals mg) (hP : ErP P d.file) (c : d.ok K = true) (e : d.w K = d.v) (hf : d.fs = [(f, z1), (f', z2)]) (FB : ExcBaseFacts d.B d.newId d.i d.bmB) (SF : StoreFacts d.B d.bmB "object.__setattr__" "object") (KF : PySem.W.KxsFacts d.B d.i)
    (TS : SupS2 d.qual d.msg f f' d.params d.nms d.z z1 z2) : Er2 P K mg d.cn (He.ga K d.cn) f f' := by
  have b := ErD.supF hP c e
  have t := ErD.get c 12 rfl
  unfold ErD.body at b
  rw [hf] at b t
  have t1 := List.all_eq_true.mp t (f, z1) (List.mem_cons_self ..)
  have t2 := List.all_eq_true.mp t (f', z2) (List.mem_cons_of_mem _ (List.mem_cons_self ..))
  obtain ⟨t1, u1⟩ := Bool.and_eq_true_iff.mp t1
  obtain ⟨t2, u2⟩ := Bool.and_eq_true_iff.mp t2
  exact { ErD.erC X G c with ex := ⟨_, _, _, _, _, _, _, _, _, _, _, _, ErD.supC FB SF KF c, b, TS⟩, tf := of_decide_eq_true t1, tg := of_decide_eq_true t2, nof := of_decide_eq_true u1, nog := of_decide_eq_true u2 }
end
/-! ### the hook -/
abbrev AlZ : Type := AlY × (Bool × List ErW)
def asZ (g : Addr → Option Obj) (n : Nat) : List Addr := He.asD g n ++ [cStatics]
def obsZ (fa : List He.Fa) (fn : List He.DefD) (ex : List (Str × String)) (er : List ErD) (xb : PySem.W.Frag → Bool) (K : PySem.W.Frag) : AlZ := (obsY fa fn ex K, (er.all (fun d => d.ok K) && xb K, er.map fun d => d.w K))
def valZ (fn : List He.DefD) (er : List ErD) : AlZ := ((He.valD fn, true), (true, er.map ErD.v))
def obsZG (n : Nat) (fa : List He.Fa) (fn : List He.DefD) (ex : List (Str × String)) (er : List ErD) (xb : PySem.W.Frag → Bool) (g : Addr → Option Obj) : AlZ := obsZ fa fn ex er xb (He.frG g (asZ g n))
structure SaysZ (fa : List He.Fa) (fn : List He.DefD) (ex : List (Str × String)) (er : List ErD) (xb : PySem.W.Frag → Bool) (K : PySem.W.Frag) : Prop where
  eq : obsZ fa fn ex er xb K = valZ fn er
section
variable {fa : List He.Fa} {fn : List He.DefD} {ex : List (Str × String)} {er : List ErD} {xb : PySem.W.Frag → Bool} {K : PySem.W.Frag}
theorem SaysZ.y (c : SaysZ fa fn ex er xb K) : SaysY fa fn ex K := ⟨congrArg (fun z : AlZ => z.1) c.eq⟩
theorem SaysZ.ok (c : SaysZ fa fn ex er xb K) (i : Nat) {d : ErD} (h : er[i]? = some d := by rfl) : d.ok K = true := by
  have z : (er.all (fun d => d.ok K) && xb K) = true := congrArg (fun z : AlZ => z.2.1) c.eq
  exact List.all_eq_true.mp (Bool.and_eq_true_iff.mp z).1 d (List.mem_of_getElem? h)
theorem SaysZ.xok (c : SaysZ fa fn ex er xb K) : xb K = true := by
  have z : (er.all (fun d => d.ok K) && xb K) = true := congrArg (fun z : AlZ => z.2.1) c.eq
  exact (Bool.and_eq_true_iff.mp z).2
theorem SaysZ.wv (c : SaysZ fa fn ex er xb K) (i : Nat) {d : ErD} (h : er[i]? = some d := by rfl) : d.w K = d.v := by
  have z : er.map (fun d => d.w K) = er.map ErD.v := congrArg (fun z : AlZ => z.2.2) c.eq
  have e2 : (er.map fun d => d.w K)[i]? = (er.map ErD.v)[i]? := by rw [z]
  rw [List.getElem?_map, List.getElem?_map, h] at e2
  exact Option.some.inj e2
end
def hookZ (n : Nat) (fa : List He.Fa) (fn : List He.DefD) (ex : List (Str × String)) (er : List ErD) (xb : PySem.W.Frag → Bool) : PySem.W.Hook where
  α := AlZ
  obs := fun s => obsZG n fa fn ex er xb s.heap.get?
  val := fun _ => valZ fn er
  says := fun _ h => ∃ K : PySem.W.Frag, K.In h ∧ SaysZ fa fn ex er xb K
  of := fun _ _ e => ⟨_, He.frG_in, ⟨e⟩⟩
  keeps := fun _ _ _ ⟨K, hK, c⟩ k => ⟨K, PySem.W.Frag.In.keeps hK k, c⟩
theorem obsZG_eq {n : Nat} {fa : List He.Fa} {fn : List He.DefD} {ex : List (Str × String)} {er : List ErD} {xb : PySem.W.Frag → Bool} {g : Addr → Option Obj} {s : Shared} (h : ∀ a, g a = s.heap.get? a) : obsZG n fa fn ex er xb g = (hookZ n fa fn ex er xb).obs s := by
  have e : g = s.heap.get? := funext h
  rw [e] <;> rfl
end Cb
set_option linter.all false
namespace Rk
section
variable {α : Type} [DecidableEq α]
def up (v : α → Bool) (a : α) : α → Bool := fun i => if i = a then true else v i
def ad (u v : α → Bool) : α → Bool := fun i => xor (u i) (v i)
/-- v is false off l -/
def On (l : List α) (v : α → Bool) : Prop := ∀ i, i ∉ l → v i = false
def sm : List α → ((α → Bool) → Int) → Int
  | [], f => f fun _ => false
  | a :: l, f => sm l f + sm l fun v => f (up v a)
def px (l : List α) (f : α → Bool) : Bool := l.foldr (fun a b => xor (f a) b) false
def sg (b : Bool) : Int := if b then -1 else 1
theorem sg_xor (a b : Bool) : sg (xor a b) = sg a * sg b := by cases a <;> cases b <;> rfl
theorem sg_sq (a : Bool) : sg a * sg a = 1 := by cases a <;> rfl
theorem On.cons {a : α} {l : List α} {v : α → Bool} (h : On l v) : On (a :: l) v := fun i hi => h i fun z => hi (List.mem_cons_of_mem _ z)
theorem On.up {a : α} {l : List α} {v : α → Bool} (h : On l v) : On (a :: l) (up v a) := fun i hi => by
  unfold Rk.up
  rw [if_neg fun e : i = a => hi (by rw [e]; exact List.mem_cons_self ..)]
  exact h i fun z => hi (List.mem_cons_of_mem _ z)
theorem On.ad {l : List α} {u v : α → Bool} (h : On l u) (k : On l v) : On l (ad u v) := fun i hi => by
  unfold Rk.ad
  rw [h i hi, k i hi]; rfl
theorem sm_congr : ∀ {l : List α} {f g : (α → Bool) → Int}, (∀ v, On l v → f v = g v) → sm l f = sm l g
  | [], f, g, h => h _ fun _ _ => rfl
  | a :: l, f, g, h => by
    unfold sm
    rw [sm_congr (l := l) fun v hv => h v hv.cons, sm_congr (l := l) fun v hv => h _ hv.up]
theorem sm_cons (a : α) (l : List α) (f : (α → Bool) → Int) : sm (a :: l) f = sm l f + sm l fun v => f (up v a) := rfl
theorem sm_add (l : List α) (f g : (α → Bool) → Int) : sm l (fun v => f v + g v) = sm l f + sm l g := by
  induction l generalizing f g with
  | nil => rfl
  | cons a l ih => unfold sm; rw [ih, ih]; omega
theorem sm_mul (l : List α) (c : Int) (f : (α → Bool) → Int) : sm l (fun v => c * f v) = c * sm l f := by
  induction l generalizing f with
  | nil => rfl
  | cons a l ih => unfold sm; rw [ih, ih, Int.mul_add]
theorem sm_zero (l : List α) : sm l (fun _ => 0) = 0 := by
  induction l with
  | nil => rfl
  | cons a l ih => unfold sm; rw [ih]; rfl
theorem sm_one (l : List α) : sm l (fun _ => 1) = 2 ^ l.length := by
  induction l with
  | nil => rfl
  | cons a l ih => unfold sm; rw [ih, List.length_cons, Int.pow_succ]; omega
theorem sm_swap {β : Type} [DecidableEq β] (l : List α) (m : List β) (f : (α → Bool) → (β → Bool) → Int) : sm l (fun u => sm m fun v => f u v) = sm m fun v => sm l fun u => f u v := by
  induction l generalizing f with
  | nil => rfl
  | cons a l ih => rw [sm_cons, ih, ih, ← sm_add]; rfl
theorem sm_ne {l : List α} {f : (α → Bool) → Int} (h : sm l f ≠ 0) : ∃ v, On l v ∧ f v ≠ 0 := by
  refine Classical.byContradiction fun hn => h ?_
  rw [sm_congr (g := fun _ => 0) fun v hv => Classical.byContradiction fun e => hn ⟨v, hv, e⟩]
  exact sm_zero l
theorem sm_tr : ∀ {l : List α} (_ : l.Nodup) {u : α → Bool} (_ : On l u) (f : (α → Bool) → Int), sm l f = sm l fun v => f (ad u v)
  | [], _, u, hu, f => by
    unfold sm
    congr 1
    funext i
    unfold ad
    rw [hu i List.not_mem_nil]; rfl
  | a :: l, nd, u, hu, f => by
    have na := (List.nodup_cons.mp nd).1
    have nd' := (List.nodup_cons.mp nd).2
    unfold sm
    cases e : u a with
    | false =>
      have hu' : On l u := fun i hi => by
        by_cases ei : i = a
        · rw [ei]; exact e
        · exact hu i fun z => (List.mem_cons.mp z).elim ei hi
      rw [sm_tr nd' hu' f, sm_tr nd' hu' fun v => f (up v a)]
      congr 2
      funext v
      congr 1
      funext i
      unfold up ad
      by_cases ei : i = a
      · subst ei; simp [e]
      · simp [ei]
    | true =>
      let u' : α → Bool := fun i => if i = a then false else u i
      have hu' : On l u' := fun i hi => by
        show (if i = a then false else u i) = false
        by_cases ei : i = a
        · rw [if_pos ei]
        · rw [if_neg ei]; exact hu i fun z => (List.mem_cons.mp z).elim ei hi
      rw [sm_tr nd' hu' f, sm_tr nd' hu' fun v => f (up v a), Int.add_comm]
      congr 1
      · refine sm_congr fun v hv => ?_
        congr 1
        funext i
        show (if i = a then true else xor (if i = a then false else u i) (v i)) = xor (u i) (v i)
        by_cases ei : i = a
        · subst ei; simp [e, hv i na]
        · simp [ei]
      · refine sm_congr fun v hv => ?_
        congr 1
        funext i
        show xor (if i = a then false else u i) (v i) = xor (u i) (if i = a then true else v i)
        by_cases ei : i = a
        · subst ei; simp [e, hv i na]
        · simp [ei]
theorem sm_perm {l m : List α} (h : l.Perm m) : ∀ f : (α → Bool) → Int, sm l f = sm m f := by
  induction h with
  | nil => intro f; rfl
  | cons a _ ih => intro f; unfold sm; rw [ih, ih]
  | swap a b l =>
    intro f
    unfold sm; unfold sm
    have e : ∀ v : α → Bool, up (up v a) b = up (up v b) a := fun v => by
      funext i
      unfold up
      by_cases h1 : i = a <;> by_cases h2 : i = b <;> simp [h1, h2]
    simp only [e]
    omega
  | trans _ _ i1 i2 => intro f; rw [i1, i2]
/-! parities -/
theorem px_nil (f : α → Bool) : px [] f = false := rfl
theorem px_cons (a : α) (l : List α) (f : α → Bool) : px (a :: l) f = xor (f a) (px l f) := rfl
theorem px_congr {l : List α} {f g : α → Bool} (h : ∀ a ∈ l, f a = g a) : px l f = px l g := by
  induction l with
  | nil => rfl
  | cons a l ih => rw [px_cons, px_cons, h a (List.mem_cons_self ..), ih fun b hb => h b (List.mem_cons_of_mem _ hb)]
theorem px_xor (l : List α) (f g : α → Bool) : px l (fun a => xor (f a) (g a)) = xor (px l f) (px l g) := by
  induction l with
  | nil => rfl
  | cons a l ih =>
    rw [px_cons, px_cons, px_cons, ih]
    cases f a <;> cases g a <;> cases px l f <;> cases px l g <;> rfl
theorem px_and (l : List α) (c : Bool) (f : α → Bool) : px l (fun a => c && f a) = (c && px l f) := by
  induction l with
  | nil => cases c <;> rfl
  | cons a l ih =>
    rw [px_cons, px_cons, ih]
    cases c <;> cases f a <;> cases px l f <;> rfl
theorem px_false (l : List α) : px l (fun _ => false) = false := by
  induction l with
  | nil => rfl
  | cons a l ih => rw [px_cons, ih]; rfl
theorem px_swap {β : Type} (l : List α) (m : List β) [DecidableEq β] (f : α → β → Bool) : px l (fun a => px m fun b => f a b) = px m fun b => px l fun a => f a b := by
  induction l with
  | nil => rw [px_nil]; exact (px_false m).symm
  | cons a l ih => rw [px_cons, ih, ← px_xor]; rfl
theorem px_perm {l m : List α} (h : l.Perm m) (f : α → Bool) : px l f = px m f := by
  induction h with
  | nil => rfl
  | cons a _ ih => rw [px_cons, px_cons, ih]
  | swap a b l => rw [px_cons, px_cons, px_cons, px_cons]; cases f a <;> cases f b <;> cases px l f <;> rfl
  | trans _ _ i1 i2 => rw [i1, i2]
theorem px_append (l m : List α) (f : α → Bool) : px (l ++ m) f = xor (px l f) (px m f) := by
  induction l with
  | nil => rw [px_nil, List.nil_append]; cases px m f <;> rfl
  | cons a l ih => rw [List.cons_append, px_cons, px_cons, ih]; cases f a <;> cases px l f <;> cases px m f <;> rfl
theorem px_delta {l : List α} (nd : l.Nodup) {a : α} (ha : a ∈ l) (f : α → Bool) : px l (fun b => decide (b = a) && f b) = f a := by
  induction l with
  | nil => cases ha
  | cons c l ih =>
    rw [px_cons]
    have nc := (List.nodup_cons.mp nd).1
    by_cases e : c = a
    · subst e
      rw [px_congr (g := fun _ => false) fun b hb => by
        rw [decide_eq_false fun z : b = c => nc (by rw [← z]; exact hb)]; rfl, px_false, decide_eq_true rfl]
      cases f c <;> rfl
    · rw [decide_eq_false e, ih (List.nodup_cons.mp nd).2 ((List.mem_cons.mp ha).resolve_left fun z => e z.symm)]
      cases f a <;> rfl
theorem px_true {l : List α} {f : α → Bool} (h : px l f = true) : ∃ a ∈ l, f a = true := by
  refine Classical.byContradiction fun hn => ?_
  rw [px_congr (g := fun _ => false) fun a ha => by
    cases e : f a with
    | false => rfl
    | true => exact (hn ⟨a, ha, e⟩).elim, px_false] at h
  cases h
/-! characters -/
theorem sm_chr : ∀ {l : List α} (_ : l.Nodup) (h : α → Bool), sm l (fun u => sg (px l fun b => u b && h b)) = if l.all (fun b => !h b) = true then 2 ^ l.length else 0
  | [], _, h => rfl
  | a :: l, nd, h => by
    have na := (List.nodup_cons.mp nd).1
    unfold sm
    rw [sm_congr (l := l) (f := fun u => sg (px (a :: l) fun b => u b && h b)) (g := fun u => sg (px l fun b => u b && h b)) (fun v hv => by
        rw [px_cons, hv a na]; cases px l fun b => v b && h b <;> rfl),
      sm_congr (l := l) (f := fun u => sg (px (a :: l) fun b => up u a b && h b)) (g := fun u => sg (h a) * sg (px l fun b => u b && h b)) (fun v hv => by
        rw [px_cons, ← sg_xor]
        have e : px l (fun b => up v a b && h b) = px l fun b => v b && h b := px_congr fun b hb => by
          unfold up
          rw [if_neg fun z : b = a => na (by rw [← z]; exact hb)]
        rw [e]
        unfold up
        rw [if_pos rfl]; rfl), sm_mul, sm_chr (List.nodup_cons.mp nd).2 h, List.all_cons, List.length_cons]
    cases e : h a with
    | false =>
      simp only [Bool.not_false, Bool.true_and]
      split
      · rw [Int.pow_succ]; show _ + 1 * _ = _; omega
      · rfl
    | true =>
      simp only [Bool.not_true, Bool.false_and, Bool.false_eq_true, if_false]
      split
      · show _ + (-1) * _ = _; omega
      · rfl
/-! quadratic forms -/
variable (A : α → α → Bool)
def qf : List α → (α → Bool) → Bool
  | [], _ => false
  | b :: l, v => xor (v b && px l fun z => v z && A b z) (qf l v)
def bl (l : List α) (u v : α → Bool) : Bool := px l fun b => u b && px l fun z => A b z && v z
def ker (l : List α) (v : α → Bool) : Bool := l.all fun b => !px l fun z => A b z && v z
variable {A}
theorem qf_add {l : List α} (hs : ∀ a ∈ l, ∀ b ∈ l, A a b = A b a) (hd : ∀ a ∈ l, A a a = false) (u v : α → Bool) : qf A l (ad u v) = xor (xor (qf A l u) (qf A l v)) (bl A l u v) := by
  induction l with
  | nil => rfl
  | cons b l ih =>
    unfold qf
    rw [ih (fun a ha c hc => hs a (List.mem_cons_of_mem _ ha) c (List.mem_cons_of_mem _ hc)) fun a ha => hd a (List.mem_cons_of_mem _ ha)]
    have e1 : px l (fun z => ad u v z && A b z) = xor (px l fun z => u z && A b z) (px l fun z => v z && A b z) := by
      rw [← px_xor]
      refine px_congr fun z _ => ?_
      unfold ad
      cases u z <;> cases v z <;> cases A b z <;> rfl
    have e2 : bl A (b :: l) u v = xor (xor (u b && px l fun z => v z && A b z) (v b && px l fun z => u z && A b z)) (bl A l u v) := by
      unfold bl
      rw [px_cons, px_cons, hd b (List.mem_cons_self ..)]
      have e3 : px l (fun c => u c && px (b :: l) fun z => A c z && v z) = xor (v b && px l fun z => u z && A b z) (px l fun c => u c && px l fun z => A c z && v z) := by
        rw [← px_and, ← px_xor]
        refine px_congr fun c hc => ?_
        rw [px_cons, hs c (List.mem_cons_of_mem _ hc) b (List.mem_cons_self ..)]
        cases u c <;> cases v b <;> cases A b c <;> cases px l (fun z => A c z && v z) <;> rfl
      rw [e3]
      have e4 : px l (fun z => A b z && v z) = px l fun z => v z && A b z := px_congr fun z _ => Bool.and_comm ..
      rw [e4]
      cases u b <;> cases v b <;> cases px l (fun z => v z && A b z) <;> cases px l (fun z => u z && A b z) <;> cases px l (fun c => u c && px l fun z => A c z && v z) <;> rfl
    rw [e1, e2]
    unfold ad
    cases u b <;> cases v b <;> cases px l (fun z => v z && A b z) <;> cases px l (fun z => u z && A b z) <;> cases bl A l u v <;> cases qf A l u <;> cases qf A l v <;> rfl
theorem bl_add (l : List α) (u v w : α → Bool) : bl A l u (ad v w) = xor (bl A l u v) (bl A l u w) := by
  unfold bl
  rw [← px_xor]
  refine px_congr fun b _ => ?_
  have e : px l (fun z => A b z && ad v w z) = xor (px l fun z => A b z && v z) (px l fun z => A b z && w z) := by
    rw [← px_xor]
    refine px_congr fun z _ => ?_
    unfold ad
    cases A b z <;> cases v z <;> cases w z <;> rfl
  rw [e]
  cases u b <;> cases px l (fun z => A b z && v z) <;> cases px l (fun z => A b z && w z) <;> rfl
theorem bl_ker {l : List α} {u v : α → Bool} (h : ker A l v = true) : bl A l u v = false := by
  unfold bl
  rw [px_congr (g := fun _ => false) fun b hb => by
    have := List.all_eq_true.mp h b hb
    cases e : px l fun z => A b z && v z with
    | false => cases u b <;> rfl
    | true => rw [e] at this; cases this]
  exact px_false l
theorem ker_add {l : List α} {v w : α → Bool} (h : ker A l w = true) : ker A l (ad w v) = ker A l v := by
  unfold ker
  rw [Bool.eq_iff_iff, List.all_eq_true, List.all_eq_true]
  have e : ∀ b ∈ l, px l (fun z => A b z && ad w v z) = px l fun z => A b z && v z := fun b hb => by
    have h1 := List.all_eq_true.mp h b hb
    rw [px_congr (g := fun z => xor (A b z && w z) (A b z && v z)) fun z _ => by
      unfold ad
      cases A b z <;> cases v z <;> cases w z <;> rfl, px_xor]
    cases e : px l fun z => A b z && w z with
    | false => cases px l (fun z => A b z && v z) <;> rfl
    | true => rw [e] at h1; cases h1
  constructor
  · intro k b hb; rw [← e b hb]; exact k b hb
  · intro k b hb; rw [e b hb]; exact k b hb
def kerN (A : α → α → Bool) (l : List α) : Int := sm l fun v => if ker A l v = true then 1 else 0
def gs (A : α → α → Bool) (l : List α) (c : α → Bool) : Int := sm l fun v => sg (xor (qf A l v) (px l fun b => v b && c b))
theorem gs_sq {l : List α} (nd : l.Nodup) (hs : ∀ a ∈ l, ∀ b ∈ l, A a b = A b a) (hd : ∀ a ∈ l, A a a = false) (c : α → Bool) :
    gs A l c * gs A l c = 2 ^ l.length * sm l (fun v => if ker A l v = true then sg (xor (qf A l v) (px l fun b => v b && c b)) else 0) := by
  let Q : (α → Bool) → Bool := fun v => xor (qf A l v) (px l fun b => v b && c b)
  have hQ : ∀ u v, Q (ad u v) = xor (xor (Q u) (Q v)) (bl A l u v) := fun u v => by
    show xor (qf A l (ad u v)) (px l fun b => ad u v b && c b) = _
    have e : px l (fun b => ad u v b && c b) = xor (px l fun b => u b && c b) (px l fun b => v b && c b) := by
      rw [← px_xor]
      refine px_congr fun z _ => ?_
      unfold ad
      cases u z <;> cases v z <;> cases c z <;> rfl
    rw [qf_add hs hd, e]
    show _ = xor (xor (xor (qf A l u) (px l fun b => u b && c b)) (xor (qf A l v) (px l fun b => v b && c b))) (bl A l u v)
    cases qf A l u <;> cases qf A l v <;> cases bl A l u v <;> cases px l (fun b => u b && c b) <;> cases px l (fun b => v b && c b) <;> rfl
  show gs A l c * (sm l fun v => sg (Q v)) = _
  have e1 : gs A l c * (sm l fun v => sg (Q v)) = sm l fun u => sm l fun v => sg (Q v) * sg (bl A l u v) := by
    rw [Int.mul_comm]
    show (sm l fun v => sg (Q v)) * (sm l fun u => sg (Q u)) = _
    rw [← sm_mul]
    refine sm_congr fun u hu => ?_
    rw [Int.mul_comm, ← sm_mul]
    show sm l (fun v => sg (Q u) * sg (Q v)) = _
    rw [sm_tr nd hu fun v => sg (Q u) * sg (Q v)]
    refine sm_congr fun v _ => ?_
    rw [hQ]
    cases Q u <;> cases Q v <;> cases bl A l u v <;> rfl
  rw [e1, sm_swap, ← sm_mul]
  refine sm_congr fun v _ => ?_
  rw [sm_mul]
  have e2 := sm_chr nd fun b => px l fun z => A b z && v z
  show sg (Q v) * sm l (fun u => sg (px l fun b => u b && px l fun z => A b z && v z)) = _
  rw [e2]
  show _ = 2 ^ l.length * (if (l.all fun b => !px l fun z => A b z && v z) = true then sg (Q v) else 0)
  split
  · rw [Int.mul_comm]
  · rw [Int.mul_zero, Int.mul_zero]
theorem ker_sum {l : List α} (nd : l.Nodup) (hs : ∀ a ∈ l, ∀ b ∈ l, A a b = A b a) (hd : ∀ a ∈ l, A a a = false) (c : α → Bool) :
    sm l (fun v => if ker A l v = true then sg (xor (qf A l v) (px l fun b => v b && c b)) else 0) = 0 ∨ sm l (fun v => if ker A l v = true then sg (xor (qf A l v) (px l fun b => v b && c b)) else 0) = kerN A l := by
  let Q : (α → Bool) → Bool := fun v => xor (qf A l v) (px l fun b => v b && c b)
  by_cases h : ∃ w, On l w ∧ ker A l w = true ∧ Q w = true
  · refine .inl ?_
    obtain ⟨w, hw, hk, hq⟩ := h
    have e := sm_tr nd hw fun v => if ker A l v = true then sg (Q v) else 0
    have e2 : sm l (fun v => if ker A l (ad w v) = true then sg (Q (ad w v)) else 0) = sm l fun v => (-1) * (if ker A l v = true then sg (Q v) else 0) := by
      refine sm_congr fun v _ => ?_
      rw [ker_add hk]
      split
      · rename_i hv
        have : Q (ad w v) = xor (xor (Q w) (Q v)) (bl A l w v) := by
          show xor (qf A l (ad w v)) (px l fun b => ad w v b && c b) = _
          have e : px l (fun b => ad w v b && c b) = xor (px l fun b => w b && c b) (px l fun b => v b && c b) := by
            rw [← px_xor]
            refine px_congr fun z _ => ?_
            unfold ad
            cases w z <;> cases v z <;> cases c z <;> rfl
          rw [qf_add hs hd, e]
          show _ = xor (xor (xor (qf A l w) (px l fun b => w b && c b)) (xor (qf A l v) (px l fun b => v b && c b))) (bl A l w v)
          cases qf A l w <;> cases qf A l v <;> cases bl A l w v <;> cases px l (fun b => w b && c b) <;> cases px l (fun b => v b && c b) <;> rfl
        rw [this, bl_ker hv, hq]
        cases Q v <;> rfl
      · rfl
    rw [e2, sm_mul] at e
    show sm l (fun v => if ker A l v = true then sg (Q v) else 0) = 0
    omega
  · refine .inr ?_
    unfold kerN
    refine sm_congr fun v hv => ?_
    split
    · rename_i hk
      have : Q v = false := by
        cases e : Q v with
        | false => rfl
        | true => exact (h ⟨v, hv, hk, e⟩).elim
      show sg (Q v) = 1
      rw [this]; rfl
    · rfl
theorem gs_ex {l : List α} (nd : l.Nodup) : ∃ c, gs A l c ≠ 0 := by
  have h : sm l (fun c => gs A l c) ≠ 0 := by
    unfold gs
    rw [sm_swap]
    have e : ∀ v, On l v → sm l (fun c => sg (xor (qf A l v) (px l fun b => v b && c b))) = sg (qf A l v) * (if l.all (fun b => !v b) = true then 2 ^ l.length else 0) := fun v _ => by
      rw [← sm_chr nd v, ← sm_mul]
      refine sm_congr fun c _ => ?_
      rw [sg_xor]
      congr 2
      exact px_congr fun b _ => Bool.and_comm ..
    rw [sm_congr e]
    have e3 : ∀ (l m : List α), sm l (fun v => sg (qf A m v) * (if l.all (fun b => !v b) = true then 2 ^ m.length else 0)) = sg (qf A m fun _ => false) * 2 ^ m.length := by
      intro l
      induction l with
      | nil => intro m; rfl
      | cons a l ih =>
        intro m
        unfold sm
        rw [sm_congr (l := l) (f := fun v => sg (qf A m (up v a)) * (if (a :: l).all (fun b => !up v a b) = true then 2 ^ m.length else 0)) (g := fun _ => 0) (fun v _ => by
          rw [List.all_cons]
          show _ * (if (!(if a = a then true else v a) && _) = true then _ else _) = _
          rw [if_pos rfl]
          exact Int.mul_zero _), sm_zero, Int.add_zero]
        by_cases ha : a ∈ l
        · rw [sm_congr (g := fun v => sg (qf A m v) * (if l.all (fun b => !v b) = true then 2 ^ m.length else 0)), ih m]
          intro v hv
          rw [List.all_cons]
          congr 1
          by_cases e : l.all (fun b => !v b) = true
          · rw [List.all_eq_true.mp e a ha, Bool.true_and]
          · rw [Bool.eq_false_iff.mpr e, Bool.and_false]
        · rw [sm_congr (g := fun v => sg (qf A m v) * (if l.all (fun b => !v b) = true then 2 ^ m.length else 0)), ih m]
          intro v hv
          rw [List.all_cons, hv a ha]; rfl
    rw [e3 l l]
    have : ∀ b, sg b = 1 ∨ sg b = -1 := fun b => by cases b; exact .inl rfl; exact .inr rfl
    have hp : (2 : Int) ^ l.length ≠ 0 := by
      have := Int.pow_pos (n := 2) (m := l.length) (by omega); omega
    intro z
    rcases Int.mul_eq_zero.mp z with z | z
    · rcases this (qf A l fun _ => false) with e | e <;> rw [e] at z <;> omega
    · exact hp z
  obtain ⟨c, _, h⟩ := sm_ne h
  exact ⟨c, h⟩
theorem ker_square {l : List α} (nd : l.Nodup) (hs : ∀ a ∈ l, ∀ b ∈ l, A a b = A b a) (hd : ∀ a ∈ l, A a a = false) : ∃ s : Int, s * s = 2 ^ l.length * kerN A l := by
  obtain ⟨c, hc⟩ := gs_ex (A := A) nd
  refine ⟨_, (gs_sq nd hs hd c).trans ?_⟩
  rcases ker_sum nd hs hd c with h | h
  · have := gs_sq nd hs hd c
    rw [h, Int.mul_zero] at this
    rcases Int.mul_eq_zero.mp this with z | z <;> exact (hc z).elim
  · rw [h]
end
end Rk
namespace Rk
section
/-- how many choices of rows add up to t -/
def relc : List Nat → Nat → Nat
  | [], t => if t = 0 then 1 else 0
  | r :: rs, t => relc rs t + relc rs (t ^^^ r)
def Span : List Nat → Nat → Prop
  | [], t => t = 0
  | r :: rs, t => Span rs t ∨ Span rs (t ^^^ r)
theorem xor3 (a b c : Nat) : a ^^^ b ^^^ c = a ^^^ c ^^^ b := by rw [Nat.xor_assoc, Nat.xor_comm b c, ← Nat.xor_assoc]
theorem xor_can (a b : Nat) : a ^^^ b ^^^ b = a := by rw [Nat.xor_assoc, Nat.xor_self, Nat.xor_zero]
theorem Span.zero : ∀ rs, Span rs 0
  | [] => rfl
  | r :: rs => .inl (Span.zero rs)
theorem Span.add : ∀ {rs : List Nat} {a b : Nat}, Span rs a → Span rs b → Span rs (a ^^^ b)
  | [], a, b, ha, hb => by
    have e1 : a = 0 := ha
    have e2 : b = 0 := hb
    subst e1 e2; rfl
  | r :: rs, a, b, ha, hb => by
    rcases ha with ha | ha <;> rcases hb with hb | hb
    · exact .inl (Span.add ha hb)
    · refine .inr ?_
      rw [Nat.xor_assoc]
      exact Span.add ha hb
    · refine .inr ?_
      rw [xor3]
      exact Span.add ha hb
    · refine .inl ?_
      have := Span.add ha hb
      rw [show a ^^^ r ^^^ (b ^^^ r) = a ^^^ b by rw [← Nat.xor_assoc, xor3 a r b, xor_can]] at this
      exact this
theorem Span.mem {rs : List Nat} {r : Nat} (h : r ∈ rs) : Span rs r := by
  induction rs with
  | nil => cases h
  | cons a rs ih =>
    rcases List.mem_cons.mp h with e | h
    · subst e; refine .inr ?_; rw [Nat.xor_self]; exact Span.zero _
    · exact .inl (ih h)
theorem Span.snoc {rs : List Nat} {r t : Nat} : Span (rs ++ [r]) t ↔ Span rs t ∨ Span rs (t ^^^ r) := by
  induction rs generalizing t with
  | nil => exact Iff.rfl
  | cons a rs ih =>
    show Span (rs ++ [r]) t ∨ Span (rs ++ [r]) (t ^^^ a) ↔ (Span rs t ∨ Span rs (t ^^^ a)) ∨ (Span rs (t ^^^ r) ∨ Span rs (t ^^^ r ^^^ a))
    rw [ih, ih, xor3 t a r]
    constructor
    · rintro ((h | h) | (h | h))
      · exact .inl (.inl h)
      · exact .inr (.inl h)
      · exact .inl (.inr h)
      · exact .inr (.inr h)
    · rintro ((h | h) | (h | h))
      · exact .inl (.inl h)
      · exact .inr (.inl h)
      · exact .inl (.inr h)
      · exact .inr (.inr h)
theorem relc_snoc (rs : List Nat) (r t : Nat) : relc (rs ++ [r]) t = relc rs t + relc rs (t ^^^ r) := by
  induction rs generalizing t with
  | nil => rfl
  | cons a rs ih =>
    show relc (rs ++ [r]) t + relc (rs ++ [r]) (t ^^^ a) = (relc rs t + relc rs (t ^^^ a)) + (relc rs (t ^^^ r) + relc rs (t ^^^ r ^^^ a))
    rw [ih, ih, xor3 t a r]; omega
theorem relc_not {rs : List Nat} {t : Nat} (h : ¬Span rs t) : relc rs t = 0 := by
  induction rs generalizing t with
  | nil => exact if_neg h
  | cons a rs ih =>
    show relc rs t + relc rs (t ^^^ a) = 0
    rw [ih fun z => h (.inl z), ih fun z => h (.inr z)]
theorem relc_tr {rs : List Nat} {s : Nat} (h : Span rs s) (t : Nat) : relc rs (t ^^^ s) = relc rs t := by
  induction rs generalizing s t with
  | nil =>
    have e : s = 0 := h
    subst e; rw [Nat.xor_zero]
  | cons a rs ih =>
    show relc rs (t ^^^ s) + relc rs (t ^^^ s ^^^ a) = relc rs t + relc rs (t ^^^ a)
    rcases h with h | h
    · rw [ih h, xor3, ih h]
    · have e1 : t ^^^ s = t ^^^ a ^^^ (s ^^^ a) := by rw [← Nat.xor_assoc, xor3 t a s, xor_can]
      have e2 : t ^^^ s ^^^ a = t ^^^ (s ^^^ a) := Nat.xor_assoc ..
      rw [e2, ih h, e1, ih h]; omega
theorem relc_in {rs : List Nat} {s : Nat} (h : Span rs s) : relc rs s = relc rs 0 := by
  have := relc_tr h 0
  rwa [Nat.zero_xor] at this
/-! top bits -/
theorem lt_tb {x y : Nat} (i : Nat) (hx : x.testBit i = false) (hy : y.testBit i = true) (h : ∀ j, i < j → x.testBit j = y.testBit j) : x < y := by
  have hq : x / 2 ^ (i + 1) = y / 2 ^ (i + 1) := Nat.eq_of_testBit_eq fun j => by
    rw [Nat.testBit_div_two_pow, Nat.testBit_div_two_pow]; exact h _ (by omega)
  rw [Nat.testBit_eq_decide_div_mod_eq] at hx hy
  have hx := of_decide_eq_false hx
  have hy := of_decide_eq_true hy
  rw [Nat.pow_succ, ← Nat.div_div_eq_div_mul, ← Nat.div_div_eq_div_mul] at hq
  have hl : x / 2 ^ i < y / 2 ^ i := by omega
  refine Nat.not_le.mp fun z => ?_
  have := Nat.div_le_div_right (c := 2 ^ i) z
  omega
theorem top_bit {x : Nat} (h : x ≠ 0) : x.testBit x.log2 = true := by
  rw [Nat.testBit_eq_decide_div_mod_eq]
  have h1 := Nat.log2_self_le h
  have h2 := @Nat.lt_log2_self x
  rw [decide_eq_true]
  have : x / 2 ^ x.log2 = 1 := by
    rw [Nat.pow_succ] at h2
    exact Nat.div_eq_of_lt_le (by omega) (by omega)
  rw [this]
theorem bit_above {x j : Nat} (h : x.log2 < j) : x.testBit j = false :=
  Nat.testBit_lt_two_pow (Nat.lt_of_lt_of_le (@Nat.lt_log2_self x) (Nat.pow_le_pow_right (by omega) h))
theorem log2_of {x k : Nat} (h : x.testBit k = true) (a : ∀ j, k < j → x.testBit j = false) : x.log2 = k := by
  have hx : x ≠ 0 := fun z => by rw [z, Nat.zero_testBit] at h; cases h
  rcases Nat.lt_trichotomy x.log2 k with e | e | e
  · rw [bit_above e] at h; cases h
  · exact e
  · have := top_bit hx
    rw [a _ e] at this; cases this
theorem log2_xor {x y : Nat} (hy : y ≠ 0) (h : x = 0 ∨ x.log2 < y.log2) : (x ^^^ y).log2 = y.log2 := by
  have hx : ∀ j, y.log2 ≤ j → x.testBit j = false := fun j hj => by
    rcases h with h | h
    · rw [h, Nat.zero_testBit]
    · exact bit_above (by omega)
  refine log2_of ?_ fun j hj => ?_
  · rw [Nat.testBit_xor, hx _ (Nat.le_refl _), top_bit hy]; rfl
  · rw [Nat.testBit_xor, hx _ (by omega), bit_above hj]; rfl
theorem xor_ne_zero {x y : Nat} (h : x ≠ y) : x ^^^ y ≠ 0 := fun z => h (by rw [← xor_can x y, z, Nat.zero_xor])
/-- taking away the top: less -/
theorem xor_less {x y : Nat} (hx : x ≠ 0) (hy : y ≠ 0) (h : x.log2 = y.log2) : x ^^^ y < x := by
  refine lt_tb x.log2 ?_ (top_bit hx) fun j hj => ?_
  · rw [Nat.testBit_xor, top_bit hx, h, top_bit hy]; rfl
  · rw [Nat.testBit_xor, bit_above hj, bit_above (h ▸ hj)]; rfl
/-- the reduction's state: the kept ones have unlike tops, span the same -/
structure Ech (ks rows : List Nat) : Prop where
  pos : ∀ k ∈ ks, k ≠ 0
  tops : (ks.map Nat.log2).Nodup
  span : ∀ t, Span ks t ↔ Span rows t
  cnt : relc rows 0 * 2 ^ ks.length = 2 ^ rows.length
theorem Ech.nil : Ech [] [] := ⟨fun k h => (by cases h), List.nodup_nil, fun _ => Iff.rfl, rfl⟩
theorem tops_in : ∀ {ks : List Nat}, (∀ k ∈ ks, k ≠ 0) → (ks.map Nat.log2).Nodup → ∀ {t}, Span ks t → t ≠ 0 → t.log2 ∈ ks.map Nat.log2
  | [], _, _, t, h, ht => (ht h).elim
  | k :: ks, hp, nd, t, h, ht => by
    have hk := hp k (List.mem_cons_self ..)
    have hp' : ∀ k ∈ ks, k ≠ 0 := fun k h => hp k (List.mem_cons_of_mem _ h)
    have nd' := (List.nodup_cons.mp nd)
    rw [List.map_cons]
    rcases h with h | h
    · exact List.mem_cons_of_mem _ (tops_in hp' nd'.2 h ht)
    · by_cases e : t ^^^ k = 0
      · have : t = k := Classical.byContradiction fun z => xor_ne_zero z e
        rw [this]; exact List.mem_cons_self ..
      · have hm := tops_in hp' nd'.2 h e
        have hne : (t ^^^ k).log2 ≠ k.log2 := fun z => nd'.1 (z ▸ hm)
        have et : t = t ^^^ k ^^^ k := (xor_can t k).symm
        rcases Nat.lt_or_gt_of_ne hne with l | l
        · rw [et, log2_xor hk (.inr l)]; exact List.mem_cons_self ..
        · rw [et, Nat.xor_comm, log2_xor e (.inr l)]; exact List.mem_cons_of_mem _ hm
theorem Ech.same {ks rows : List Nat} (h : Ech ks rows) {r s : Nat} (hs : Span ks s) (e : r ^^^ s = 0) : Ech ks (rows ++ [r]) := by
  have er : r = s := Classical.byContradiction fun z => xor_ne_zero z e
  have hr : Span rows r := er ▸ (h.span s).mp hs
  refine ⟨h.pos, h.tops, fun t => ?_, ?_⟩
  · rw [Span.snoc, h.span]
    refine ⟨.inl, fun z => z.elim id fun z => ?_⟩
    rw [← xor_can t r]
    exact Span.add z hr
  · rw [relc_snoc, Nat.zero_xor, relc_in hr, List.length_append, ← Nat.two_mul, Nat.mul_assoc, h.cnt]
    show _ = 2 ^ (rows.length + 1)
    rw [Nat.pow_succ, Nat.mul_comm]
theorem Ech.more {ks rows : List Nat} (h : Ech ks rows) {r s : Nat} (hs : Span ks s) (e : r ^^^ s ≠ 0) (hn : (r ^^^ s).log2 ∉ ks.map Nat.log2) : Ech (ks ++ [r ^^^ s]) (rows ++ [r]) := by
  have hr : ¬Span ks (r ^^^ s) := fun z => hn (tops_in h.pos h.tops z e)
  have hr' : ¬Span rows r := fun z => hr (Span.add ((h.span r).mpr z) hs)
  refine ⟨fun k hk => ?_, ?_, fun t => ?_, ?_⟩
  · rcases List.mem_append.mp hk with hk | hk
    · exact h.pos k hk
    · rw [List.mem_singleton.mp hk]; exact e
  · rw [List.map_append, List.nodup_append]
    refine ⟨h.tops, by simp, fun a ha b hb => ?_⟩
    rw [List.map_singleton, List.mem_singleton] at hb
    subst hb
    intro z
    exact hn (z ▸ ha)
  · rw [Span.snoc, Span.snoc, h.span, h.span]
    constructor
    · rintro (z | z)
      · exact .inl z
      · refine .inr ?_
        have := Span.add z ((h.span s).mp hs)
        rw [← Nat.xor_assoc, xor_can] at this
        exact this
    · rintro (z | z)
      · exact .inl z
      · refine .inr ?_
        have := Span.add z ((h.span s).mp hs)
        rw [Nat.xor_assoc] at this
        exact this
  · rw [relc_snoc, Nat.zero_xor, relc_not hr', Nat.add_zero, List.length_append, List.length_append]
    show _ * 2 ^ (ks.length + 1) = 2 ^ (rows.length + 1)
    rw [Nat.pow_succ, Nat.pow_succ, ← Nat.mul_assoc, h.cnt]
/-- the law's step: min(num, num ^ one) -/
theorem min_xor {x k : Nat} (hk : k ≠ 0) : (if x ^^^ k < x then x ^^^ k else x) = if x.testBit k.log2 = true then x ^^^ k else x := by
  by_cases e : x.testBit k.log2 = true
  · rw [if_pos e, if_pos]
    refine lt_tb k.log2 ?_ e fun j hj => ?_
    · rw [Nat.testBit_xor, e, top_bit hk]; rfl
    · rw [Nat.testBit_xor, bit_above hj, Bool.xor_false]
  · rw [if_neg e, if_neg]
    refine fun z => Nat.lt_asymm z (lt_tb k.log2 (Bool.eq_false_iff.mpr e) ?_ fun j hj => ?_)
    · rw [Nat.testBit_xor, Bool.eq_false_iff.mpr e, top_bit hk]; rfl
    · rw [Nat.testBit_xor, bit_above hj, Bool.xor_false]
/-! numbers of rows -/
def mk (l : List Bool) : Nat := l.foldl (fun m b => 2 * m + b.toNat) 0
theorem mk_snoc (l : List Bool) (b : Bool) : mk (l ++ [b]) = 2 * mk l + b.toNat := by unfold mk; rw [List.foldl_append]; rfl
theorem mk_bit (l : List Bool) (j : Nat) : (mk l.reverse).testBit j = l.getD j false := by
  induction l generalizing j with
  | nil => rw [show mk ([] : List Bool).reverse = 0 from rfl, Nat.zero_testBit]; rfl
  | cons b l ih =>
    rw [List.reverse_cons, mk_snoc]
    cases j with
    | zero => rw [Nat.testBit_zero]; cases b <;> simp <;> omega
    | succ j =>
      rw [Nat.testBit_succ, List.getD_cons_succ, ← ih j]
      congr 1
      cases b <;> simp <;> omega
theorem mk_lt (l : List Bool) : mk l < 2 ^ l.length := by
  have h : ∀ m : List Bool, mk m.reverse < 2 ^ m.length := fun m => by
    induction m with
    | nil => decide
    | cons b m ih =>
      rw [List.reverse_cons, mk_snoc, List.length_cons, Nat.pow_succ]
      cases b <;> simp <;> omega
  have := h l.reverse
  rwa [List.reverse_reverse, List.length_reverse] at this
/-! relations of rows and the kernel -/
variable {α : Type} [DecidableEq α]
def xs (B : List α) (m : α → Nat) (v : α → Bool) : Nat := B.foldr (fun b acc => (if v b = true then m b else 0) ^^^ acc) 0
theorem xs_cons (a : α) (B : List α) (m : α → Nat) (v : α → Bool) : xs (a :: B) m v = (if v a = true then m a else 0) ^^^ xs B m v := rfl
theorem xs_bit (B : List α) (m : α → Nat) (v : α → Bool) (j : Nat) : (xs B m v).testBit j = px B fun b => v b && (m b).testBit j := by
  induction B with
  | nil => exact Nat.zero_testBit j
  | cons a B ih =>
    rw [xs_cons, Nat.testBit_xor, ih, px_cons]
    cases v a
    · rw [if_neg (by decide), Nat.zero_testBit]; rfl
    · rw [if_pos rfl]; rfl
theorem xs_congr {B : List α} {m : α → Nat} {u v : α → Bool} (h : ∀ b ∈ B, u b = v b) : xs B m u = xs B m v := by
  induction B with
  | nil => rfl
  | cons a B ih => rw [xs_cons, xs_cons, h a (List.mem_cons_self ..), ih fun b hb => h b (List.mem_cons_of_mem _ hb)]
theorem relc_sm : ∀ {B : List α} (_ : B.Nodup) (m : α → Nat) (t : Nat), ((relc (B.map m) t : Nat) : Int) = sm B fun v => if xs B m v = t then 1 else 0
  | [], _, m, t => by
    show ((if t = 0 then 1 else 0 : Nat) : Int) = if 0 = t then 1 else 0
    by_cases e : t = 0
    · rw [if_pos e, if_pos e.symm]; rfl
    · rw [if_neg e, if_neg fun z => e z.symm]; rfl
  | a :: B, nd, m, t => by
    have na := (List.nodup_cons.mp nd).1
    have nd' := (List.nodup_cons.mp nd).2
    show ((relc (B.map m) t + relc (B.map m) (t ^^^ m a) : Nat) : Int) = _
    rw [Int.natCast_add, relc_sm nd' m t, relc_sm nd' m (t ^^^ m a), sm_cons]
    congr 1
    · refine sm_congr fun v hv => ?_
      rw [xs_cons, hv a na, if_neg Bool.false_ne_true, Nat.zero_xor]
    · refine sm_congr fun v hv => ?_
      rw [xs_cons, xs_congr (B := B) (u := up v a) (v := v) fun b hb => by
        unfold up
        rw [if_neg fun z : b = a => na (by rw [← z]; exact hb)]]
      unfold up
      rw [if_pos rfl, if_pos rfl]
      have : (xs B m v = t ^^^ m a) ↔ (m a ^^^ xs B m v = t) := by
        constructor
        · intro z; rw [z, Nat.xor_comm, xor_can]
        · intro z; rw [← z, Nat.xor_comm (m a), xor_can]
      by_cases e : xs B m v = t ^^^ m a
      · rw [if_pos e, if_pos (this.mp e)]
      · rw [if_neg e, if_neg fun z => e (this.mpr z)]
theorem kerN_relc {A : α → α → Bool} {B : List α} (nd : B.Nodup) (hs : ∀ a ∈ B, ∀ b ∈ B, A a b = A b a) {m : α → Nat}
    (h1 : ∀ j, (∃ z ∈ B, ∀ b ∈ B, (m b).testBit j = A b z) ∨ ∀ b ∈ B, (m b).testBit j = false) (h2 : ∀ z ∈ B, ∃ j, ∀ b ∈ B, (m b).testBit j = A b z) : kerN A B = ((relc (B.map m) 0 : Nat) : Int) := by
  rw [relc_sm nd]
  unfold kerN
  refine sm_congr fun v _ => ?_
  have e : ker A B v = true ↔ xs B m v = 0 := by
    unfold ker
    rw [List.all_eq_true]
    have e3 : ∀ z ∈ B, ∀ j, (∀ b ∈ B, (m b).testBit j = A b z) → (px B fun b => v b && (m b).testBit j) = px B fun b => A z b && v b := fun z hz j hj => px_congr fun b hb => by rw [hj b hb, hs b hb z hz, Bool.and_comm]
    constructor
    · intro k
      refine Nat.eq_of_testBit_eq fun j => ?_
      rw [xs_bit, Nat.zero_testBit]
      rcases h1 j with ⟨z, hz, hj⟩ | hj
      · rw [e3 z hz j hj]
        have := k z hz
        cases e4 : px B fun b => A z b && v b with
        | false => rfl
        | true => rw [e4] at this; cases this
      · rw [px_congr (g := fun _ => false) fun b hb => by rw [hj b hb, Bool.and_false]]
        exact px_false B
    · intro k z hz
      obtain ⟨j, hj⟩ := h2 z hz
      rw [← e3 z hz j hj, ← xs_bit, k, Nat.zero_testBit]; rfl
  by_cases k : ker A B v = true
  · rw [if_pos k, if_pos (e.mp k)]
  · rw [if_neg k, if_neg fun z => k (e.mpr z)]
def rowB (A : α → α → Bool) (B : List α) (b : α) : List Bool := B.map (A b)
theorem row_at {A : α → α → Bool} {B : List α} (b : α) (j : Nat) : (rowB A B b).getD j false = (B[j]?.map (A b)).getD false := by
  unfold rowB
  rw [List.getD_eq_getElem?_getD, List.getElem?_map]
/-- the program's numbers: the first item is the lowest bit -/
theorem kerN_low {A : α → α → Bool} {B : List α} (nd : B.Nodup) (hs : ∀ a ∈ B, ∀ b ∈ B, A a b = A b a) : kerN A B = ((relc (B.map fun b => mk (rowB A B b).reverse) 0 : Nat) : Int) := by
  refine kerN_relc nd hs (fun j => ?_) fun z hz => ?_
  · cases e : B[j]? with
    | none => exact .inr fun b _ => by rw [mk_bit, row_at, e]; rfl
    | some z => exact .inl ⟨z, List.mem_of_getElem? e, fun b _ => by rw [mk_bit, row_at, e]; rfl⟩
  · obtain ⟨j, hj⟩ := List.getElem?_of_mem hz
    exact ⟨j, fun b _ => by rw [mk_bit, row_at, hj]; rfl⟩
/-- the law's: the first item is the highest -/
theorem kerN_high {A : α → α → Bool} {B : List α} (nd : B.Nodup) (hs : ∀ a ∈ B, ∀ b ∈ B, A a b = A b a) : kerN A B = ((relc (B.map fun b => mk (rowB A B b)) 0 : Nat) : Int) := by
  have hb : ∀ b j, (mk (rowB A B b)).testBit j = (B.reverse[j]?.map (A b)).getD false := fun b j => by
    have := mk_bit (rowB A B b).reverse j
    rw [List.reverse_reverse] at this
    rw [this]
    unfold rowB
    rw [← List.map_reverse, List.getD_eq_getElem?_getD, List.getElem?_map]
  refine kerN_relc nd hs (fun j => ?_) fun z hz => ?_
  · cases e : B.reverse[j]? with
    | none => exact .inr fun b _ => by rw [hb, e]; rfl
    | some z => exact .inl ⟨z, List.mem_reverse.mp (List.mem_of_getElem? e), fun b _ => by rw [hb, e]; rfl⟩
  · obtain ⟨j, hj⟩ := List.getElem?_of_mem (List.mem_reverse.mpr hz)
    exact ⟨j, fun b _ => by rw [hb, hj]; rfl⟩
/-! squares that are powers of two -/
theorem sq_pow : ∀ (e : Nat) (s : Int), s * s = 2 ^ e → e % 2 = 0
  | 0, _, _ => rfl
  | 1, s, h => by
    exfalso
    have h : s * s = 2 := h
    have h2 : s.natAbs * s.natAbs = 2 := Int.ofNat.inj ((Int.natAbs_mul_self).trans h)
    have h3 : s.natAbs < 2 := Nat.not_le.mp fun z => by
      have := Nat.mul_le_mul z z
      omega
    obtain e | e : s.natAbs = 0 ∨ s.natAbs = 1 := by omega
    · rw [e] at h2; cases h2
    · rw [e] at h2; cases h2
  | e + 2, s, h => by
    have hs : s % 2 = 0 := by
      have h2 : (s * s) % 2 = 0 := by
        rw [h, Int.pow_succ]; omega
      rcases Int.emod_two_eq s with z | z
      · exact z
      · rw [Int.mul_emod, z] at h2; exact absurd h2 (by decide)
    obtain ⟨t, rfl⟩ : ∃ t, s = 2 * t := ⟨s / 2, by omega⟩
    have e4 : 2 * t * (2 * t) = 4 * (t * t) := by
      rw [Int.mul_assoc, Int.mul_left_comm t 2 t, ← Int.mul_assoc]; rfl
    rw [e4, Int.pow_succ, Int.pow_succ] at h
    have := sq_pow e t (by omega)
    omega
theorem pow_inj2 {a b : Nat} (h : 2 ^ a = 2 ^ b) : a = b := (Nat.pow_right_inj (by decide)).mp h
/-- the rank of a table of crossings: even, and told by the kernel -/
theorem rank_of {A : α → α → Bool} {B : List α} (nd : B.Nodup) (hs : ∀ a ∈ B, ∀ b ∈ B, A a b = A b a) (hd : ∀ a ∈ B, A a a = false) {R : Nat} (h : kerN A B * 2 ^ R = 2 ^ B.length) : R % 2 = 0 ∧ R ≤ B.length ∧ kerN A B = 2 ^ (B.length - R) := by
  have hk : (kerN A B).toNat * 2 ^ R = 2 ^ B.length := by
    have e0 : 0 ≤ kerN A B := by
      rw [kerN_low nd hs]; exact Int.natCast_nonneg _
    have e1 : ((kerN A B).toNat : Int) = kerN A B := Int.toNat_of_nonneg e0
    have e2 : (((kerN A B).toNat * 2 ^ R : Nat) : Int) = ((2 ^ B.length : Nat) : Int) := by
      rw [Int.natCast_mul, e1, Int.natCast_pow, Int.natCast_pow]; exact h
    exact Int.ofNat.inj e2
  have e0 : 0 ≤ kerN A B := by
    rw [kerN_low nd hs]; exact Int.natCast_nonneg _
  have hR : R ≤ B.length := by
    refine Nat.not_lt.mp fun z => ?_
    have h1 : (kerN A B).toNat ≠ 0 := fun e => by
      rw [e, Nat.zero_mul] at hk
      have := Nat.pow_pos (n := B.length) (show 0 < 2 by omega)
      omega
    have h2 := Nat.pow_lt_pow_right (a := 2) (by omega) z
    have h3 : 1 * 2 ^ R ≤ (kerN A B).toNat * 2 ^ R := Nat.mul_le_mul_right _ (by omega)
    omega
  have hK : (kerN A B).toNat = 2 ^ (B.length - R) := by
    have e : 2 ^ B.length = 2 ^ (B.length - R) * 2 ^ R := by rw [← Nat.pow_add]; congr 1; omega
    rw [e] at hk
    exact Nat.eq_of_mul_eq_mul_right (Nat.pow_pos (by omega)) hk
  have hKi : kerN A B = 2 ^ (B.length - R) := by
    rw [← Int.toNat_of_nonneg e0, hK, Int.natCast_pow]; rfl
  refine ⟨?_, hR, hKi⟩
  obtain ⟨s, hs2⟩ := ker_square nd hs hd
  rw [hKi, ← Int.pow_add] at hs2
  have := sq_pow _ s hs2
  omega
end
end Rk
namespace Rk
section
variable {α : Type} [DecidableEq α]
/-! counting functions -/
def allS : List α → List (α → Bool)
  | [] => [fun _ => false]
  | a :: l => allS l ++ (allS l).map fun v => up v a
theorem allS_on : ∀ {l : List α} {v : α → Bool}, v ∈ allS l → On l v
  | [], v, h => by rw [List.mem_singleton.mp h]; exact fun _ _ => rfl
  | a :: l, v, h => by
    rcases List.mem_append.mp h with h | h
    · exact (allS_on h).cons
    · obtain ⟨u, hu, rfl⟩ := List.mem_map.mp h
      exact (allS_on hu).up
theorem on_allS : ∀ {l : List α} (_ : l.Nodup) {v : α → Bool}, On l v → v ∈ allS l
  | [], _, v, h => by
    have : v = fun _ => false := funext fun i => h i List.not_mem_nil
    rw [this]; exact List.mem_singleton.mpr rfl
  | a :: l, nd, v, h => by
    have na := (List.nodup_cons.mp nd).1
    refine List.mem_append.mpr ?_
    cases e : v a with
    | false =>
      refine .inl (on_allS (List.nodup_cons.mp nd).2 fun i hi => ?_)
      by_cases ei : i = a
      · rw [ei]; exact e
      · exact h i fun z => (List.mem_cons.mp z).elim ei hi
    | true =>
      refine .inr (List.mem_map.mpr ⟨fun i => if i = a then false else v i, on_allS (List.nodup_cons.mp nd).2 fun i hi => ?_, ?_⟩)
      · show (if i = a then false else v i) = false
        by_cases ei : i = a
        · rw [if_pos ei]
        · rw [if_neg ei]; exact h i fun z => (List.mem_cons.mp z).elim ei hi
      · funext i
        show (if i = a then true else if i = a then false else v i) = v i
        by_cases ei : i = a
        · rw [if_pos ei, ei, e]
        · rw [if_neg ei, if_neg ei]
theorem nd_map {β γ : Type} {f : β → γ} : ∀ {L : List β}, L.Nodup → (∀ x ∈ L, ∀ y ∈ L, f x = f y → x = y) → (L.map f).Nodup
  | [], _, _ => List.nodup_nil
  | a :: L, nd, h => by
    rw [List.map_cons, List.nodup_cons]
    have nd' := List.nodup_cons.mp nd
    refine ⟨fun hm => ?_, nd_map nd'.2 fun x hx y hy => h x (List.mem_cons_of_mem _ hx) y (List.mem_cons_of_mem _ hy)⟩
    obtain ⟨b, hb, e⟩ := List.mem_map.mp hm
    exact nd'.1 (h b (List.mem_cons_of_mem _ hb) a (List.mem_cons_self ..) e ▸ hb)
theorem nd_allS : ∀ {l : List α}, l.Nodup → (allS l).Nodup
  | [], _ => by unfold allS; simp
  | a :: l, nd => by
    have na := (List.nodup_cons.mp nd).1
    have ih := nd_allS (List.nodup_cons.mp nd).2
    unfold allS
    rw [List.nodup_append]
    refine ⟨ih, nd_map ih fun u hu v hv e => ?_, fun u hu v hv => ?_⟩
    · funext i
      by_cases ei : i = a
      · rw [ei, allS_on hu a na, allS_on hv a na]
      · have := congrFun e i
        unfold up at this
        rwa [if_neg ei, if_neg ei] at this
    · obtain ⟨w, hw, rfl⟩ := List.mem_map.mp hv
      intro z
      have := congrFun z a
      rw [allS_on hu a na] at this
      unfold up at this
      rw [if_pos rfl] at this
      cases this
theorem sm_len : ∀ (l : List α) (p : (α → Bool) → Bool), sm l (fun v => if p v = true then 1 else 0) = (((allS l).filter p).length : Int)
  | [], p => by
    show (if p (fun _ => false) = true then 1 else 0) = _
    unfold allS
    cases e : p fun _ => false <;> simp [e]
  | a :: l, p => by
    rw [sm_cons, sm_len l p, sm_len l fun v => p (up v a)]
    show _ = (((allS l ++ (allS l).map fun v => up v a).filter p).length : Int)
    rw [List.filter_append, List.length_append, List.filter_map, List.length_map, Int.natCast_add]
    rfl
theorem inj_len {β γ : Type} : ∀ {L : List β} {M : List γ} (_ : L.Nodup) (f : β → γ) (_ : ∀ x ∈ L, f x ∈ M) (_ : ∀ x ∈ L, ∀ y ∈ L, f x = f y → x = y), L.length ≤ M.length
  | [], _, _, _, _, _ => Nat.zero_le _
  | a :: L, M, nd, f, h, inj => by
    obtain ⟨s, t, rfl⟩ := List.append_of_mem (h a (List.mem_cons_self ..))
    have nd' := List.nodup_cons.mp nd
    have := inj_len (M := s ++ t) nd'.2 f (fun x hx => by
      have h1 := h x (List.mem_cons_of_mem _ hx)
      have hne : f x ≠ f a := fun e => nd'.1 (inj x (List.mem_cons_of_mem _ hx) a (List.mem_cons_self ..) e ▸ hx)
      rcases List.mem_append.mp h1 with z | z
      · exact List.mem_append_left _ z
      · exact List.mem_append_right _ ((List.mem_cons.mp z).resolve_left hne)) fun x hx y hy => inj x (List.mem_cons_of_mem _ hx) y (List.mem_cons_of_mem _ hy)
    rw [List.length_append] at this ⊢
    rw [List.length_cons, List.length_cons]
    omega
theorem sub_all {β : Type} {L M : List β} (nd : L.Nodup) (h : ∀ x ∈ L, x ∈ M) (hl : M.length ≤ L.length) : ∀ y ∈ M, y ∈ L := fun y hy => by
  refine Classical.byContradiction fun hn => ?_
  have := inj_len (L := y :: L) (M := M) (List.nodup_cons.mpr ⟨hn, nd⟩) id (fun x hx => by
    rcases List.mem_cons.mp hx with e | hx
    · rw [e]; exact hy
    · exact h x hx) fun _ _ _ _ e => e
  rw [List.length_cons] at this
  omega
/-! cycles of a map of places -/
theorem sm_append (l m : List α) (f : (α → Bool) → Int) : sm (l ++ m) f = sm l fun c => sm m fun u => f fun i => c i || u i := by
  induction l generalizing f with
  | nil => show sm m f = sm m fun u => f fun i => u i; rfl
  | cons a l ih =>
    rw [List.cons_append, sm_cons, sm_cons, ih, ih]
    congr 1
    refine sm_congr fun c _ => sm_congr fun u _ => ?_
    congr 1
    funext i
    unfold up
    by_cases e : i = a
    · rw [if_pos e, if_pos e]; rfl
    · rw [if_neg e, if_neg e]
theorem sm_all (l : List α) (nd : l.Nodup) (t : Bool) : sm l (fun v => if l.all (fun i => v i == t) = true then 1 else 0) = 1 := by
  induction l with
  | nil => rfl
  | cons a l ih =>
    have na := (List.nodup_cons.mp nd).1
    have ih := ih (List.nodup_cons.mp nd).2
    have e : ∀ v : α → Bool, l.all (fun i => up v a i == t) = l.all fun i => v i == t := fun v => by
      rw [Bool.eq_iff_iff, List.all_eq_true, List.all_eq_true]
      have : ∀ i ∈ l, up v a i = v i := fun i hi => by unfold up; rw [if_neg fun z : i = a => na (by rw [← z]; exact hi)]
      constructor
      · intro h i hi; rw [← this i hi]; exact h i hi
      · intro h i hi; rw [this i hi]; exact h i hi
    have e2 : ∀ v : α → Bool, up v a a = true := fun v => if_pos rfl
    rw [sm_cons]
    cases t with
    | false =>
      rw [sm_congr (l := l) (f := fun v => if (a :: l).all (fun i => up v a i == false) = true then 1 else 0) (g := fun _ => 0) fun v _ => by
        rw [List.all_cons, e2]; rfl, sm_zero, Int.add_zero]
      refine Eq.trans ?_ ih
      refine sm_congr fun v hv => ?_
      rw [List.all_cons, hv a na]; rfl
    | true =>
      rw [sm_congr (l := l) (f := fun v => if (a :: l).all (fun i => v i == true) = true then 1 else 0) (g := fun _ => 0) fun v hv => by
        rw [List.all_cons, hv a na]; rfl, sm_zero, Int.zero_add]
      refine Eq.trans ?_ ih
      refine sm_congr fun v hv => ?_
      rw [List.all_cons, e2, e]; rfl
variable (nx : Nat → Nat)
def gN (U : List Nat) : Int := sm U fun g => if U.all (fun p => g p == g (nx p)) = true then 1 else 0
/-- a union of k cycles -/
structure Cyc (N : Nat) (U : List Nat) (k : Nat) : Prop where
  nd : U.Nodup
  lt : ∀ p ∈ U, p < N
  cl : ∀ p ∈ U, nx p ∈ U
  cnt : gN nx U = 2 ^ k
/-- a way from s to q along nx, off U -/
structure Pth (N : Nat) (U C : List Nat) (s q : Nat) : Prop where
  nd : (C ++ U).Nodup
  lt : ∀ p ∈ C, p < N
  chain : ∀ i p, C[i]? = some p → (C ++ [q])[i + 1]? = some (nx p)
  start : (C ++ [q])[0]? = some s
  qlt : q < N
variable {nx}
theorem Cyc.nil (N : Nat) : Cyc nx N [] 0 := ⟨List.nodup_nil, fun p h => (by cases h), fun p h => (by cases h), rfl⟩
theorem Pth.nil {N : Nat} {U : List Nat} {s : Nat} (h : U.Nodup) (hs : s < N) : Pth nx N U [] s s := ⟨h, fun p h => (by cases h), fun i p h => (by cases h), rfl, hs⟩
theorem Pth.snoc {N : Nat} {U C : List Nat} {s q : Nat} (h : Pth nx N U C s q) (h1 : q ∉ U) (h2 : q ∉ C) (hl : nx q < N) : Pth nx N U (C ++ [q]) s (nx q) := by
  refine ⟨?_, fun p hp => ?_, fun i p hi => ?_, ?_, hl⟩
  · rw [List.append_assoc]
    have hp : (C ++ ([q] ++ U)).Perm (q :: (C ++ U)) := List.perm_middle
    exact hp.nodup_iff.mpr (List.nodup_cons.mpr ⟨fun z => (List.mem_append.mp z).elim h2 h1, h.nd⟩)
  · rcases List.mem_append.mp hp with hp | hp
    · exact h.lt p hp
    · rw [List.mem_singleton.mp hp]; exact h.qlt
  · rcases Nat.lt_trichotomy i C.length with e | e | e
    · rw [List.getElem?_append_left e] at hi
      have := h.chain i p hi
      rw [List.getElem?_append_left (by rw [List.length_append]; show i + 1 < C.length + 1; omega)]
      exact this
    · rw [e, List.getElem?_append_right (Nat.le_refl _), Nat.sub_self] at hi
      have : q = p := Option.some.inj hi
      subst this
      rw [List.getElem?_append_right (by rw [List.length_append]; show C.length + 1 ≤ i + 1; omega), List.length_append]
      show [nx q][i + 1 - (C.length + 1)]? = _
      rw [e, Nat.sub_self]; rfl
    · rw [List.getElem?_append_right (by omega)] at hi
      have : i - C.length ≠ 0 := by omega
      obtain ⟨j, hj⟩ : ∃ j, i - C.length = j + 1 := ⟨i - C.length - 1, by omega⟩
      rw [hj] at hi; cases hi
  · have := h.start
    rw [List.getElem?_append_left (by rw [List.length_append]; show 0 < C.length + 1; omega)]
    exact this
theorem Pth.all_eq {N : Nat} {U C : List Nat} {s q : Nat} (h : Pth nx N U C s q) {c : Nat → Bool} (hc : ∀ p ∈ C, c p = c (nx p)) : ∀ p ∈ C, c p = c s := by
  have e : ∀ (i p : Nat), C[i]? = some p → c p = c s := by
    intro i
    induction i with
    | zero =>
      intro p hp
      have h1 := h.start
      rw [List.getElem?_append_left (List.getElem?_eq_some_iff.mp hp).1, hp] at h1
      rw [Option.some.inj h1]
    | succ i ih =>
      intro p hp
      have hlt := (List.getElem?_eq_some_iff.mp hp).1
      have hp0 : C[i]? = some C[i] := List.getElem?_eq_getElem (by omega)
      have h2 := h.chain i _ hp0
      rw [List.getElem?_append_left hlt, hp] at h2
      rw [Option.some.inj h2, ← hc _ (List.mem_of_getElem? hp0)]
      exact ih _ hp0
  intro p hp
  obtain ⟨i, hi⟩ := List.getElem?_of_mem hp
  exact e i p hi
/-- a closed way is a cycle more -/
theorem Pth.close {N : Nat} {U C : List Nat} {s q k : Nat} (h : Pth nx N U C s q) (hU : Cyc nx N U k) (inj : ∀ a b, a < N → b < N → nx a = nx b → a = b) (hC : C ≠ []) (hq : q ∈ C ++ U) : Cyc nx N (C ++ U) (k + 1) := by
  have hdis : ∀ p ∈ C, p ∉ U := fun p hp hu => (List.nodup_append.mp h.nd).2.2 p hp p hu rfl
  -- nothing outside U leads into U
  have hback : ∀ p, p < N → nx p ∈ U → p ∈ U := fun p hp hu => by
    have hs := sub_all (L := U.map nx) (M := U) (nd_map hU.nd fun x hx y hy e => inj x y (hU.lt x hx) (hU.lt y hy) e) (fun x hx => by
      obtain ⟨y, hy, rfl⟩ := List.mem_map.mp hx
      exact hU.cl y hy) (by rw [List.length_map]; exact Nat.le_refl _) _ hu
    obtain ⟨y, hy, e⟩ := List.mem_map.mp hs
    exact inj y p (hU.lt y hy) hp e ▸ hy
  have hnx : ∀ p ∈ C, nx p ∈ C := fun p hp => by
    obtain ⟨i, hi⟩ := List.getElem?_of_mem hp
    have h1 := h.chain i p hi
    have h2 := List.mem_of_getElem? h1
    have h3 : nx p ∈ C ++ U := by
      rcases List.mem_append.mp h2 with z | z
      · exact List.mem_append_left _ z
      · rw [List.mem_singleton.mp z]; exact hq
    rcases List.mem_append.mp h3 with z | z
    · exact z
    · exact (hdis p hp (hback p (h.lt p hp) z)).elim
  refine ⟨h.nd, fun p hp => (List.mem_append.mp hp).elim (h.lt p) (hU.lt p), fun p hp => ?_, ?_⟩
  · rcases List.mem_append.mp hp with z | z
    · exact List.mem_append_left _ (hnx p z)
    · exact List.mem_append_right _ (hU.cl p z)
  · have ndC := (List.nodup_append.mp h.nd).1
    obtain ⟨a, ha⟩ : ∃ a, a ∈ C := List.exists_mem_of_ne_nil _ hC
    unfold gN
    rw [sm_append]
    have e1 : ∀ c, On C c → sm U (fun u => if (C ++ U).all (fun p => (c p || u p) == (c (nx p) || u (nx p))) = true then 1 else 0) = ((if C.all (fun i => c i == true) = true then 1 else 0) + (if C.all (fun i => c i == false) = true then 1 else 0)) * gN nx U := fun c hc => by
      unfold gN
      rw [← sm_mul]
      refine sm_congr fun u hu => ?_
      have e2 : U.all (fun p => (c p || u p) == (c (nx p) || u (nx p))) = U.all fun p => u p == u (nx p) := by
        rw [Bool.eq_iff_iff, List.all_eq_true, List.all_eq_true]
        have : ∀ p ∈ U, ((c p || u p) == (c (nx p) || u (nx p))) = (u p == u (nx p)) := fun p hp => by
          rw [hc p fun z => hdis p z hp, hc (nx p) fun z => hdis _ z (hU.cl p hp)]; rfl
        constructor
        · intro z p hp; rw [← this p hp]; exact z p hp
        · intro z p hp; rw [this p hp]; exact z p hp
      have e3 : C.all (fun p => (c p || u p) == (c (nx p) || u (nx p))) = C.all fun p => c p == c (nx p) := by
        rw [Bool.eq_iff_iff, List.all_eq_true, List.all_eq_true]
        have : ∀ p ∈ C, ((c p || u p) == (c (nx p) || u (nx p))) = (c p == c (nx p)) := fun p hp => by
          rw [hu p (hdis p hp), hu (nx p) (hdis _ (hnx p hp)), Bool.or_false, Bool.or_false]
        constructor
        · intro z p hp; rw [← this p hp]; exact z p hp
        · intro z p hp; rw [this p hp]; exact z p hp
      rw [List.all_append, e2, e3]
      have e4 : (C.all fun p => c p == c (nx p)) = true ↔ (C.all (fun i => c i == true) = true ∨ C.all (fun i => c i == false) = true) := by
        constructor
        · intro z
          have := h.all_eq (c := c) fun p hp => eq_of_beq (List.all_eq_true.mp z p hp)
          cases e : c s with
          | true => exact .inl (List.all_eq_true.mpr fun p hp => by rw [this p hp, e]; rfl)
          | false => exact .inr (List.all_eq_true.mpr fun p hp => by rw [this p hp, e]; rfl)
        · rintro (z | z)
          · refine List.all_eq_true.mpr fun p hp => ?_
            rw [eq_of_beq (List.all_eq_true.mp z p hp), eq_of_beq (List.all_eq_true.mp z _ (hnx p hp))]; rfl
          · refine List.all_eq_true.mpr fun p hp => ?_
            rw [eq_of_beq (List.all_eq_true.mp z p hp), eq_of_beq (List.all_eq_true.mp z _ (hnx p hp))]; rfl
      by_cases t1 : C.all (fun i => c i == true) = true
      · have t2 : ¬C.all (fun i => c i == false) = true := fun z => by
          have y1 := eq_of_beq (List.all_eq_true.mp t1 a ha)
          have y2 := eq_of_beq (List.all_eq_true.mp z a ha)
          rw [y1] at y2; cases y2
        rw [e4.mpr (.inl t1), if_pos t1, if_neg t2, Bool.true_and]
        show _ = 1 * _
        rw [Int.one_mul]
      · by_cases t2 : C.all (fun i => c i == false) = true
        · rw [e4.mpr (.inr t2), if_neg t1, if_pos t2, Bool.true_and]
          show _ = 1 * _
          rw [Int.one_mul]
        · have : (C.all fun p => c p == c (nx p)) = false := Bool.eq_false_iff.mpr fun z => (e4.mp z).elim t1 t2
          rw [this, if_neg t1, if_neg t2, Bool.false_and, if_neg Bool.false_ne_true]
          show _ = 0 * _
          rw [Int.zero_mul]
    rw [sm_congr e1]
    have e5 : sm C (fun c => ((if C.all (fun i => c i == true) = true then 1 else 0) + (if C.all (fun i => c i == false) = true then 1 else 0)) * gN nx U) = gN nx U * (sm C (fun c => if C.all (fun i => c i == true) = true then 1 else 0) + sm C (fun c => if C.all (fun i => c i == false) = true then 1 else 0)) := by
      rw [← sm_add, ← sm_mul]
      exact sm_congr fun c _ => Int.mul_comm ..
    rw [e5, sm_all C ndC, sm_all C ndC, hU.cnt, Int.pow_succ]
    omega
theorem all_perm {β : Type} {U V : List β} (h : ∀ x, x ∈ U ↔ x ∈ V) (f : β → Bool) : U.all f = V.all f := by
  rw [Bool.eq_iff_iff, List.all_eq_true, List.all_eq_true]
  exact ⟨fun z x hx => z x ((h x).mpr hx), fun z x hx => z x ((h x).mp hx)⟩
theorem Cyc.full {N : Nat} {U : List Nat} {k : Nat} (h : Cyc nx N U k) (ha : ∀ p, p < N → p ∈ U) : gN nx (List.range N) = 2 ^ k := by
  rw [← h.cnt]
  have hm : ∀ x, x ∈ List.range N ↔ x ∈ U := fun x => ⟨fun z => ha x (List.mem_range.mp z), fun z => List.mem_range.mpr (h.lt x z)⟩
  have hp : (List.range N).Perm U := (List.perm_ext_iff_of_nodup List.nodup_range h.nd).mpr hm
  unfold gN
  rw [sm_perm hp]
  refine sm_congr fun g _ => ?_
  rw [all_perm hm]
end
end Rk
namespace Rk
section
variable {α : Type} [DecidableEq α]
/-! words: each letter stands twice; crossings by counting pairs -/
def cp (w : List α) (z : α) : Bool := px w fun y => decide (y = z)
def nn : List α → α → α → Bool
  | [], _, _ => false
  | a :: w, b, z => xor (decide (a = b) && cp w z) (nn w b z)
/-- do the bands b and z cross -/
def cr (w : List α) (b z : α) : Bool := !decide (b = z) && nn w b z
theorem cp_cons (a : α) (w : List α) (z : α) : cp (a :: w) z = xor (decide (a = z)) (cp w z) := rfl
theorem cp_append (u w : List α) (z : α) : cp (u ++ w) z = xor (cp u z) (cp w z) := px_append u w _
theorem cp_not {w : List α} {z : α} (h : z ∉ w) : cp w z = false := by
  unfold cp
  rw [px_congr (g := fun _ => false) fun y hy => decide_eq_false fun e : y = z => h (e ▸ hy)]
  exact px_false w
theorem cp_count (w : List α) (z : α) : cp w z = decide (w.count z % 2 = 1) := by
  induction w with
  | nil => rfl
  | cons a w ih =>
    rw [cp_cons, ih]
    by_cases e : a = z
    · subst e
      rw [decide_eq_true rfl, List.count_cons_self]
      by_cases h : w.count a % 2 = 1
      · rw [decide_eq_true h, decide_eq_false (by omega)]; rfl
      · rw [decide_eq_false h, decide_eq_true (by omega)]; rfl
    · rw [decide_eq_false e, List.count_cons_of_ne e, Bool.false_xor]
theorem nn_append (u w : List α) (b z : α) : nn (u ++ w) b z = xor (xor (nn u b z) (nn w b z)) (cp u b && cp w z) := by
  induction u with
  | nil => show nn w b z = xor (xor false (nn w b z)) (false && cp w z); cases nn w b z <;> rfl
  | cons a u ih =>
    show xor (decide (a = b) && cp (u ++ w) z) (nn (u ++ w) b z) = xor (xor (xor (decide (a = b) && cp u z) (nn u b z)) (nn w b z)) (cp (a :: u) b && cp w z)
    rw [ih, cp_append, cp_cons]
    cases decide (a = b) <;> cases cp u z <;> cases cp w z <;> cases nn u b z <;> cases nn w b z <;> cases cp u b <;> rfl
theorem nn_not {w : List α} {b z : α} (h : b ∉ w) : nn w b z = false := by
  induction w with
  | nil => rfl
  | cons a w ih =>
    show xor (decide (a = b) && cp w z) (nn w b z) = false
    rw [decide_eq_false fun e : a = b => h (e ▸ List.mem_cons_self ..), ih fun k => h (List.mem_cons_of_mem _ k)]; rfl
theorem nn_not2 {w : List α} {b z : α} (h : z ∉ w) : nn w b z = false := by
  induction w with
  | nil => rfl
  | cons a w ih =>
    show xor (decide (a = b) && cp w z) (nn w b z) = false
    rw [cp_not fun k => h (List.mem_cons_of_mem _ k), ih fun k => h (List.mem_cons_of_mem _ k), Bool.and_false]; rfl
theorem nn_sym (w : List α) {b z : α} (h : b ≠ z) : xor (nn w b z) (nn w z b) = (cp w b && cp w z) := by
  induction w with
  | nil => rfl
  | cons a w ih =>
    show xor (xor (decide (a = b) && cp w z) (nn w b z)) (xor (decide (a = z) && cp w b) (nn w z b)) = (cp (a :: w) b && cp (a :: w) z)
    rw [cp_cons, cp_cons]
    by_cases e1 : a = b
    · by_cases e2 : a = z
      · exact (h (e1.symm.trans e2)).elim
      · rw [decide_eq_true e1, decide_eq_false e2]
        revert ih
        cases nn w b z <;> cases nn w z b <;> cases cp w b <;> cases cp w z <;> decide
    · rw [decide_eq_false e1]
      revert ih
      cases decide (a = z) <;> cases nn w b z <;> cases nn w z b <;> cases cp w b <;> cases cp w z <;> decide
/-- each letter of w stands twice, B lists the letters -/
structure Wd (w B : List α) : Prop where
  nd : B.Nodup
  mem : ∀ a, a ∈ w ↔ a ∈ B
  two : ∀ a ∈ w, w.count a = 2
theorem Wd.ev {w B : List α} (h : Wd w B) (a : α) : cp w a = false := by
  rw [cp_count]
  by_cases e : a ∈ w
  · rw [h.two a e]; rfl
  · rw [List.count_eq_zero_of_not_mem e]; rfl
theorem Wd.sym {w B : List α} (h : Wd w B) (a b : α) : cr w a b = cr w b a := by
  unfold cr
  by_cases e : a = b
  · rw [e]
  · have h1 := nn_sym w e
    rw [h.ev a, Bool.false_and] at h1
    rw [decide_eq_false e, decide_eq_false fun z => e z.symm]
    revert h1
    cases nn w a b <;> cases nn w b a <;> decide
theorem Wd.diag {w B : List α} (_ : Wd w B) (a : α) : cr w a a = false := by
  unfold cr; rw [decide_eq_true rfl]; rfl
/-- w cut at the two places of b -/
theorem cut_two {w : List α} {b : α} (h : w.count b = 2) : ∃ X Y Z, w = X ++ b :: (Y ++ b :: Z) ∧ b ∉ X ∧ b ∉ Y ∧ b ∉ Z := by
  have one : ∀ {w : List α}, b ∈ w → ∃ X R, w = X ++ b :: R ∧ b ∉ X := fun {w} hb => by
    induction w with
    | nil => cases hb
    | cons a w ih =>
      by_cases e : a = b
      · exact ⟨[], w, by rw [e]; rfl, List.not_mem_nil⟩
      · obtain ⟨X, R, e1, e2⟩ := ih ((List.mem_cons.mp hb).resolve_left fun z => e z.symm)
        exact ⟨a :: X, R, by rw [e1]; rfl, fun z => (List.mem_cons.mp z).elim (fun y => e y.symm) e2⟩
  have hb : b ∈ w := List.count_pos_iff.mp (by omega)
  obtain ⟨X, R, e1, hX⟩ := one hb
  subst e1
  rw [List.count_append, List.count_eq_zero_of_not_mem hX, List.count_cons_self] at h
  obtain ⟨Y, Z, e2, hY⟩ := one (List.count_pos_iff.mp (show 0 < R.count b by omega))
  subst e2
  rw [List.count_append, List.count_eq_zero_of_not_mem hY, List.count_cons_self] at h
  exact ⟨X, Y, Z, rfl, hX, hY, fun z => by have := List.count_pos_iff.mpr z; omega⟩
theorem cr_between {X Y Z : List α} {b : α} (hX : b ∉ X) (hY : b ∉ Y) (hZ : b ∉ Z) (z : α) : cr (X ++ b :: (Y ++ b :: Z)) b z = cp Y z := by
  unfold cr
  by_cases e : b = z
  · rw [← e, decide_eq_true rfl, cp_not hY]; rfl
  · rw [decide_eq_false e, nn_append, nn_not hX, cp_not hX]
    show (true && xor (xor false (xor (decide (b = b) && cp (Y ++ b :: Z) z) (nn (Y ++ b :: Z) b z))) (false && _)) = _
    rw [decide_eq_true rfl, nn_append, nn_not hY, cp_not hY, cp_append, cp_cons, decide_eq_false e]
    show (true && xor (xor false (xor (true && xor (cp Y z) (xor false (cp Z z))) (xor (xor false (xor (decide (b = b) && cp Z z) (nn Z b z))) (false && _)))) (false && _)) = _
    rw [decide_eq_true rfl, nn_not hZ]
    simp only [Bool.false_and, Bool.true_and, Bool.false_xor, Bool.xor_false]
    cases cp Y z <;> cases cp Z z <;> rfl
/-- a sum along a list by its letters -/
theorem px_by {B Y : List α} (nd : B.Nodup) (h : ∀ a ∈ Y, a ∈ B) (v : α → Bool) : px Y v = px B fun z => cp Y z && v z := by
  induction Y with
  | nil =>
    exact ((px_congr (l := B) (f := fun z => cp [] z && v z) (g := fun _ => false) fun z _ => rfl).trans (px_false B)).symm
  | cons a Y ih =>
    rw [px_cons, ih fun b hb => h b (List.mem_cons_of_mem _ hb), ← px_delta nd (h a (List.mem_cons_self ..)) v, ← px_xor]
    refine px_congr fun z _ => ?_
    rw [cp_cons, show decide (a = z) = decide (z = a) from decide_eq_decide.mpr eq_comm]
    cases decide (z = a) <;> cases cp Y z <;> cases v z <;> rfl
theorem Wd.tot {w B : List α} (h : Wd w B) (v : α → Bool) : px w v = false := by
  rw [px_by h.nd (fun a ha => (h.mem a).mp ha) v, px_congr (g := fun _ => false) fun z _ => by rw [h.ev z]; rfl]
  exact px_false B
/-! places and gaps -/
def sv (w : List α) (v : α → Bool) (p : Nat) : Bool := px (w.take p) v
def prv (N p : Nat) : Nat := if p = 0 then N - 1 else p - 1
/-- m tells each place's partner -/
structure Mate (w : List α) (m : Nat → Nat) : Prop where
  lt : ∀ p, p < w.length → m p < w.length
  at_ : ∀ X b Y Z, w = X ++ b :: (Y ++ b :: Z) → b ∉ X → b ∉ Y → b ∉ Z → m X.length = X.length + 1 + Y.length ∧ m (X.length + 1 + Y.length) = X.length
theorem place_cut {w B : List α} (h : Wd w B) {p : Nat} {b : α} (hp : w[p]? = some b) : ∃ X Y Z, w = X ++ b :: (Y ++ b :: Z) ∧ b ∉ X ∧ b ∉ Y ∧ b ∉ Z ∧ (p = X.length ∨ p = X.length + 1 + Y.length) := by
  obtain ⟨X, Y, Z, e, hX, hY, hZ⟩ := cut_two (h.two b (List.mem_of_getElem? hp))
  refine ⟨X, Y, Z, e, hX, hY, hZ, ?_⟩
  rw [e] at hp
  rcases Nat.lt_trichotomy p X.length with l | l | l
  · rw [List.getElem?_append_left l] at hp
    exact (hX (List.mem_of_getElem? hp)).elim
  · exact .inl l
  · rw [List.getElem?_append_right (by omega)] at hp
    obtain ⟨q, hq⟩ : ∃ q, p - X.length = q + 1 := ⟨p - X.length - 1, by omega⟩
    rw [hq, List.getElem?_cons_succ] at hp
    rcases Nat.lt_trichotomy q Y.length with k | k | k
    · rw [List.getElem?_append_left k] at hp
      exact (hY (List.mem_of_getElem? hp)).elim
    · exact .inr (by omega)
    · rw [List.getElem?_append_right (by omega)] at hp
      obtain ⟨r, hr⟩ : ∃ r, q - Y.length = r + 1 := ⟨q - Y.length - 1, by omega⟩
      rw [hr, List.getElem?_cons_succ] at hp
      exact (hZ (List.mem_of_getElem? hp)).elim
theorem sv_cut {X Y Z : List α} {b : α} (v : α → Bool) : sv (X ++ b :: (Y ++ b :: Z)) v X.length = px X v ∧ sv (X ++ b :: (Y ++ b :: Z)) v (X.length + 1) = xor (px X v) (v b) ∧
    sv (X ++ b :: (Y ++ b :: Z)) v (X.length + 1 + Y.length) = xor (xor (px X v) (v b)) (px Y v) ∧ sv (X ++ b :: (Y ++ b :: Z)) v (X.length + 1 + Y.length + 1) = xor (xor (xor (px X v) (v b)) (px Y v)) (v b) := by
  unfold sv
  have e1 : (X ++ b :: (Y ++ b :: Z)).take (X.length + 1) = X ++ [b] := by
    rw [List.take_append, List.take_of_length_le (by omega), show X.length + 1 - X.length = 1 by omega]; rfl
  have e2 : (X ++ b :: (Y ++ b :: Z)).take (X.length + 1 + Y.length) = X ++ b :: Y := by
    rw [List.take_append, List.take_of_length_le (by omega), show X.length + 1 + Y.length - X.length = Y.length + 1 by omega, List.take_succ_cons, List.take_left]
  have e3 : (X ++ b :: (Y ++ b :: Z)).take (X.length + 1 + Y.length + 1) = X ++ b :: (Y ++ [b]) := by
    rw [List.take_append, List.take_of_length_le (by omega), show X.length + 1 + Y.length + 1 - X.length = Y.length + 1 + 1 by omega, List.take_succ_cons, List.take_append, List.take_of_length_le (by omega), show Y.length + 1 - Y.length = 1 by omega]; rfl
  rw [e1, e2, e3, List.take_left]
  refine ⟨rfl, ?_, ?_, ?_⟩
  · rw [px_append, px_cons, px_nil, Bool.xor_false]
  · rw [px_append, px_cons]; cases px X v <;> cases v b <;> cases px Y v <;> rfl
  · rw [px_append, px_cons, px_append, px_cons, px_nil]; cases px X v <;> cases v b <;> cases px Y v <;> rfl
/-- the gaps' function of a choice of bands -/
def gap (w : List α) (c : Bool) (v : α → Bool) : Nat → Bool := fun p => if p < w.length then xor c (sv w v (p + 1)) else false
theorem Wd.gap_prv {w B : List α} (h : Wd w B) (c : Bool) (v : α → Bool) {q : Nat} (hq : q < w.length) : gap w c v (prv w.length q) = xor c (sv w v q) := by
  unfold gap prv
  by_cases e : q = 0
  · rw [if_pos e, if_pos (by omega), show w.length - 1 + 1 = w.length by omega, e]
    congr 1
    show px (w.take w.length) v = px (w.take 0) v
    rw [List.take_length, h.tot]; rfl
  · rw [if_neg e, if_pos (by omega), show q - 1 + 1 = q by omega]
/-- it stays along the rims just if the choice meets no band oddly -/
theorem Wd.gap_inv {w B : List α} (h : Wd w B) {m : Nat → Nat} (hm : Mate w m) (c : Bool) (v : α → Bool) : (∀ p, p < w.length → gap w c v p = gap w c v (prv w.length (m p))) ↔ ker (cr w) B v = true := by
  have e0 : ∀ {X Y Z b}, w = X ++ b :: (Y ++ b :: Z) → b ∉ X → b ∉ Y → b ∉ Z → px B (fun z => cr w b z && v z) = px Y v := fun {X Y Z b} e hX hY hZ => by
    rw [px_by h.nd (fun a ha => (h.mem a).mp (by rw [e]; simp [ha])) v]
    refine px_congr fun z _ => ?_
    rw [e, cr_between hX hY hZ]
  have gp : ∀ {p}, p < w.length → gap w c v p = xor c (sv w v (p + 1)) := fun hp => if_pos hp
  unfold ker
  rw [List.all_eq_true]
  constructor
  · intro k b hb
    obtain ⟨X, Y, Z, e, hX, hY, hZ⟩ := cut_two (h.two b ((h.mem b).mpr hb))
    obtain ⟨s1, s2, s3, s4⟩ := sv_cut (X := X) (Y := Y) (Z := Z) (b := b) v
    rw [← e] at s1 s2 s3 s4
    have hl : w.length = X.length + (Y.length + (Z.length + 1) + 1) := by rw [e]; simp
    have h1 := k X.length (by omega)
    rw [(hm.at_ X b Y Z e hX hY hZ).1, h.gap_prv c v (by omega), gp (by omega), s2, s3] at h1
    rw [e0 e hX hY hZ]
    revert h1
    cases c <;> cases px X v <;> cases v b <;> cases px Y v <;> decide
  · intro k p hp
    obtain ⟨X, Y, Z, e, hX, hY, hZ, hpp⟩ := place_cut h (List.getElem?_eq_getElem hp)
    generalize w[p] = b at e hX hY hZ
    obtain ⟨s1, s2, s3, s4⟩ := sv_cut (X := X) (Y := Y) (Z := Z) (b := b) v
    rw [← e] at s1 s2 s3 s4
    have hl : w.length = X.length + (Y.length + (Z.length + 1) + 1) := by rw [e]; simp
    have hb : b ∈ B := (h.mem b).mp (by rw [e]; simp)
    have h1 := k b hb
    rw [e0 e hX hY hZ] at h1
    obtain ⟨m1, m2⟩ := hm.at_ X b Y Z e hX hY hZ
    rcases hpp with hpp | hpp
    · rw [hpp, m1, h.gap_prv c v (by omega), gp (by omega), s2, s3]
      revert h1
      cases c <;> cases px X v <;> cases v b <;> cases px Y v <;> decide
    · rw [hpp, m2, h.gap_prv c v (by omega), gp (by omega), s4, s1]
      revert h1
      cases c <;> cases px X v <;> cases v b <;> cases px Y v <;> decide
theorem Mate.inv {w B : List α} (h : Wd w B) {m : Nat → Nat} (hm : Mate w m) {p : Nat} (hp : p < w.length) : m (m p) = p := by
  obtain ⟨X, Y, Z, e, hX, hY, hZ, hpp⟩ := place_cut h (List.getElem?_eq_getElem hp)
  obtain ⟨m1, m2⟩ := hm.at_ X _ Y Z e hX hY hZ
  rcases hpp with z | z
  · rw [z, m1, m2]
  · rw [z, m2, m1]
theorem prv_lt {N q : Nat} (h : q < N) : prv N q < N := by unfold prv; split <;> omega
theorem prv_inj {N a b : Nat} (ha : a < N) (hb : b < N) (e : prv N a = prv N b) : a = b := by
  unfold prv at e
  split at e <;> split at e <;> omega
theorem Mate.inj {w B : List α} (h : Wd w B) {m : Nat → Nat} (hm : Mate w m) (a b : Nat) (ha : a < w.length) (hb : b < w.length) (e : prv w.length (m a) = prv w.length (m b)) : a = b := by
  have := prv_inj (hm.lt a ha) (hm.lt b hb) e
  rw [← hm.inv h ha, this, hm.inv h hb]
theorem sv_succ {w : List α} {p : Nat} {b : α} (hp : w[p]? = some b) (v : α → Bool) : sv w v (p + 1) = xor (sv w v p) (v b) := by
  unfold sv
  rw [List.take_add_one, hp, px_append]
  show xor _ (px [b] v) = _
  rw [px_cons, px_nil, Bool.xor_false]
theorem sv_eq {w : List α} {u v : α → Bool} (h : ∀ p, p < w.length → sv w u (p + 1) = sv w v (p + 1)) : ∀ a ∈ w, u a = v a := fun a ha => by
  obtain ⟨p, hp⟩ := List.getElem?_of_mem ha
  have hl := (List.getElem?_eq_some_iff.mp hp).1
  have h1 := h p hl
  rw [sv_succ hp, sv_succ hp] at h1
  have h2 : sv w u p = sv w v p := by
    cases p with
    | zero => rfl
    | succ p => exact h p (by omega)
  rw [h2] at h1
  revert h1
  cases sv w v p <;> cases u a <;> cases v a <;> decide
/-- rims and the kernel: one function of gaps for each choice in the kernel, and its opposite -/
theorem Wd.gaps {w B : List α} (h : Wd w B) {m : Nat → Nat} (hm : Mate w m) (hN : 0 < w.length) : gN (fun p => prv w.length (m p)) (List.range w.length) = 2 * kerN (cr w) B := by
  unfold gN kerN
  rw [sm_len (List.range w.length) fun g => (List.range w.length).all fun p => g p == g (prv w.length (m p)), sm_len B fun v => ker (cr w) B v]
  have hG : ∀ g : Nat → Bool, ((List.range w.length).all fun p => g p == g (prv w.length (m p))) = true ↔ ∀ p, p < w.length → g p = g (prv w.length (m p)) := fun g => by
    rw [List.all_eq_true]
    exact ⟨fun k p hp => eq_of_beq (k p (List.mem_range.mpr hp)), fun k p hp => beq_iff_eq.mpr (k p (List.mem_range.mp hp))⟩
  let G := (allS (List.range w.length)).filter fun g => (List.range w.length).all fun p => g p == g (prv w.length (m p))
  let K := (allS B).filter fun v => ker (cr w) B v
  let L2 : List (Bool × (α → Bool)) := K.map (fun v => (false, v)) ++ K.map fun v => (true, v)
  have hK : ∀ v, v ∈ K ↔ On B v ∧ ker (cr w) B v = true := fun v => by
    show v ∈ (allS B).filter _ ↔ _
    rw [List.mem_filter]
    exact ⟨fun z => ⟨allS_on z.1, z.2⟩, fun z => ⟨on_allS h.nd z.1, z.2⟩⟩
  have hGm : ∀ g, g ∈ G ↔ On (List.range w.length) g ∧ ∀ p, p < w.length → g p = g (prv w.length (m p)) := fun g => by
    show g ∈ (allS _).filter _ ↔ _
    rw [List.mem_filter, hG]
    exact ⟨fun z => ⟨allS_on z.1, z.2⟩, fun z => ⟨on_allS List.nodup_range z.1, z.2⟩⟩
  have hL : ∀ c v, (c, v) ∈ L2 ↔ v ∈ K := fun c v => by
    show (c, v) ∈ K.map _ ++ K.map _ ↔ _
    rw [List.mem_append, List.mem_map, List.mem_map]
    constructor
    · rintro (⟨u, hu, e⟩ | ⟨u, hu, e⟩)
      · exact (Prod.mk.inj e).2 ▸ hu
      · exact (Prod.mk.inj e).2 ▸ hu
    · intro hv
      cases c
      · exact .inl ⟨v, hv, rfl⟩
      · exact .inr ⟨v, hv, rfl⟩
  have ndK : K.Nodup := (nd_allS h.nd).filter _
  have ndG : G.Nodup := (nd_allS List.nodup_range).filter _
  have ndL : L2.Nodup := by
    show (K.map _ ++ K.map _).Nodup
    rw [List.nodup_append]
    refine ⟨nd_map ndK fun x _ y _ e => (Prod.mk.inj e).2, nd_map ndK fun x _ y _ e => (Prod.mk.inj e).2, fun a ha b hb e => ?_⟩
    obtain ⟨x, _, rfl⟩ := List.mem_map.mp ha
    obtain ⟨y, _, rfl⟩ := List.mem_map.mp hb
    cases (Prod.mk.inj e).1
  have lenL : L2.length = 2 * K.length := by
    show (K.map _ ++ K.map _).length = _
    rw [List.length_append, List.length_map, List.length_map]; omega
  -- from choices to gaps
  have le1 : L2.length ≤ G.length := inj_len ndL (fun x => gap w x.1 x.2) (fun x hx => by
    have hv := (hK x.2).mp ((hL x.1 x.2).mp hx)
    refine (hGm _).mpr ⟨fun p hp => ?_, (h.gap_inv hm x.1 x.2).mpr hv.2⟩
    unfold gap
    exact if_neg fun z => hp (List.mem_range.mpr z)) fun x hx y hy e => by
    have hv := (hK x.2).mp ((hL x.1 x.2).mp hx)
    have hu := (hK y.2).mp ((hL y.1 y.2).mp hy)
    have e1 : ∀ p, p < w.length → xor x.1 (sv w x.2 (p + 1)) = xor y.1 (sv w y.2 (p + 1)) := fun p hp => by
      have := congrFun e p
      unfold gap at this
      rwa [if_pos hp, if_pos hp] at this
    have e2 : x.1 = y.1 := by
      have := e1 (w.length - 1) (by omega)
      rw [show w.length - 1 + 1 = w.length by omega] at this
      have t : ∀ v, sv w v w.length = false := fun v => by
        unfold sv; rw [List.take_length]; exact h.tot v
      rwa [t, t, Bool.xor_false, Bool.xor_false] at this
    have e3 := sv_eq (w := w) (u := x.2) (v := y.2) fun p hp => by
      have := e1 p hp
      rw [e2] at this
      revert this
      cases y.1 <;> cases sv w x.2 (p + 1) <;> cases sv w y.2 (p + 1) <;> decide
    refine Prod.ext e2 (funext fun a => ?_)
    by_cases ha : a ∈ w
    · exact e3 a ha
    · rw [hv.1 a fun z => ha ((h.mem a).mpr z), hu.1 a fun z => ha ((h.mem a).mpr z)]
  -- from gaps to choices
  let dl : (Nat → Bool) → α → Bool := fun g a => if a ∈ w then xor (g (w.findIdx fun y => decide (y = a))) (g (prv w.length (w.findIdx fun y => decide (y = a)))) else false
  have hdl : ∀ g, g ∈ G → ∀ p b, w[p]? = some b → dl g b = xor (g p) (g (prv w.length p)) := fun g hg p b hp => by
    have hg2 := (hGm g).mp hg
    have hbw := List.mem_of_getElem? hp
    obtain ⟨X, Y, Z, e, hX, hY, hZ, hpp⟩ := place_cut h hp
    have hi : (w.findIdx fun y => decide (y = b)) = X.length := by
      rw [e, List.findIdx_append]
      have : ¬(X.findIdx fun y => decide (y = b)) < X.length := fun z => by
        have := List.findIdx_getElem (w := z)
        exact hX (by rw [← of_decide_eq_true this]; exact List.getElem_mem z)
      rw [if_neg this]
      simp [List.findIdx_cons]
    show (if b ∈ w then _ else _) = _
    rw [if_pos hbw, hi]
    obtain ⟨m1, m2⟩ := hm.at_ X b Y Z e hX hY hZ
    have hl : w.length = X.length + (Y.length + (Z.length + 1) + 1) := by rw [e]; simp
    rcases hpp with z | z
    · rw [z]
    · have y1 := hg2.2 X.length (by omega)
      have y2 := hg2.2 p (by omega)
      rw [m1] at y1
      rw [z, m2] at y2
      rw [z, y1, y2, Bool.xor_comm]
  have hgap : ∀ g, g ∈ G → gap w (g (w.length - 1)) (dl g) = g := fun g hg => by
    have hg2 := (hGm g).mp hg
    have e1 : ∀ p, p < w.length → xor (g (w.length - 1)) (sv w (dl g) (p + 1)) = g p := by
      intro p
      induction p with
      | zero =>
        intro hp
        have hb := List.getElem?_eq_getElem hp
        rw [sv_succ hb, hdl g hg 0 _ hb]
        show xor _ (xor (px (w.take 0) _) _) = _
        unfold prv
        rw [if_pos rfl, List.take_zero, px_nil]
        cases g (w.length - 1) <;> cases g 0 <;> rfl
      | succ p ih =>
        intro hp
        have hb := List.getElem?_eq_getElem hp
        rw [sv_succ hb, hdl g hg (p + 1) _ hb, ← Bool.xor_assoc, ih (by omega)]
        unfold prv
        rw [if_neg (by omega), show p + 1 - 1 = p by omega]
        cases g p <;> cases g (p + 1) <;> rfl
    funext p
    unfold gap
    by_cases hp : p < w.length
    · rw [if_pos hp, e1 p hp]
    · rw [if_neg hp, hg2.1 p fun z => hp (List.mem_range.mp z)]
  have le2 : G.length ≤ L2.length := inj_len ndG (fun g => (g (w.length - 1), dl g)) (fun g hg => by
    refine (hL _ _).mpr ((hK _).mpr ⟨fun a ha => if_neg fun z => ha ((h.mem a).mp z), ?_⟩)
    refine (h.gap_inv hm (g (w.length - 1)) (dl g)).mp ?_
    rw [hgap g hg]
    exact ((hGm g).mp hg).2) fun x hx y hy e => by
    rw [← hgap x hx, ← hgap y hy]
    have e' := Prod.mk.inj e
    rw [e'.1, e'.2]
  have : G.length = 2 * K.length := by omega
  show ((G.length : Nat) : Int) = 2 * ((K.length : Nat) : Int)
  omega
/-- the law of rims and ranks -/
theorem rims_rank {w B : List α} (h : Wd w B) {m : Nat → Nat} (hm : Mate w m) (hN : 0 < w.length) {U : List Nat} {k R : Nat} (hU : Cyc (fun p => prv w.length (m p)) w.length U k) (ha : ∀ p, p < w.length → p ∈ U)
    (hR : kerN (cr w) B * 2 ^ R = 2 ^ B.length) : R % 2 = 0 ∧ R + k = B.length + 1 := by
  obtain ⟨h1, h2, h3⟩ := rank_of h.nd (fun a _ b _ => h.sym a b) (fun a _ => h.diag a) hR
  have h4 := hU.full ha
  rw [h.gaps hm hN, h3, Int.mul_comm, ← Int.pow_succ] at h4
  have h5 : (2 : Nat) ^ (B.length - R + 1) = 2 ^ k := by
    have e : (((2 : Nat) ^ (B.length - R + 1) : Nat) : Int) = ((2 ^ k : Nat) : Int) := by
      rw [Int.natCast_pow, Int.natCast_pow]; exact h4
    exact Int.ofNat.inj e
  have := pow_inj2 h5
  exact ⟨h1, by omega⟩
end
end Rk
namespace Rk
section
variable {α : Type} [DecidableEq α]
theorem ker_congr {A A' : α → α → Bool} {B : List α} (h : ∀ b ∈ B, ∀ z ∈ B, A b z = A' b z) (v : α → Bool) : ker A B v = ker A' B v := by
  unfold ker
  rw [Bool.eq_iff_iff, List.all_eq_true, List.all_eq_true]
  have e : ∀ b ∈ B, px B (fun z => A b z && v z) = px B fun z => A' b z && v z := fun b hb => px_congr fun z hz => by rw [h b hb z hz]
  exact ⟨fun k b hb => by rw [← e b hb]; exact k b hb, fun k b hb => by rw [e b hb]; exact k b hb⟩
theorem kerN_congr {A A' : α → α → Bool} {B : List α} (h : ∀ b ∈ B, ∀ z ∈ B, A b z = A' b z) : kerN A B = kerN A' B := by
  unfold kerN
  exact sm_congr fun v _ => by rw [ker_congr h]
theorem kerN_perm {A : α → α → Bool} {B B' : List α} (h : B.Perm B') : kerN A B = kerN A B' := by
  unfold kerN
  rw [sm_perm h]
  refine sm_congr fun v _ => ?_
  have : ker A B v = ker A B' v := by
    unfold ker
    rw [all_perm (fun x => h.mem_iff) fun b => !px B fun z => A b z && v z]
    rw [Bool.eq_iff_iff, List.all_eq_true, List.all_eq_true]
    exact ⟨fun k b hb => by rw [← px_perm h]; exact k b hb, fun k b hb => by rw [px_perm h]; exact k b hb⟩
  rw [this]
/-- y gets x besides -/
def shr (x y : α) (v : α → Bool) : α → Bool := fun i => if i = y then xor (v y) (v x) else v i
theorem sm_shr {B : List α} (nd : B.Nodup) {x y : α} (hx : x ∈ B) (hy : y ∈ B) (hn : x ≠ y) (f : (α → Bool) → Int) : sm B f = sm B fun v => f (shr x y v) := by
  obtain ⟨l1, l2, e1⟩ := List.append_of_mem hx
  have p1 : B.Perm (x :: (l1 ++ l2)) := by rw [e1]; exact List.perm_middle
  have hy2 : y ∈ l1 ++ l2 := (List.mem_cons.mp (p1.mem_iff.mp hy)).resolve_left fun z => hn z.symm
  obtain ⟨m1, m2, e2⟩ := List.append_of_mem hy2
  have p2 : B.Perm (x :: y :: (m1 ++ m2)) := by
    refine p1.trans (List.Perm.cons x ?_)
    rw [e2]; exact List.perm_middle
  have nd2 := p2.nodup_iff.mp nd
  rw [sm_perm p2 f, sm_perm p2 fun v => f (shr x y v)]
  generalize m1 ++ m2 = l at nd2
  have nx : x ∉ l := fun z => (List.nodup_cons.mp nd2).1 (List.mem_cons_of_mem _ z)
  have ny : y ∉ l := (List.nodup_cons.mp (List.nodup_cons.mp nd2).2).1
  have hc : ∀ (g h : (α → Bool) → Int), (∀ v, On l v → g v = h v) → sm l g = sm l h := fun g h => sm_congr
  rw [sm_cons, sm_cons, sm_cons, sm_cons, sm_cons, sm_cons]
  have t1 : sm l (fun v => f (shr x y v)) = sm l f := hc _ _ fun v hv => by
    congr 1; funext i; unfold shr
    by_cases e : i = y
    · rw [if_pos e, e, hv y ny, hv x nx]; rfl
    · rw [if_neg e]
  have t2 : sm l (fun v => f (shr x y (up v y))) = sm l fun v => f (up v y) := hc _ _ fun v hv => by
    congr 1; funext i; unfold shr up
    by_cases e : i = y
    · rw [if_pos e, if_pos e, if_pos rfl, if_neg hn, hv x nx]; rfl
    · rw [if_neg e]
  have t3 : sm l (fun v => f (shr x y (up v x))) = sm l fun v => f (up (up v y) x) := hc _ _ fun v hv => by
    congr 1; funext i; unfold shr up
    by_cases e : i = y
    · rw [if_pos e, if_pos rfl, if_neg (fun z => hn z.symm), hv y ny, if_neg (fun z : i = x => hn (z.symm.trans e)), if_pos e]; rfl
    · rw [if_neg e]
      by_cases e2 : i = x
      · rw [if_pos e2, if_pos e2]
      · rw [if_neg e2, if_neg e2, if_neg e]
  have t4 : sm l (fun v => f (shr x y (up (up v y) x))) = sm l fun v => f (up v x) := hc _ _ fun v hv => by
    congr 1; funext i; unfold shr up
    by_cases e : i = y
    · rw [if_pos e, if_pos rfl, if_pos rfl, if_neg (fun z => hn z.symm), if_neg (fun z : i = x => hn (z.symm.trans e)), e, hv y ny]; rfl
    · rw [if_neg e]
      by_cases e2 : i = x
      · rw [if_pos e2, if_pos e2]
      · rw [if_neg e2, if_neg e2, if_neg e]
  rw [t1, t2]
  show _ = _ + (sm l (fun v => f (shr x y (up v x))) + sm l fun v => f (shr x y (up (up v y) x)))
  rw [t3, t4]
  omega
/-- the band x led over y -/
theorem kerN_slide {A A' : α → α → Bool} {B : List α} (nd : B.Nodup) {x y : α} (hx : x ∈ B) (hy : y ∈ B) (hn : x ≠ y) (hd : A y y = false)
    (h : ∀ b ∈ B, ∀ z ∈ B, A' b z = xor (A b z) (xor (decide (b = x) && A y z) (decide (z = x) && A b y))) : kerN A' B = kerN A B := by
  unfold kerN
  rw [sm_shr nd hx hy hn fun v => if ker A B v = true then 1 else 0]
  refine sm_congr fun v _ => ?_
  have e1 : ∀ b, px B (fun z => A b z && shr x y v z) = xor (px B fun z => A b z && v z) (A b y && v x) := fun b => by
    rw [show (A b y && v x) = px B fun z => decide (z = y) && (A b z && v x) from (px_delta nd hy fun z => A b z && v x).symm, ← px_xor]
    refine px_congr fun z _ => ?_
    unfold shr
    by_cases e : z = y
    · rw [if_pos e, decide_eq_true e, e]; cases A b y <;> cases v y <;> cases v x <;> rfl
    · rw [if_neg e, decide_eq_false e]; cases A b z <;> cases v z <;> rfl
  have e2 : ∀ b ∈ B, px B (fun z => A' b z && v z) = xor (px B fun z => A b z && shr x y v z) (decide (b = x) && px B fun z => A y z && shr x y v z) := fun b hb => by
    rw [e1, e1, hd, show (A b y && v x) = px B fun z => decide (z = x) && (A b y && v z) from (px_delta nd hx fun z => A b y && v z).symm, Bool.false_and, Bool.xor_false, ← px_and, ← px_xor, ← px_xor]
    refine px_congr fun z hz => ?_
    rw [h b hb z hz]
    cases A b z <;> cases decide (b = x) <;> cases A y z <;> cases decide (z = x) <;> cases A b y <;> cases v z <;> rfl
  have e3 : ker A' B v = true ↔ ker A B (shr x y v) = true := by
    unfold ker
    rw [List.all_eq_true, List.all_eq_true]
    constructor
    · intro k b hb
      have ky := k y hy
      rw [e2 y hy, decide_eq_false fun z : y = x => hn z.symm, Bool.false_and, Bool.xor_false] at ky
      have kb := k b hb
      rw [e2 b hb] at kb
      revert ky kb
      cases px B (fun z => A b z && shr x y v z) <;> cases px B (fun z => A y z && shr x y v z) <;> cases decide (b = x) <;> decide
    · intro k b hb
      have ky := k y hy
      have kb := k b hb
      rw [e2 b hb]
      revert ky kb
      cases px B (fun z => A b z && shr x y v z) <;> cases px B (fun z => A y z && shr x y v z) <;> cases decide (b = x) <;> decide
  by_cases k : ker A' B v = true
  · rw [if_pos k, if_pos (e3.mp k)]
  · rw [if_neg k, if_neg fun z => k (e3.mpr z)]
theorem nn_skip (P R : List α) {x b z : α} (hb : x ≠ b) (hz : x ≠ z) : nn (P ++ x :: R) b z = nn (P ++ R) b z := by
  rw [nn_append, nn_append]
  show xor (xor (nn P b z) (xor (decide (x = b) && cp R z) (nn R b z))) (cp P b && cp (x :: R) z) = _
  rw [cp_cons, decide_eq_false hb, decide_eq_false hz, Bool.false_and, Bool.false_xor, Bool.false_xor]
theorem nn_move (P M R : List α) {x z : α} (hz : x ≠ z) : nn (P ++ x :: (M ++ R)) x z = xor (nn (P ++ (M ++ x :: R)) x z) (cp M z) := by
  have a1 : nn (P ++ x :: (M ++ R)) x z = xor (xor (nn P x z) (xor (cp (M ++ R) z) (nn (M ++ R) x z))) (cp P x && cp (M ++ R) z) := by
    rw [nn_append]
    show xor (xor (nn P x z) (xor (decide (x = x) && cp (M ++ R) z) (nn (M ++ R) x z))) (cp P x && cp (x :: (M ++ R)) z) = _
    rw [cp_cons, decide_eq_true rfl, decide_eq_false hz, Bool.true_and, Bool.false_xor]
  have a2 : nn (P ++ (M ++ x :: R)) x z = xor (xor (nn P x z) (xor (xor (nn M x z) (xor (cp R z) (nn R x z))) (cp M x && cp R z))) (cp P x && xor (cp M z) (cp R z)) := by
    rw [nn_append, nn_append, cp_append]
    show xor (xor (nn P x z) (xor (xor (nn M x z) (xor (decide (x = x) && cp R z) (nn R x z))) (cp M x && cp (x :: R) z))) (cp P x && xor (cp M z) (cp (x :: R) z)) = _
    rw [cp_cons, decide_eq_true rfl, decide_eq_false hz, Bool.true_and, Bool.false_xor]
  rw [a1, a2, nn_append, cp_append]
  cases nn P x z <;> cases nn M x z <;> cases nn R x z <;> cases cp M z <;> cases cp R z <;> cases cp M x <;> cases cp P x <;> rfl
/-- x moved across M, on which stands what y meets -/
theorem cr_move {w w' B : List α} (h : Wd w B) (h' : Wd w' B) {x y : α} (hn : x ≠ y) {P M R : List α}
    (e : (w = P ++ x :: (M ++ R) ∧ w' = P ++ (M ++ x :: R)) ∨ (w' = P ++ x :: (M ++ R) ∧ w = P ++ (M ++ x :: R)))
    (hM : ∀ z, z ≠ x → cp M z = cr w y z) (b z : α) : cr w' b z = xor (cr w b z) (xor (decide (b = x) && cr w y z) (decide (z = x) && cr w b y)) := by
  have sk : ∀ b z, x ≠ b → x ≠ z → nn w' b z = nn w b z := fun b z h1 h2 => by
    rcases e with ⟨e1, e2⟩ | ⟨e1, e2⟩
    · rw [e1, e2, nn_skip P _ h1 h2, ← List.append_assoc P M (x :: R), nn_skip (P ++ M) R h1 h2, List.append_assoc]
    · rw [e1, e2, nn_skip P _ h1 h2, ← List.append_assoc P M (x :: R), nn_skip (P ++ M) R h1 h2, List.append_assoc]
  have mv : ∀ z, z ≠ x → nn w' x z = xor (nn w x z) (cr w y z) := fun z hz => by
    rw [← hM z hz]
    rcases e with ⟨e1, e2⟩ | ⟨e1, e2⟩
    · rw [e1, e2, nn_move P M R (Ne.symm hz)]
      cases nn (P ++ (M ++ x :: R)) x z <;> cases cp M z <;> rfl
    · rw [e1, e2, nn_move P M R (Ne.symm hz)]
  have mvx : ∀ z, z ≠ x → cr w' x z = xor (cr w x z) (cr w y z) := fun z hz => by
    show (!decide (x = z) && nn w' x z) = xor (!decide (x = z) && nn w x z) _
    rw [decide_eq_false (Ne.symm hz), mv z hz]; rfl
  by_cases eb : b = x
  · rw [decide_eq_true eb, eb]
    by_cases ez : z = x
    · rw [decide_eq_true ez, ez, h'.diag, h.diag, h.sym y x]
      cases cr w x y <;> rfl
    · rw [decide_eq_false ez, mvx z ez]
      cases cr w x z <;> cases cr w y z <;> rfl
  · rw [decide_eq_false eb]
    by_cases ez : z = x
    · rw [decide_eq_true ez, ez, h'.sym b x, mvx b eb, h.sym x b, h.sym y b]
      cases cr w b x <;> cases cr w b y <;> rfl
    · rw [decide_eq_false ez]
      show (!decide (b = z) && nn w' b z) = _
      rw [sk b z (Ne.symm eb) (Ne.symm ez)]
      show cr w b z = _
      cases cr w b z <;> rfl
theorem cr_turn {r B : List α} {n : α} (h : Wd (n :: r) B) (h' : Wd (r ++ [n]) B) (b z : α) : cr (r ++ [n]) b z = cr (n :: r) b z := by
  by_cases e : b = z
  · rw [e, h.diag, h'.diag]
  · show (!decide (b = z) && nn (r ++ [n]) b z) = (!decide (b = z) && nn (n :: r) b z)
    congr 1
    have ev : ∀ a, a ≠ n → cp r a = false := fun a ha => by
      have := h.ev a
      rwa [cp_cons, decide_eq_false (Ne.symm ha), Bool.false_xor] at this
    rw [nn_append]
    show xor (xor (nn r b z) (xor (decide (n = b) && false) false)) (cp r b && xor (decide (n = z)) false) = xor (decide (n = b) && cp r z) (nn r b z)
    by_cases e1 : n = b
    · have e2 : n ≠ z := fun k => e (e1.symm.trans k)
      rw [decide_eq_true e1, decide_eq_false e2, ev z (Ne.symm e2)]
      cases nn r b z <;> cases cp r b <;> rfl
    · rw [decide_eq_false e1, ev b (Ne.symm e1)]
      cases nn r b z <;> cases decide (n = z) <;> cases cp r z <;> rfl
end
end Rk
namespace Cb
open PySem PySem.Spec PyProof.Rows L2
def top (i : Nat) : Stmt := PySem.Challenge.pw_combed_k30_whole_exactly_some_sheets_cou.main.body.getD i (.Pass ⟨0, 0, 0, 0⟩)
abbrev FnP (K : PySem.W.Frag) (x : Str) (st : Stmt) (f : Addr) (fd : FuncData) : Prop := FunD K x x (defArgs st) (defBody st) (defScope st) [] [] f fd
abbrev FnM (K : PySem.W.Frag) (x q : Str) (st : Stmt) (dvs : List V) (f : Addr) (fd : FuncData) : Prop := FunD K x q (defArgs st) (defBody st) (defScope st) dvs [] f fd
/-- what the globals stand for -/
structure Bi (K : PySem.W.Frag) (mg : Str → Option Value) : Prop where
  len : mg "len" = none
  int : mg "int" = none
  list : mg "list" = none
  range : mg "range" = none
  abs : mg "abs" = none
  isinstance : mg "isinstance" = none
  bool : mg "bool" = none
  str : mg "str" = none
  dict : mg "dict" = none
  tuple : mg "tuple" = none
  all : mg "all" = none
  any : mg "any" = none
  sum : mg "sum" = none
  sorted : mg "sorted" = none
  enumerate : mg "enumerate" = none
  zip : mg "zip" = none
  c_MOST_ARMS : ∃ u, mg "MOST_ARMS" = some u ∧ RelV (.int 12) u
  c_MOST_MODULUS : ∃ u, mg "MOST_MODULUS" = some u ∧ RelV (.int 24) u
  c_LONGEST : ∃ u, mg "LONGEST" = some u ∧ RelV (.int 3) u
  c_LETTERS_names : ∃ u, mg "LETTERS_names" = some u ∧ RelV (.str "abcdefghijklmnopqrstuvwxyz") u
  c_LETTERS_forms : ∃ u, mg "LETTERS_forms" = some u ∧ RelV (.str "abcdefghijklmnopqrstuvwxyz") u
  c_DIGITS_lines : ∃ u, mg "DIGITS_lines" = some u ∧ RelV (.str "0123456789") u
  cls_Sheet : Cls K (He.ga K "Sheet")
  na_Sheet_book : NoAttr K (He.ga K "Sheet") "book"
  na_Sheet_word : NoAttr K (He.ga K "Sheet") "word"
  na_Sheet__feet : NoAttr K (He.ga K "Sheet") "_feet"
  na_Sheet_bands : NoAttr K (He.ga K "Sheet") "bands"
  na_Sheet__told : NoAttr K (He.ga K "Sheet") "_told"
  cls_Book : Cls K (He.ga K "Book")
  na_Book_arms : NoAttr K (He.ga K "Book") "arms"
  na_Book_modulus : NoAttr K (He.ga K "Book") "modulus"
  cls_Kind : Cls K (He.ga K "Kind")
  na_Kind_book : NoAttr K (He.ga K "Kind") "book"
  na_Kind_handles : NoAttr K (He.ga K "Kind") "handles"
  na_Kind_rims : NoAttr K (He.ga K "Kind") "rims"
  na_Kind_measure : NoAttr K (He.ga K "Kind") "measure"
  na_Kind_share : NoAttr K (He.ga K "Kind") "share"
  na_Kind_balance : NoAttr K (He.ga K "Kind") "balance"
abbrev st_is_number : Stmt := top 14
theorem sc_is_number : FnScope ["value"] ["value"] (defScope st_is_number) := ⟨rfl, rfl, rfl, by decide +kernel, rfl, by decide +kernel, by decide +kernel⟩
abbrev st_reduced : Stmt := top 21
theorem sc_reduced : FnScope ["book", "n"] ["book", "n"] (defScope st_reduced) := ⟨rfl, rfl, rfl, by decide +kernel, rfl, by decide +kernel, by decide +kernel⟩
abbrev st_Book_init : Stmt := inClass (top 20) 0
theorem sc_Book_init : FnScope ["self", "arms", "modulus"] ["self", "arms", "modulus"] (defScope st_Book_init) := ⟨rfl, rfl, rfl, by decide +kernel, rfl, by decide +kernel, by decide +kernel⟩
abbrev st_divides : Stmt := top 23
theorem sc_divides : FnScope ["part", "whole"] ["part", "whole"] (defScope st_divides) := ⟨rfl, rfl, rfl, by decide +kernel, rfl, by decide +kernel, by decide +kernel⟩
abbrev st_has_balance : Stmt := top 24
theorem sc_has_balance : FnScope ["book", "share"] ["book", "share"] (defScope st_has_balance) := ⟨rfl, rfl, rfl, by decide +kernel, rfl, by decide +kernel, by decide +kernel⟩
abbrev st_some_odd_rim : Stmt := top 25
theorem sc_some_odd_rim : FnScope ["book", "rims", "share", "rim"] ["book", "rims", "share"] (defScope st_some_odd_rim) := ⟨rfl, rfl, rfl, by decide +kernel, rfl, by decide +kernel, by decide +kernel⟩
abbrev st_rims_stand : Stmt := top 26
theorem sc_rims_stand : FnScope ["book", "rims", "at"] ["book", "rims"] (defScope st_rims_stand) := ⟨rfl, rfl, rfl, by decide +kernel, rfl, by decide +kernel, by decide +kernel⟩
abbrev st_due_sum : Stmt := top 27
theorem sc_due_sum : FnScope ["book", "handles", "many"] ["book", "handles", "many"] (defScope st_due_sum) := ⟨rfl, rfl, rfl, by decide +kernel, rfl, by decide +kernel, by decide +kernel⟩
abbrev st_sum_stands : Stmt := top 28
theorem sc_sum_stands : FnScope ["book", "handles", "rims"] ["book", "handles", "rims"] (defScope st_sum_stands) := ⟨rfl, rfl, rfl, by decide +kernel, rfl, by decide +kernel, by decide +kernel⟩
abbrev st_measure_stands : Stmt := top 29
theorem sc_measure_stands : FnScope ["book", "rims", "measure", "rim"] ["book", "rims", "measure"] (defScope st_measure_stands) := ⟨rfl, rfl, rfl, by decide +kernel, rfl, by decide +kernel, by decide +kernel⟩
abbrev st_share_stands : Stmt := top 30
theorem sc_share_stands : FnScope ["book", "rims", "share", "rim"] ["book", "rims", "share"] (defScope st_share_stands) := ⟨rfl, rfl, rfl, by decide +kernel, rfl, by decide +kernel, by decide +kernel⟩
abbrev st_balance_stands : Stmt := top 31
theorem sc_balance_stands : FnScope ["book", "rims", "share", "balance"] ["book", "rims", "share", "balance"] (defScope st_balance_stands) := ⟨rfl, rfl, rfl, by decide +kernel, rfl, by decide +kernel, by decide +kernel⟩
abbrev st_broken_count : Stmt := top 32
theorem sc_broken_count : FnScope ["book", "handles", "rims", "measure", "share", "balance"] ["book", "handles", "rims", "measure", "share", "balance"] (defScope st_broken_count) := ⟨rfl, rfl, rfl, by decide +kernel, rfl, by decide +kernel, by decide +kernel⟩
abbrev st_is_name : Stmt := top 36
theorem sc_is_name : FnScope ["text", "sign"] ["text"] (defScope st_is_name) := ⟨rfl, rfl, rfl, by decide +kernel, rfl, by decide +kernel, by decide +kernel⟩
abbrev st_is_word : Stmt := top 45
theorem sc_is_word : FnScope ["word", "many", "name"] ["word"] (defScope st_is_word) := ⟨rfl, rfl, rfl, by decide +kernel, rfl, by decide +kernel, by decide +kernel⟩
abbrev st_feet_of : Stmt := top 48
theorem sc_feet_of : FnScope ["word", "lefts", "feet", "place", "band"] ["word"] (defScope st_feet_of) := ⟨rfl, rfl, rfl, by decide +kernel, rfl, by decide +kernel, by decide +kernel⟩
abbrev st_Sheet_init : Stmt := inClass (top 47) 0
theorem sc_Sheet_init : FnScope ["self", "book", "word", "numbers", "told", "band"] ["self", "book", "word", "numbers"] (defScope st_Sheet_init) := ⟨rfl, rfl, rfl, by decide +kernel, rfl, by decide +kernel, by decide +kernel⟩
abbrev st_Sheet_numbers : Stmt := inClass (top 47) 1
theorem sc_Sheet_numbers : FnScope ["self", "band"] ["self"] (defScope st_Sheet_numbers) := ⟨rfl, rfl, rfl, by decide +kernel, rfl, by decide +kernel, by decide +kernel⟩
abbrev st_ill_formed : Stmt := top 66
theorem sc_ill_formed : FnScope ["handles", "measure", "share", "balance"] ["handles", "measure", "share", "balance"] (defScope st_ill_formed) := ⟨rfl, rfl, rfl, by decide +kernel, rfl, by decide +kernel, by decide +kernel⟩
abbrev st_Kind_init : Stmt := inClass (top 67) 0
theorem sc_Kind_init : FnScope ["self", "book", "handles", "rims", "measure", "share", "balance", "why", "broken"] ["self", "book", "handles", "rims", "measure", "share", "balance"] (defScope st_Kind_init) := ⟨rfl, rfl, rfl, by decide +kernel, rfl, by decide +kernel, by decide +kernel⟩
abbrev st_band_name : Stmt := top 70
theorem sc_band_name : FnScope ["index", "letter"] ["index"] (defScope st_band_name) := ⟨rfl, rfl, rfl, by decide +kernel, rfl, by decide +kernel, by decide +kernel⟩
abbrev st_handle_shift : Stmt := top 71
theorem sc_handle_shift : FnScope ["kind", "handle", "sign"] ["kind", "handle"] (defScope st_handle_shift) := ⟨rfl, rfl, rfl, by decide +kernel, rfl, by decide +kernel, by decide +kernel⟩
abbrev st_form_of : Stmt := top 72
theorem sc_form_of : FnScope ["kind", "arms", "word", "given", "many", "handle", "first", "second", "rim", "loop"] ["kind"] (defScope st_form_of) := ⟨rfl, rfl, rfl, by decide +kernel, rfl, by decide +kernel, by decide +kernel⟩
abbrev st_l_bag : Stmt := top 74
theorem sc_l_bag : FnScope ["script", "state", "cell"] ["script"] (defScope st_l_bag) := ⟨rfl, rfl, rfl, by decide +kernel, rfl, by decide +kernel, by decide +kernel⟩
abbrev st_l_draw : Stmt := top 75
theorem sc_l_draw : FnScope ["bag", "many", "cell", "digit"] ["bag", "many"] (defScope st_l_draw) := ⟨rfl, rfl, rfl, by decide +kernel, rfl, by decide +kernel, by decide +kernel⟩
abbrev st_l_of : Stmt := top 76
theorem sc_l_of : FnScope ["bag", "things"] ["bag", "things"] (defScope st_l_of) := ⟨rfl, rfl, rfl, by decide +kernel, rfl, by decide +kernel, by decide +kernel⟩
abbrev st_l_like : Stmt := top 77
theorem sc_l_like : FnScope ["told", "due", "k", "key"] ["told", "due"] (defScope st_l_like) := ⟨rfl, rfl, rfl, by decide +kernel, rfl, by decide +kernel, by decide +kernel⟩
abbrev st_l_red : Stmt := top 78
theorem sc_l_red : FnScope ["mod", "num"] ["mod", "num"] (defScope st_l_red) := ⟨rfl, rfl, rfl, by decide +kernel, rfl, by decide +kernel, by decide +kernel⟩
abbrev st_l_divisor : Stmt := top 79
theorem sc_l_divisor : FnScope ["nums", "found", "num", "one", "two", "turn", "rest"] ["nums"] (defScope st_l_divisor) := ⟨rfl, rfl, rfl, by decide +kernel, rfl, by decide +kernel, by decide +kernel⟩
abbrev st_l_divisors : Stmt := top 80
theorem sc_l_divisors : FnScope ["num", "k"] ["num"] (defScope st_l_divisors) := ⟨rfl, rfl, rfl, by decide +kernel, rfl, by decide +kernel, by decide +kernel⟩
abbrev st_l_arms : Stmt := top 81
theorem sc_l_arms : FnScope ["bag", "arm"] ["bag"] (defScope st_l_arms) := ⟨rfl, rfl, rfl, by decide +kernel, rfl, by decide +kernel, by decide +kernel⟩
abbrev st_l_broken : Stmt := top 91
theorem sc_l_broken : FnScope ["arm", "mod", "counts", "hands", "edges", "meas", "part", "sign", "things", "wrong", "zero", "num"] ["arm", "mod", "counts"] (defScope st_l_broken) := ⟨rfl, rfl, rfl, by decide +kernel, rfl, by decide +kernel, by decide +kernel⟩
abbrev st_l_right : Stmt := top 92
theorem sc_l_right : FnScope ["bag", "arm", "mod", "hands", "many", "unit", "step", "edges", "most", "part", "k", "num", "sign"] ["bag", "arm", "mod", "hands", "many"] (defScope st_l_right) := ⟨rfl, rfl, rfl, by decide +kernel, rfl, by decide +kernel, by decide +kernel⟩
abbrev st_l_is_kind : Stmt := top 93
theorem sc_l_is_kind : FnScope ["told", "arm", "mod", "counts"] ["told", "arm", "mod", "counts"] (defScope st_l_is_kind) := ⟨rfl, rfl, rfl, by decide +kernel, rfl, by decide +kernel, by decide +kernel⟩
abbrev st_l_mates : Stmt := top 82
theorem sc_l_mates : FnScope ["feet", "seen", "mates", "k"] ["feet"] (defScope st_l_mates) := ⟨rfl, rfl, rfl, by decide +kernel, rfl, by decide +kernel, by decide +kernel⟩
abbrev st_l_bands : Stmt := top 83
theorem sc_l_bands : FnScope ["feet", "mates", "k"] ["feet"] (defScope st_l_bands) := ⟨rfl, rfl, rfl, by decide +kernel, rfl, by decide +kernel, by decide +kernel⟩
abbrev st_l_table : Stmt := top 84
theorem sc_l_table : FnScope ["feet", "mates", "lefts", "found", "a", "k", "b"] ["feet"] (defScope st_l_table) := ⟨rfl, rfl, rfl, by decide +kernel, rfl, by decide +kernel, by decide +kernel⟩
abbrev st_l_rims : Stmt := top 85
theorem sc_l_rims : FnScope ["own", "arm", "mod", "feet", "nums", "mates", "used", "found", "start", "place", "half", "worth", "passes", "outer", "turn", "far", "ahead"] ["own"] (defScope st_l_rims) := ⟨rfl, rfl, rfl, by decide +kernel, rfl, by decide +kernel, by decide +kernel⟩
abbrev st_l_parity : Stmt := top 86
theorem sc_l_parity : FnScope ["num", "step"] ["num"] (defScope st_l_parity) := ⟨rfl, rfl, rfl, by decide +kernel, rfl, by decide +kernel, by decide +kernel⟩
abbrev st_l_arf : Stmt := top 87
theorem sc_l_arf : FnScope ["bits", "table", "vals", "vecs", "lines", "left", "odd", "zero", "turn", "one", "hits", "two", "k", "a", "b", "line"] ["bits", "table"] (defScope st_l_arf) := ⟨rfl, rfl, rfl, by decide +kernel, rfl, by decide +kernel, by decide +kernel⟩
abbrev st_l_parted : Stmt := top 88
theorem sc_l_parted : FnScope ["own", "arm", "mod", "feet", "nums", "part", "name"] ["own"] (defScope st_l_parted) := ⟨rfl, rfl, rfl, by decide +kernel, rfl, by decide +kernel, by decide +kernel⟩
abbrev st_l_kind : Stmt := top 89
theorem sc_l_kind : FnScope ["own", "arm", "mod", "feet", "nums", "edges", "hands", "part", "sign", "names", "table", "inner", "rim", "k", "num"] ["own"] (defScope st_l_kind) := ⟨rfl, rfl, rfl, by decide +kernel, rfl, by decide +kernel, by decide +kernel⟩
abbrev st_l_own : Stmt := top 90
theorem sc_l_own : FnScope ["told", "arm", "mod", "feet", "nums", "name", "num"] ["told", "arm", "mod"] (defScope st_l_own) := ⟨rfl, rfl, rfl, by decide +kernel, rfl, by decide +kernel, by decide +kernel⟩
abbrev st_l_drawn : Stmt := top 94
theorem sc_l_drawn : FnScope ["bag", "arm", "mod", "hands", "many", "low", "edges", "last", "k"] ["bag", "arm", "mod"] (defScope st_l_drawn) := ⟨rfl, rfl, rfl, by decide +kernel, rfl, by decide +kernel, by decide +kernel⟩
abbrev st_l_kept : Stmt := top 95
theorem sc_l_kept : FnScope ["arm", "mod", "counts", "due", "told", "e", "own"] ["arm", "mod", "counts"] (defScope st_l_kept) := ⟨rfl, rfl, rfl, by decide +kernel, rfl, by decide +kernel, by decide +kernel⟩
abbrev st_law : Stmt := top 96
theorem sc_law : FnScope ["script", "bag", "arm", "mod", "turn", "counts"] ["script"] (defScope st_law) := ⟨rfl, rfl, rfl, by decide +kernel, rfl, by decide +kernel, by decide +kernel⟩
/-! ### the head: facts by names, the run -/
def d_is_number : He.DefD := ⟨("is_number", none), "is_number", "is_number", defArgs st_is_number, defBody st_is_number, defScope st_is_number, [], []⟩
def d_reduced : He.DefD := ⟨("reduced", none), "reduced", "reduced", defArgs st_reduced, defBody st_reduced, defScope st_reduced, [], []⟩
def d_Book_init : He.DefD := ⟨("Book", some "__init__"), "__init__", "Book.__init__", defArgs st_Book_init, defBody st_Book_init, defScope st_Book_init, [.int 0], []⟩
def d_divides : He.DefD := ⟨("divides", none), "divides", "divides", defArgs st_divides, defBody st_divides, defScope st_divides, [], []⟩
def d_has_balance : He.DefD := ⟨("has_balance", none), "has_balance", "has_balance", defArgs st_has_balance, defBody st_has_balance, defScope st_has_balance, [], []⟩
def d_some_odd_rim : He.DefD := ⟨("some_odd_rim", none), "some_odd_rim", "some_odd_rim", defArgs st_some_odd_rim, defBody st_some_odd_rim, defScope st_some_odd_rim, [], []⟩
def d_rims_stand : He.DefD := ⟨("rims_stand", none), "rims_stand", "rims_stand", defArgs st_rims_stand, defBody st_rims_stand, defScope st_rims_stand, [], []⟩
def d_due_sum : He.DefD := ⟨("due_sum", none), "due_sum", "due_sum", defArgs st_due_sum, defBody st_due_sum, defScope st_due_sum, [], []⟩
def d_sum_stands : He.DefD := ⟨("sum_stands", none), "sum_stands", "sum_stands", defArgs st_sum_stands, defBody st_sum_stands, defScope st_sum_stands, [], []⟩
def d_measure_stands : He.DefD := ⟨("measure_stands", none), "measure_stands", "measure_stands", defArgs st_measure_stands, defBody st_measure_stands, defScope st_measure_stands, [], []⟩
def d_share_stands : He.DefD := ⟨("share_stands", none), "share_stands", "share_stands", defArgs st_share_stands, defBody st_share_stands, defScope st_share_stands, [], []⟩
def d_balance_stands : He.DefD := ⟨("balance_stands", none), "balance_stands", "balance_stands", defArgs st_balance_stands, defBody st_balance_stands, defScope st_balance_stands, [], []⟩
def d_broken_count : He.DefD := ⟨("broken_count", none), "broken_count", "broken_count", defArgs st_broken_count, defBody st_broken_count, defScope st_broken_count, [], []⟩
def d_is_name : He.DefD := ⟨("is_name", none), "is_name", "is_name", defArgs st_is_name, defBody st_is_name, defScope st_is_name, [], []⟩
def d_is_word : He.DefD := ⟨("is_word", none), "is_word", "is_word", defArgs st_is_word, defBody st_is_word, defScope st_is_word, [], []⟩
def d_feet_of : He.DefD := ⟨("_feet_of", none), "_feet_of", "_feet_of", defArgs st_feet_of, defBody st_feet_of, defScope st_feet_of, [], []⟩
def d_Sheet_init : He.DefD := ⟨("Sheet", some "__init__"), "__init__", "Sheet.__init__", defArgs st_Sheet_init, defBody st_Sheet_init, defScope st_Sheet_init, [.non], []⟩
def d_Sheet_numbers : He.DefD := ⟨("Sheet", some "numbers"), "numbers", "Sheet.numbers", defArgs st_Sheet_numbers, defBody st_Sheet_numbers, defScope st_Sheet_numbers, [], []⟩
def d_ill_formed : He.DefD := ⟨("ill_formed", none), "ill_formed", "ill_formed", defArgs st_ill_formed, defBody st_ill_formed, defScope st_ill_formed, [], []⟩
def d_Kind_init : He.DefD := ⟨("Kind", some "__init__"), "__init__", "Kind.__init__", defArgs st_Kind_init, defBody st_Kind_init, defScope st_Kind_init, [], [("measure", .non), ("share", .non), ("balance", .non)]⟩
def d_band_name : He.DefD := ⟨("band_name", none), "band_name", "band_name", defArgs st_band_name, defBody st_band_name, defScope st_band_name, [], []⟩
def d_handle_shift : He.DefD := ⟨("handle_shift", none), "handle_shift", "handle_shift", defArgs st_handle_shift, defBody st_handle_shift, defScope st_handle_shift, [], []⟩
def d_form_of : He.DefD := ⟨("form_of", none), "form_of", "form_of", defArgs st_form_of, defBody st_form_of, defScope st_form_of, [], []⟩
def d_l_bag : He.DefD := ⟨("_law_bag", none), "_law_bag", "_law_bag", defArgs st_l_bag, defBody st_l_bag, defScope st_l_bag, [], []⟩
def d_l_draw : He.DefD := ⟨("_law_draw", none), "_law_draw", "_law_draw", defArgs st_l_draw, defBody st_l_draw, defScope st_l_draw, [], []⟩
def d_l_of : He.DefD := ⟨("_law_of", none), "_law_of", "_law_of", defArgs st_l_of, defBody st_l_of, defScope st_l_of, [], []⟩
def d_l_like : He.DefD := ⟨("_law_like", none), "_law_like", "_law_like", defArgs st_l_like, defBody st_l_like, defScope st_l_like, [], []⟩
def d_l_red : He.DefD := ⟨("_law_red", none), "_law_red", "_law_red", defArgs st_l_red, defBody st_l_red, defScope st_l_red, [], []⟩
def d_l_divisor : He.DefD := ⟨("_law_divisor", none), "_law_divisor", "_law_divisor", defArgs st_l_divisor, defBody st_l_divisor, defScope st_l_divisor, [], []⟩
def d_l_divisors : He.DefD := ⟨("_law_divisors", none), "_law_divisors", "_law_divisors", defArgs st_l_divisors, defBody st_l_divisors, defScope st_l_divisors, [], []⟩
def d_l_arms : He.DefD := ⟨("_law_arms", none), "_law_arms", "_law_arms", defArgs st_l_arms, defBody st_l_arms, defScope st_l_arms, [], []⟩
def d_l_broken : He.DefD := ⟨("_law_broken", none), "_law_broken", "_law_broken", defArgs st_l_broken, defBody st_l_broken, defScope st_l_broken, [], []⟩
def d_l_right : He.DefD := ⟨("_law_right", none), "_law_right", "_law_right", defArgs st_l_right, defBody st_l_right, defScope st_l_right, [], []⟩
def d_l_is_kind : He.DefD := ⟨("_law_is_kind", none), "_law_is_kind", "_law_is_kind", defArgs st_l_is_kind, defBody st_l_is_kind, defScope st_l_is_kind, [], []⟩
def d_l_mates : He.DefD := ⟨("_law_mates", none), "_law_mates", "_law_mates", defArgs st_l_mates, defBody st_l_mates, defScope st_l_mates, [], []⟩
def d_l_bands : He.DefD := ⟨("_law_bands", none), "_law_bands", "_law_bands", defArgs st_l_bands, defBody st_l_bands, defScope st_l_bands, [], []⟩
def d_l_table : He.DefD := ⟨("_law_table", none), "_law_table", "_law_table", defArgs st_l_table, defBody st_l_table, defScope st_l_table, [], []⟩
def d_l_rims : He.DefD := ⟨("_law_rims", none), "_law_rims", "_law_rims", defArgs st_l_rims, defBody st_l_rims, defScope st_l_rims, [], []⟩
def d_l_parity : He.DefD := ⟨("_law_parity", none), "_law_parity", "_law_parity", defArgs st_l_parity, defBody st_l_parity, defScope st_l_parity, [], []⟩
def d_l_arf : He.DefD := ⟨("_law_arf", none), "_law_arf", "_law_arf", defArgs st_l_arf, defBody st_l_arf, defScope st_l_arf, [], []⟩
def d_l_parted : He.DefD := ⟨("_law_parted", none), "_law_parted", "_law_parted", defArgs st_l_parted, defBody st_l_parted, defScope st_l_parted, [], []⟩
def d_l_kind : He.DefD := ⟨("_law_kind", none), "_law_kind", "_law_kind", defArgs st_l_kind, defBody st_l_kind, defScope st_l_kind, [], []⟩
def d_l_own : He.DefD := ⟨("_law_own", none), "_law_own", "_law_own", defArgs st_l_own, defBody st_l_own, defScope st_l_own, [], []⟩
def d_l_drawn : He.DefD := ⟨("_law_drawn", none), "_law_drawn", "_law_drawn", defArgs st_l_drawn, defBody st_l_drawn, defScope st_l_drawn, [], []⟩
def d_l_kept : He.DefD := ⟨("_law_kept", none), "_law_kept", "_law_kept", defArgs st_l_kept, defBody st_l_kept, defScope st_l_kept, [], []⟩
def d_law : He.DefD := ⟨("law", none), "law", "law", defArgs st_law, defBody st_law, defScope st_law, [], []⟩
def fn : List He.DefD := [d_is_number, d_reduced, d_Book_init, d_divides, d_has_balance, d_some_odd_rim, d_rims_stand, d_due_sum, d_sum_stands, d_measure_stands, d_share_stands, d_balance_stands, d_broken_count, d_is_name, d_is_word, d_feet_of, d_Sheet_init, d_Sheet_numbers, d_ill_formed, d_Kind_init, d_band_name, d_handle_shift, d_form_of, d_l_bag, d_l_draw, d_l_of, d_l_like, d_l_red, d_l_divisor, d_l_divisors, d_l_arms, d_l_broken, d_l_right, d_l_is_kind, d_l_mates, d_l_bands, d_l_table, d_l_rims, d_l_parity, d_l_arf, d_l_parted, d_l_kind, d_l_own, d_l_drawn, d_l_kept, d_law]
def fa : List He.Fa := [.glo "is_number", .glo "reduced", .glo "divides", .glo "has_balance", .glo "some_odd_rim", .glo "rims_stand", .glo "due_sum", .glo "sum_stands", .glo "measure_stands", .glo "share_stands", .glo "balance_stands", .glo "broken_count", .glo "is_name", .glo "is_word", .glo "_feet_of", .glo "ill_formed", .glo "band_name", .glo "handle_shift", .glo "form_of", .glo "_law_bag", .glo "_law_draw", .glo "_law_of", .glo "_law_like", .glo "_law_red", .glo "_law_divisor", .glo "_law_divisors", .glo "_law_arms", .glo "_law_broken", .glo "_law_right", .glo "_law_is_kind", .glo "_law_mates", .glo "_law_bands", .glo "_law_table", .glo "_law_rims", .glo "_law_parity", .glo "_law_arf", .glo "_law_parted", .glo "_law_kind", .glo "_law_own", .glo "_law_drawn", .glo "_law_kept", .glo "law", .glo "Book", .glo "Kind", .glo "Sheet", .glo "CombedError", .free "len", .free "int", .free "list", .free "range", .free "abs", .free "isinstance", .free "bool", .free "str", .free "dict", .free "tuple", .free "all", .free "any", .free "sum", .free "sorted", .free "enumerate", .free "zip", .int "MOST_ARMS" 12, .int "MOST_MODULUS" 24, .int "LONGEST" 3, .str "LETTERS_names" "abcdefghijklmnopqrstuvwxyz", .str "LETTERS_forms" "abcdefghijklmnopqrstuvwxyz", .str "DIGITS_lines" "0123456789", .cls "Sheet", .noat "Sheet" "book", .noat "Sheet" "word", .noat "Sheet" "_feet", .noat "Sheet" "bands", .noat "Sheet" "_told", .cls "Book", .noat "Book" "arms", .noat "Book" "modulus", .cls "Kind", .noat "Kind" "book", .noat "Kind" "handles", .noat "Kind" "rims", .noat "Kind" "measure", .noat "Kind" "share", .noat "Kind" "balance", .mkr "Book", .mkr "Sheet", .meth "Sheet" "numbers", .mkr "Kind"]
def ex : List (Str × String) := []
abbrev st_NotOne_init : Stmt := inClass (top 5) 0
def er_NotOne : ErD := { cn := "NotOne", B := "ValueError", newId := "ValueError.__new__", i := "ValueError.__init__", bmB := [.type "ValueError", .type "Exception", .type "BaseException", .type "object"], qual := "NotOne.__init__", msg := "no sheet has these counts", file := "/claim/cut.py", params := defArgs st_NotOne_init, nms := (defScope st_NotOne_init).names, z := ⟨⟨22, 8, 22, 13⟩, ⟨22, 8, 22, 15⟩, ⟨22, 8, 22, 24⟩, ⟨22, 25, 22, 52⟩, ⟨22, 8, 22, 53⟩, ⟨22, 8, 22, 53⟩, 0⟩, fs := [("count", ⟨⟨23, 8, 23, 12⟩, ⟨23, 8, 23, 18⟩, ⟨23, 21, 23, 26⟩, ⟨23, 8, 23, 26⟩⟩)] }
theorem su_NotOne : SupS1 er_NotOne.qual er_NotOne.msg "count" er_NotOne.params er_NotOne.nms er_NotOne.z (er_NotOne.fs.getD 0 ("", ⟨⟨0, 0, 0, 0⟩, ⟨0, 0, 0, 0⟩, ⟨0, 0, 0, 0⟩, ⟨0, 0, 0, 0⟩⟩)).2 where
  bind := fun _ _ _ _ _ _ _ _ _ => .of_eq (by first | rfl | with_unfolding_all rfl)
  hp := ⟨_, rfl, rfl⟩
  hcl := by decide
  hks := by decide +kernel
  hkc := by decide +kernel
  hka := by decide +kernel
  hkf := by decide +kernel
  hf1 := by decide +kernel
  hf2 := by decide +kernel
  hpos := by decide +kernel
def er : List ErD := [er_NotOne]
def xl (K : PySem.W.Frag) : List Bool := [decide (PySem.W.kitOne K (.ref (He.ga K "NotOne")) (.ref (He.ga K "CombedError")) = some true), decide (PySem.W.exmOne K (.ref (He.ga K "NotOne")) (.ref (He.ga K "NotOne")) = some true), decide (PySem.W.findIn K (.ref (He.ga K "Kind")) "__class__" = some (some (.builtin "object.__class__"))), decide (PySem.W.specialIn K (.builtin "object.__class__") "__get__" = some (some (.builtin "getset_descriptor.__get__"))), decide (PySem.W.takesIn K (.builtin "object.__class__") = some true), decide (PySem.W.mroIn K (He.ga K "Kind") (.type "object") = some true), decide (PySem.W.kitOne K (.ref (He.ga K "Kind")) (.ref (He.ga K "Kind")) = some true), decide (PySem.W.findIn K (.ref (He.ga K "Book")) "__class__" = some (some (.builtin "object.__class__"))), decide (PySem.W.specialIn K (.builtin "object.__class__") "__get__" = some (some (.builtin "getset_descriptor.__get__"))), decide (PySem.W.takesIn K (.builtin "object.__class__") = some true), decide (PySem.W.mroIn K (He.ga K "Book") (.type "object") = some true), decide (PySem.W.kitOne K (.ref (He.ga K "Book")) (.ref (He.ga K "Book")) = some true), decide (PySem.W.findIn K (.ref (He.ga K "Sheet")) "__class__" = some (some (.builtin "object.__class__"))), decide (PySem.W.specialIn K (.builtin "object.__class__") "__get__" = some (some (.builtin "getset_descriptor.__get__"))), decide (PySem.W.takesIn K (.builtin "object.__class__") = some true), decide (PySem.W.mroIn K (He.ga K "Sheet") (.type "object") = some true), decide (PySem.W.kitOne K (.ref (He.ga K "Sheet")) (.ref (He.ga K "Sheet")) = some true)]
theorem xl_get {l : List Bool} (h : l.all id = true) (i : Nat) {b : Bool} (e : l[i]? = some b) : b = true := List.all_eq_true.mp h b (List.mem_of_getElem? e)
def xb (K : PySem.W.Frag) : Bool := (xl K).all id
abbrev R : PySem.W.OpenRow := PySem.W.OpenLaw.row PySem.Challenge.rw_combed_k30_whole_exactly_some_sheets_cou
abbrev hk : PySem.W.Hook := hookZ 4 fa fn ex er xb
def ob (s : PySem.W.SharedT) : AlZ := obsZG 4 fa fn ex er xb (HandSHeadRun.getT s)
theorem ob_eq (s : PySem.W.SharedT) : ob s = hk.obs s.abs := obsZG_eq (HandSHeadRun.getT_eq s)
def names : List PySem.Str := (["_wall", "CombedError", "BadSheet", "BadKind", "NotOne", "BadNumber", "TooMany", "NoSuch", "DIGITS_lines", "MOST_DIGITS", "MOST_CHARACTERS", "Lines", "is_number", "number_of", "told_number", "MOST_ARMS", "MOST_MODULUS", "Book", "reduced", "divides", "has_balance", "some_odd_rim", "rims_stand", "due_sum", "sum_stands", "measure_stands", "share_stands", "balance_stands", "broken_count", "LETTERS_names"] : List PySem.Str) ++ (["LONGEST", "is_name", "plain_name", "MOST_BANDS", "MOST_NUMBER", "sheet_parts", "_read_book", "_read_word", "_read_number", "is_word", "Sheet", "_feet_of", "TEXT_LIMIT", "ARMS_LIMIT", "MODULUS_LIMIT", "HANDLES_LIMIT", "RIMS_LIMIT", "RIM_LIMIT", "DIGITS_kindtexts", "number_in", "balance_word", "balance_in", "KindLines", "read_book_numbers", "read_rims", "read_counts", "kind_text", "ill_formed", "Kind", "LETTERS_forms"] : List PySem.Str) ++ (["band_name", "handle_shift", "form_of", "_law_bag", "_law_draw", "_law_of", "_law_like", "_law_red", "_law_divisor", "_law_divisors", "_law_arms", "_law_mates", "_law_bands", "_law_table", "_law_rims", "_law_parity", "_law_arf", "_law_parted", "_law_kind", "_law_own", "_law_broken", "_law_right", "_law_is_kind", "_law_drawn", "_law_kept"] : List PySem.Str)
theorem run (w : World) : HandSHeadRun.RunEq R (PySem.W.view R.prog [96]) hk ob 12000 names w := by
  intro os
  kernel_rfl
end Cb
section
open PySem PySem.W PySem.Calls PyProof.Rows HandSHeadRun
theorem Cb.ws1 : sreFenced Cb.R.prog.main = true := by kernel_rfl
theorem Cb.ws2 : ((moduleNames Cb.R.prog.main.body).isEmpty || lookedIntoSs (moduleNames Cb.R.prog.main.body) Cb.R.prog.main.body) = true := by kernel_rfl
theorem Cb.ws3 : namesResolve Cb.R.prog = true := by kernel_rfl
theorem Cb.ws4 : Cb.R.prog.boundNames.all (fun n => !worldNames.contains n) = true := by kernel_rfl
theorem Cb.ws5 : noRoadLSs { strict := !(importedModules Cb.R.prog.main.body).all cThrough.contains, foot := none, bare := (["vars", "dir", "locals"] : List Str).filter (readsOut Cb.R.prog Cb.R.prog.main.body) } Cb.R.prog.main.body = true := by kernel_rfl
theorem Cb.ws6 : (namesMeet Cb.R.prog Cb.R.prog.main.body fun _ n => attrL n) = true := by kernel_rfl
theorem Cb.ws : Cb.R.wellSaid = true := by
  have h : looksOpen Cb.R.prog = true := by
    unfold looksOpen
    exact Bool.and_eq_true_iff.mpr ⟨Bool.and_eq_true_iff.mpr ⟨Bool.and_eq_true_iff.mpr ⟨Bool.and_eq_true_iff.mpr ⟨Bool.and_eq_true_iff.mpr ⟨Cb.ws1, Cb.ws2⟩, Cb.ws3⟩, Cb.ws4⟩, Cb.ws5⟩, Cb.ws6⟩
  unfold OpenRow.wellSaid OpenRow.partSaid
  rw [h]
  decide +kernel
end
namespace Cb
open PySem PySem.Spec PyProof.Rows L2
/-! ### small dicts with texts as keys -/
section
variable {α : Type}
def aGet (l : List (Str × α)) (k : Str) : Option α := (l.find? fun p => decide (p.1 = k)).map (·.2)
def aPut (l : List (Str × α)) (k : Str) (v : α) : List (Str × α) := if l.any (fun p => decide (p.1 = k)) then l.map (fun p => if p.1 = k then (p.1, v) else p) else l ++ [(k, v)]
def dD (f : α → V) (l : List (Str × α)) : List (Key × V) := l.map fun p => (.inr p.1, f p.2)
theorem dD_len (f : α → V) (l : List (Str × α)) : (dD f l).length = l.length := List.length_map _
theorem inr_eq {a b : Str} : (decide ((Sum.inr a : Key) = Sum.inr b)) = decide (a = b) := by
  by_cases e : a = b
  · subst e; simp
  · rw [decide_eq_false e, decide_eq_false (fun q => e (Sum.inr.inj q))]
theorem valV_dD (f : α → V) (l : List (Str × α)) (k : Str) : valV (dD f l) (.inr k) = (aGet l k).map f := by
  induction l with
  | nil => rfl
  | cons p l ih =>
    by_cases e : p.1 = k
    · have e1 : valV (dD f (p :: l)) (.inr k) = some (f p.2) := valV_pos (congrArg Sum.inr e)
      rw [e1]
      unfold aGet
      rw [List.find?_cons_of_pos (by simp [e])]
      rfl
    · have e1 : valV (dD f (p :: l)) (.inr k) = valV (dD f l) (.inr k) := valV_neg (fun q => e (Sum.inr.inj q))
      rw [e1, ih]
      unfold aGet
      rw [List.find?_cons_of_neg (by simp [e])]
theorem any_dD (f : α → V) (l : List (Str × α)) (k : Str) : (dD f l).any (fun kv => decide (kv.1 = Sum.inr k)) = l.any fun p => decide (p.1 = k) := by
  unfold dD
  rw [List.any_map]
  exact congrArg (fun g => l.any g) (funext fun p => inr_eq)
theorem putK_dD (f : α → V) (l : List (Str × α)) (k : Str) (v : α) : putK (dD f l) (.inr k) (f v) = dD f (aPut l k v) := by
  unfold putK aPut
  rw [any_dD]
  split
  · unfold dD
    rw [List.map_map, List.map_map]
    refine List.map_congr_left fun p _ => ?_
    show (if (Sum.inr p.1 : Key) = Sum.inr k then ((Sum.inr p.1 : Key), f v) else (Sum.inr p.1, f p.2)) = (Sum.inr (if p.1 = k then (p.1, v) else p).1, f (if p.1 = k then (p.1, v) else p).2)
    by_cases e : p.1 = k
    · rw [if_pos e, if_pos (by rw [e])]
    · rw [if_neg e, if_neg (fun q => e (Sum.inr.inj q))]
  · unfold dD
    rw [List.map_append]
    rfl
theorem aGet_nil (k : Str) : aGet ([] : List (Str × α)) k = none := rfl
theorem aGet_cons (p : Str × α) (l : List (Str × α)) (k : Str) : aGet (p :: l) k = if p.1 = k then some p.2 else aGet l k := by
  unfold aGet
  by_cases e : p.1 = k
  · rw [if_pos e, List.find?_cons_of_pos (by simp [e])]; rfl
  · rw [if_neg e, List.find?_cons_of_neg (by simp [e])]
theorem aGet_isSome {l : List (Str × α)} {k : Str} : (aGet l k).isSome = true ↔ k ∈ l.map (·.1) := by
  induction l with
  | nil => simp [aGet_nil]
  | cons p l ih =>
    rw [aGet_cons]
    by_cases e : p.1 = k
    · rw [if_pos e]; simp [e]
    · rw [if_neg e, ih]; simp [Ne.symm e]
theorem aGet_of_mem {l : List (Str × α)} {k : Str} (h : k ∈ l.map (·.1)) : ∃ v, aGet l k = some v ∧ (k, v) ∈ l := by
  induction l with
  | nil => simp at h
  | cons p l ih =>
    rw [aGet_cons]
    by_cases e : p.1 = k
    · exact ⟨p.2, by rw [if_pos e], by rw [← e]; exact List.mem_cons_self ..⟩
    · rw [if_neg e]
      have h' : k ∈ l.map (·.1) := by simpa [Ne.symm e] using h
      obtain ⟨v, h1, h2⟩ := ih h'
      exact ⟨v, h1, List.mem_cons_of_mem _ h2⟩
theorem aGet_mem {l : List (Str × α)} {k : Str} {v : α} (h : aGet l k = some v) : (k, v) ∈ l := by
  obtain ⟨w, h1, h2⟩ := aGet_of_mem (aGet_isSome.mp (by rw [h]; rfl))
  rw [h] at h1
  rw [Option.some.inj h1]
  exact h2
theorem aGet_none {l : List (Str × α)} {k : Str} (h : k ∉ l.map (·.1)) : aGet l k = none := by
  cases e : aGet l k with
  | none => rfl
  | some v => exact absurd (aGet_isSome.mp (by rw [e]; rfl)) h
theorem any_keys {l : List (Str × α)} {k : Str} : (l.any fun p => decide (p.1 = k)) = true ↔ k ∈ l.map (·.1) := by
  simp [List.any_eq_true]
theorem keys_put (l : List (Str × α)) (k : Str) (v : α) : (aPut l k v).map (·.1) = if k ∈ l.map (·.1) then l.map (·.1) else l.map (·.1) ++ [k] := by
  unfold aPut
  by_cases h : k ∈ l.map (·.1)
  · rw [if_pos h, if_pos (any_keys.mpr h), List.map_map]
    refine List.map_congr_left fun p _ => ?_
    show (if p.1 = k then (p.1, v) else p).1 = p.1
    split <;> rfl
  · rw [if_neg h, if_neg (fun q => h (any_keys.mp q)), List.map_append]
    rfl
theorem aGet_app {l m : List (Str × α)} {k : Str} : aGet (l ++ m) k = if k ∈ l.map (·.1) then aGet l k else aGet m k := by
  induction l with
  | nil => rfl
  | cons p l ih =>
    rw [List.cons_append, aGet_cons, aGet_cons, ih]
    by_cases e : p.1 = k
    · rw [if_pos e, if_pos (by simp [e]), if_pos e]
    · rw [if_neg e, if_neg e]
      by_cases h : k ∈ l.map (·.1)
      · rw [if_pos h, if_pos (by rw [List.map_cons]; exact List.mem_cons_of_mem _ h)]
      · rw [if_neg h, if_neg (by rw [List.map_cons, List.mem_cons]; rintro (q | q); exact e q.symm; exact h q)]
theorem aGet_map (l : List (Str × α)) (k j : Str) (v : α) : aGet (l.map fun p => if p.1 = k then (p.1, v) else p) j = if j = k then (if k ∈ l.map (·.1) then some v else none) else aGet l j := by
  induction l with
  | nil =>
    by_cases e : j = k
    · rw [if_pos e]; rfl
    · rw [if_neg e]; rfl
  | cons p l ih =>
    rw [List.map_cons, aGet_cons, ih, aGet_cons]
    by_cases e : p.1 = k
    · rw [if_pos e]
      show (if p.1 = j then some v else _) = _
      by_cases e2 : j = k
      · rw [if_pos (e.trans e2.symm), if_pos e2, if_pos (by rw [List.map_cons, e]; exact List.mem_cons_self ..)]
      · rw [if_neg (fun q => e2 (q.symm.trans e)), if_neg e2, if_neg e2, if_neg (fun q => e2 (q.symm.trans e))]
    · rw [if_neg e]
      by_cases e2 : j = k
      · rw [if_pos e2, if_neg (fun q => e (q.trans e2)), if_pos e2]
        by_cases h : k ∈ l.map (·.1)
        · rw [if_pos h, if_pos (by rw [List.map_cons]; exact List.mem_cons_of_mem _ h)]
        · rw [if_neg h, if_neg (by rw [List.map_cons, List.mem_cons]; rintro (q | q); exact e q.symm; exact h q)]
      · rw [if_neg e2, if_neg e2]
theorem aGet_put (l : List (Str × α)) (k j : Str) (v : α) : aGet (aPut l k v) j = if j = k then some v else aGet l j := by
  unfold aPut
  by_cases h : k ∈ l.map (·.1)
  · rw [if_pos (any_keys.mpr h), aGet_map, if_pos h]
  · rw [if_neg (fun q => h (any_keys.mp q)), aGet_app]
    by_cases e : j = k
    · rw [if_pos e, if_neg (by rw [e]; exact h), aGet_cons, if_pos e.symm]
    · rw [if_neg e]
      by_cases h2 : j ∈ l.map (·.1)
      · rw [if_pos h2]
      · rw [if_neg h2, aGet_cons, if_neg (Ne.symm e), aGet_nil, aGet_none h2]
theorem nodup_put {l : List (Str × α)} {k : Str} {v : α} (h : (l.map (·.1)).Nodup) : ((aPut l k v).map (·.1)).Nodup := by
  rw [keys_put]
  split
  · exact h
  · rename_i hk
    rw [List.nodup_append]
    refine ⟨h, by simp, fun a ha b hb => ?_⟩
    rw [List.mem_singleton.mp hb]
    intro e
    exact hk (e ▸ ha)
theorem aGet_nodup {l : List (Str × α)} (h : (l.map (·.1)).Nodup) {p : Str × α} (hp : p ∈ l) : aGet l p.1 = some p.2 := by
  induction l with
  | nil => simp at hp
  | cons q l ih =>
    rw [List.map_cons, List.nodup_cons] at h
    rw [aGet_cons]
    rcases List.mem_cons.mp hp with e | hp
    · subst e; rw [if_pos rfl]
    · rw [if_neg (fun e => h.1 (by rw [e]; exact List.mem_map_of_mem hp)), ih h.2 hp]
theorem mem_put {l : List (Str × α)} {k : Str} {v : α} {p : Str × α} (hp : p ∈ aPut l k v) : p = (k, v) ∨ (p ∈ l ∧ p.1 ≠ k) := by
  unfold aPut at hp
  by_cases h : k ∈ l.map (·.1)
  · rw [if_pos (any_keys.mpr h)] at hp
    obtain ⟨q, hq, e⟩ := List.mem_map.mp hp
    by_cases eq : q.1 = k
    · rw [if_pos eq] at e; left; rw [← e, eq]
    · rw [if_neg eq] at e; right; rw [← e]; exact ⟨hq, eq⟩
  · rw [if_neg (fun q => h (any_keys.mp q))] at hp
    rcases List.mem_append.mp hp with q | q
    · exact .inr ⟨q, fun e => h (e ▸ List.mem_map_of_mem q)⟩
    · exact .inl (List.mem_singleton.mp q)
theorem put_mem (l : List (Str × α)) (k : Str) (v : α) : (k, v) ∈ aPut l k v := aGet_mem (by rw [aGet_put, if_pos rfl])
theorem put_old {l : List (Str × α)} {k : Str} {v : α} {p : Str × α} (hp : p ∈ l) (h : p.1 ≠ k) : p ∈ aPut l k v := by
  unfold aPut
  split
  · exact List.mem_map.mpr ⟨p, hp, by rw [if_neg h]⟩
  · exact List.mem_append_left _ hp
theorem len_put (l : List (Str × α)) (k : Str) (v : α) : (aPut l k v).length ≤ l.length + 1 := by
  unfold aPut
  split
  · rw [List.length_map]; omega
  · rw [List.length_append]; simp
theorem len_put_in {l : List (Str × α)} {k : Str} (v : α) (h : k ∈ l.map (·.1)) : (aPut l k v).length = l.length := by
  unfold aPut
  rw [if_pos (any_keys.mpr h), List.length_map]
end
/-! ### names -/
/-- a name: a letter, at most two digits behind it -/
def IsName (s : Str) : Prop := ∃ (c : Nat) (ds : List Nat), s = SX.S (c :: ds) ∧ 97 ≤ c ∧ c ≤ 122 ∧ ds.length ≤ 2 ∧ ∀ d ∈ ds, 48 ≤ d ∧ d ≤ 57
/-- a word of feet: each name stands exactly twice -/
structure IsWord (feet : List Str) : Prop where
  two : ∀ n ∈ feet, feet.count n = 2
  nm : ∀ n ∈ feet, IsName n
/-- the bands, in the order of their first feet -/
def bandsOf (feet : List Str) : List Str := feet.foldl (fun acc n => if n ∈ acc then acc else acc ++ [n]) []
def redN (mod : Nat) (n : Int) : Int := if mod = 0 then n else n % (mod : Int)
/-- what the sheet holds of its numbers -/
def toldOf (mod : Nat) (bands : List Str) (nums : List (Str × Int)) : List (Str × Int) := bands.map fun b => (b, redN mod ((aGet nums b).getD 0))
def cntM (l : List Str) : List (Str × Int) := l.foldl (fun M n => aPut M n ((aGet M n).getD 0 + 1)) []
theorem cntM_snoc (l : List Str) (x : Str) : cntM (l ++ [x]) = aPut (cntM l) x ((aGet (cntM l) x).getD 0 + 1) := by
  unfold cntM
  rw [List.foldl_append]
  rfl
theorem snoc_ind {α : Type} {P : List α → Prop} (h0 : P []) (h1 : ∀ l x, P l → P (l ++ [x])) (l : List α) : P l := by
  have : ∀ m : List α, P m.reverse := fun m => by
    induction m with
    | nil => exact h0
    | cons x m ih =>
      rw [List.reverse_cons]
      exact h1 _ _ ih
  have h := this l.reverse
  rwa [List.reverse_reverse] at h
theorem cntM_get (l : List Str) (n : Str) : aGet (cntM l) n = if n ∈ l then some (l.count n : Int) else none := by
  induction l using snoc_ind with
  | h0 => rfl
  | h1 l x ih =>
    rw [cntM_snoc, aGet_put]
    by_cases e : n = x
    · subst e
      rw [if_pos rfl, if_pos (by simp), ih, List.count_append]
      by_cases h : n ∈ l
      · rw [if_pos h]
        simp
      · rw [if_neg h, List.count_eq_zero_of_not_mem h]
        simp
    · rw [if_neg e, ih, List.count_append]
      by_cases h : n ∈ l
      · rw [if_pos h, if_pos (List.mem_append_left _ h)]
        have : List.count n [x] = 0 := List.count_eq_zero_of_not_mem (by simpa using e)
        rw [this]
        simp
      · rw [if_neg h, if_neg (by simp [h, e])]
theorem cntM_len (l : List Str) : (cntM l).length ≤ l.length := by
  induction l using snoc_ind with
  | h0 => exact Nat.le_refl _
  | h1 l x ih =>
    rw [cntM_snoc, List.length_append, List.length_singleton]
    exact Nat.le_trans (len_put _ _ _) (by omega)
theorem bandsOf_snoc (l : List Str) (x : Str) : bandsOf (l ++ [x]) = if x ∈ bandsOf l then bandsOf l else bandsOf l ++ [x] := by
  unfold bandsOf
  rw [List.foldl_append]
  rfl
theorem mem_bandsOf (l : List Str) (n : Str) : n ∈ bandsOf l ↔ n ∈ l := by
  induction l using snoc_ind with
  | h0 => simp [bandsOf]
  | h1 l x ih =>
    rw [bandsOf_snoc]
    split
    · rename_i h
      rw [ih, List.mem_append, List.mem_singleton]
      constructor
      · exact Or.inl
      · rintro (q | q)
        · exact q
        · rw [q]
          rw [← q] at h ⊢
          exact ih.mp h
    · rw [List.mem_append, List.mem_append, ih]
theorem nodup_bandsOf (l : List Str) : (bandsOf l).Nodup := by
  induction l using snoc_ind with
  | h0 => exact List.nodup_nil
  | h1 l x ih =>
    rw [bandsOf_snoc]
    split
    · exact ih
    · rename_i h
      rw [List.nodup_append]
      refine ⟨ih, by simp, fun a ha b hb => ?_⟩
      rw [List.mem_singleton.mp hb]
      intro e
      exact h (e ▸ ha)
theorem bandsOf_len (l : List Str) : (bandsOf l).length ≤ l.length := by
  induction l using snoc_ind with
  | h0 => exact Nat.le_refl _
  | h1 l x ih =>
    rw [bandsOf_snoc, List.length_append, List.length_singleton]
    split
    · omega
    · rw [List.length_append, List.length_singleton]; omega
/-- the places of a band's two feet among these -/
def PlOf (l : List Str) (n : Str) (i j : Nat) : Prop := l[i]? = some n ∧ l[j]? = some n ∧ ∀ k, l[k]? = some n → i ≤ k ∧ k ≤ j
theorem PlOf.snoc {l : List Str} {n x : Str} {i j : Nat} (h : PlOf l n i j) (e : n ≠ x) : PlOf (l ++ [x]) n i j := by
  obtain ⟨h1, h2, h3⟩ := h
  have a1 := (List.getElem?_eq_some_iff.mp h1).1
  have a2 := (List.getElem?_eq_some_iff.mp h2).1
  refine ⟨by rw [List.getElem?_append_left a1]; exact h1, by rw [List.getElem?_append_left a2]; exact h2, fun k hk => ?_⟩
  by_cases hl : k < l.length
  · rw [List.getElem?_append_left hl] at hk
    exact h3 k hk
  · rw [List.getElem?_append_right (by omega)] at hk
    have := List.mem_singleton.mp (List.mem_of_getElem? hk)
    exact absurd this e
theorem PlOf.new {l : List Str} {x : Str} (h : x ∉ l) : PlOf (l ++ [x]) x l.length l.length := by
  have e : (l ++ [x])[l.length]? = some x := by rw [List.getElem?_append_right (Nat.le_refl _), Nat.sub_self]; rfl
  refine ⟨e, e, fun k hk => ?_⟩
  by_cases hl : k < l.length
  · rw [List.getElem?_append_left hl] at hk
    exact absurd (List.mem_of_getElem? hk) h
  · have := (List.getElem?_eq_some_iff.mp hk).1
    rw [List.length_append, List.length_singleton] at this
    exact ⟨by omega, by omega⟩
theorem PlOf.again {l : List Str} {x : Str} {i j : Nat} (h : PlOf l x i j) : PlOf (l ++ [x]) x i l.length := by
  obtain ⟨h1, h2, h3⟩ := h
  have a1 := (List.getElem?_eq_some_iff.mp h1).1
  refine ⟨by rw [List.getElem?_append_left a1]; exact h1, by rw [List.getElem?_append_right (Nat.le_refl _), Nat.sub_self]; rfl, fun k hk => ?_⟩
  by_cases hl : k < l.length
  · rw [List.getElem?_append_left hl] at hk
    exact ⟨(h3 k hk).1, by omega⟩
  · have := (List.getElem?_eq_some_iff.mp hk).1
    rw [List.length_append, List.length_singleton] at this
    exact ⟨by omega, by omega⟩
def gcdZ (ns : List Int) : Nat := ns.foldl (fun g z => Nat.gcd g z.natAbs) 0
theorem gcdZ_take {ns : List Int} {i : Nat} {z : Int} (h : ns[i]? = some z) : gcdZ (ns.take (i + 1)) = Nat.gcd (gcdZ (ns.take i)) z.natAbs := by
  unfold gcdZ
  have e : ns.take (i + 1) = ns.take i ++ [z] := by
    rw [List.take_succ, h]
    rfl
  rw [e, List.foldl_append]
  rfl
theorem dvd_foldl_gcd (d : Nat) : ∀ (ns : List Int) (g : Nat), d ∣ ns.foldl (fun g z => Nat.gcd g z.natAbs) g ↔ d ∣ g ∧ ∀ z ∈ ns, (d : Int) ∣ z
  | [], g => by simp
  | z :: ns, g => by
    rw [List.foldl_cons, dvd_foldl_gcd d ns, Nat.dvd_gcd_iff]
    constructor
    · rintro ⟨⟨h1, h2⟩, h3⟩
      exact ⟨h1, fun y hy => (List.mem_cons.mp hy).elim (fun e => by rw [e]; exact Int.ofNat_dvd_left.mpr h2) (h3 y)⟩
    · rintro ⟨h1, h2⟩
      exact ⟨⟨h1, Int.ofNat_dvd_left.mp (h2 z (List.mem_cons_self ..))⟩, fun y hy => h2 y (List.mem_cons_of_mem _ hy)⟩
theorem dvd_gcdZ (d : Nat) (ns : List Int) : d ∣ gcdZ ns ↔ ∀ z ∈ ns, (d : Int) ∣ z := by
  unfold gcdZ
  rw [dvd_foldl_gcd]
  simp
theorem gcdZ_ext {ns ms : List Int} (h : ∀ d : Nat, (∀ z ∈ ns, (d : Int) ∣ z) ↔ ∀ z ∈ ms, (d : Int) ∣ z) : gcdZ ns = gcdZ ms :=
  Nat.dvd_antisymm ((dvd_gcdZ _ _).mpr ((h _).mp ((dvd_gcdZ _ _).mp (Nat.dvd_refl _)))) ((dvd_gcdZ _ _).mpr ((h _).mpr ((dvd_gcdZ _ _).mp (Nat.dvd_refl _))))
theorem str_at {xs : List Str} {i : Nat} {y : V} (h : (xs.map V.str)[i]? = some y) : ∃ z, y = V.str z ∧ xs[i]? = some z := by
  rw [List.getElem?_map] at h
  cases e : xs[i]? with
  | none => rw [e] at h; cases h
  | some z => rw [e] at h; exact ⟨z, (Option.some.inj h).symm, rfl⟩
theorem take_snoc {α : Type} {xs : List α} {i : Nat} {x : α} (h : xs[i]? = some x) : xs.take (i + 1) = xs.take i ++ [x] := by
  rw [List.take_succ, h]
  rfl
theorem nodup_inj {α : Type} {l : List α} (h : l.Nodup) {i j : Nat} {x : α} (hi : l[i]? = some x) (hj : l[j]? = some x) : i = j := by
  induction l generalizing i j with
  | nil => simp at hi
  | cons a l ih =>
    rw [List.nodup_cons] at h
    match i, j with
    | 0, 0 => rfl
    | 0, j + 1 =>
      have e1 : a = x := by simpa using hi
      have e2 : l[j]? = some x := by simpa using hj
      exact absurd (by rw [e1]; exact List.mem_of_getElem? e2) h.1
    | i + 1, 0 =>
      have e1 : a = x := by simpa using hj
      have e2 : l[i]? = some x := by simpa using hi
      exact absurd (by rw [e1]; exact List.mem_of_getElem? e2) h.1
    | i + 1, j + 1 =>
      have e1 : l[i]? = some x := by simpa using hi
      have e2 : l[j]? = some x := by simpa using hj
      rw [ih h.2 e1 e2]
def shareZ (arm mod : Nat) (told : List (Str × Int)) : Nat := gcdZ ((arm : Int) :: (mod : Int) :: told.map (·.2))
/-! ### the law's own sheets -/
structure Own where
  arm : Nat
  mod : Nat
  feet : List Str
  nums : List (Str × Int)
structure OwnAt (H : Hp) (o fa na : Addr) (S : Own) : Prop where
  o_ : H o = some (.lst [.int S.arm, .int S.mod, .ref fa, .ref na])
  f_ : H fa = some (.lst (S.feet.map V.str))
  n_ : H na = some (.dK (dD V.int S.nums))
theorem OwnAt.same {H H' : Hp} {o fa na : Addr} {S : Own} (h : OwnAt H o fa na S) (s : Same H H') : OwnAt H' o fa na S := ⟨s _ _ h.o_, s _ _ h.f_, s _ _ h.n_⟩
theorem OwnAt.of {H : Hp} {o fa na : Addr} {S : Own} (h : OwnAt H o fa na S) : o ≠ fa ∧ o ≠ na ∧ fa ≠ na := by
  refine ⟨ne_of_some h.o_ h.f_ ?_, ne_of_some h.o_ h.n_ (by intro z; cases z), ne_of_some h.f_ h.n_ (by intro z; cases z)⟩
  intro z
  injection z with z
  cases e : S.feet with
  | nil => rw [e] at z; cases z
  | cons a l => rw [e] at z; cases z
structure Own.Ok (S : Own) : Prop where
  a1 : 1 ≤ S.arm
  a2 : S.arm ≤ 12
  m1 : S.mod ≠ 1
  m2 : S.mod ≤ 24
  wd : IsWord S.feet
  ln : S.feet.length ≤ 400
  nd : (S.nums.map (·.1)).Nodup
  kf : ∀ p ∈ S.nums, p.1 ∈ S.feet
  fk : ∀ n ∈ S.feet, n ∈ S.nums.map (·.1)
  bd : ∀ p ∈ S.nums, p.2.natAbs ≤ 1000
  nl : S.nums.length ≤ 400
/-- the first place -/
def ix (l : List Str) (x : Str) : Nat := l.findIdx fun y => decide (y = x)
theorem ix_spec {l : List Str} {x : Str} (h : x ∈ l) : l[ix l x]? = some x ∧ ∀ m, m < ix l x → l[m]? ≠ some x := by
  have hlt : ix l x < l.length := List.findIdx_lt_length_of_exists ⟨x, h, by simp⟩
  refine ⟨?_, fun m hm e => ?_⟩
  · rw [List.getElem?_eq_getElem hlt]
    have := List.findIdx_getElem (xs := l) (p := fun y => decide (y = x)) (w := hlt)
    exact congrArg some (of_decide_eq_true this)
  · have h2 := List.not_of_lt_findIdx (xs := l) (p := fun y => decide (y = x)) hm
    have hml : m < l.length := Nat.lt_trans hm hlt
    rw [List.getElem?_eq_getElem hml] at e
    have e2 := Option.some.inj e
    exact absurd (by simpa using h2) (by simpa using e2)
/-- the other place of y beside a -/
def farOf (l : List Str) (y : Str) (a : Nat) : Nat := if ix l y = a then a + 1 + ix (l.drop (a + 1)) y else ix l y
def nb (p : Nat) (plus : Bool) : Nat := if plus = true then p + 1 else p - 1
def sgnB (c : Bool) : Int := if c = true then -1 else 1
def sl_left (S : Own) (p : Nat) : List Str := S.feet.take p ++ S.feet.drop (p + 1)
def sl_at (p : Nat) (plus : Bool) : Nat := if plus = true then p else p - 1
def sl_spot (S : Own) (p : Nat) (plus : Bool) (y : Str) : Nat := if plus = true then farOf (sl_left S p) y (sl_at p plus) + 1 else farOf (sl_left S p) y (sl_at p plus)
def ins (l : List Str) (k : Nat) (x : Str) : List Str := l.take k ++ x :: l.drop k
def sl_feet (S : Own) (p : Nat) (plus : Bool) (x y : Str) : List Str := ins (sl_left S p) (sl_spot S p plus y) x
def sl_before (S : Own) (p : Nat) (x : Str) : Int := sgnB (decide (ix S.feet x < p))
def sl_along (S : Own) (p : Nat) (plus : Bool) (y : Str) : Int := sgnB (decide (ix S.feet y = nb p plus))
def sl_behind (S : Own) (p : Nat) (plus : Bool) (x y : Str) : Int := sgnB (decide (ix (sl_feet S p plus x y) x < sl_spot S p plus y))
def sgS (plus : Bool) : Int := if plus = true then 1 else -1
def sl_worth (S : Own) (p : Nat) (plus : Bool) (x y : Str) (nx ny : Int) : Int :=
  -(sl_before S p x) * nx - sl_along S p plus y * ny + (S.arm : Int) * ((sl_before S p x + sgS plus + sl_along S p plus y - sl_behind S p plus x y) / 2)
/-- a slide of the band at p along its neighbour -/
def slideS (S : Own) (p : Nat) (plus : Bool) (x y : Str) (nx ny : Int) : Own :=
  ⟨S.arm, S.mod, sl_feet S p plus x y, aPut S.nums x (redN S.mod (-(sl_behind S p plus x y) * sl_worth S p plus x y nx ny))⟩
structure Slide (S S' : Own) : Prop where
  ex : ∃ (p : Nat) (plus : Bool) (x y : Str) (nx ny : Int), S.feet[p]? = some x ∧ S.feet[nb p plus]? = some y ∧ (plus = false → 1 ≤ p) ∧ x ≠ y ∧ aGet S.nums x = some nx ∧ aGet S.nums y = some ny ∧ S' = slideS S p plus x y nx ny
def turnS (S : Own) (n : Str) (z : Int) (fs : List Str) : Own := ⟨S.arm, S.mod, fs, aPut S.nums n (redN S.mod (2 * (S.arm : Int) - z))⟩
inductive Step (S S' : Own) : Prop where
  | slide (h : Slide S S')
  | turn (n : Str) (z : Int) (r : List Str) (e : S.feet = n :: r) (g : aGet S.nums n = some z) (h : S' = turnS S n z (r ++ [n]))
  | unturn (n : Str) (z : Int) (r : List Str) (e : S.feet = r ++ [n]) (g : aGet S.nums n = some z) (h : S' = turnS S n z (n :: r))
theorem dvd_redN {d : Nat} {mod : Nat} {n : Int} (h : (d : Int) ∣ (mod : Int)) : (d : Int) ∣ redN mod n ↔ (d : Int) ∣ n := by
  unfold redN
  split
  · exact Iff.rfl
  · rw [Int.dvd_iff_emod_eq_zero, Int.dvd_iff_emod_eq_zero, Int.emod_emod_of_dvd _ h]
theorem IsWord.perm {l m : List Str} (h : IsWord l) (p : l.Perm m) : IsWord m :=
  ⟨fun n hn => by rw [← p.count_eq]; exact h.two n (p.mem_iff.mpr hn), fun n hn => h.nm n (p.mem_iff.mpr hn)⟩
theorem sl_perm {S : Own} {p : Nat} {plus : Bool} {x y : Str} (h : S.feet[p]? = some x) : S.feet.Perm (sl_feet S p plus x y) := by
  have hp := List.getElem?_eq_some_iff.mp h
  have e1 : S.feet = S.feet.take p ++ x :: S.feet.drop (p + 1) := by
    have := List.take_append_drop p S.feet
    rw [List.drop_eq_getElem_cons hp.1, hp.2] at this
    exact this.symm
  have p1 : S.feet.Perm (x :: sl_left S p) := by
    have h2 : (S.feet.take p ++ x :: S.feet.drop (p + 1)).Perm (x :: sl_left S p) := List.perm_middle
    rwa [← e1] at h2
  refine p1.trans ?_
  have h3 : (ins (sl_left S p) (sl_spot S p plus y) x).Perm (x :: ((sl_left S p).take (sl_spot S p plus y) ++ (sl_left S p).drop (sl_spot S p plus y))) := List.perm_middle
  rw [List.take_append_drop] at h3
  exact h3.symm
theorem Step.perm {S S' : Own} (h : Step S S') : S.feet.Perm S'.feet := by
  cases h with
  | slide h =>
    obtain ⟨p, plus, x, y, nx, ny, h1, _, _, _, _, _, rfl⟩ := h.ex
    exact sl_perm h1
  | turn n z r e g h =>
    subst h
    rw [e]
    exact (List.perm_append_singleton n r).symm
  | unturn n z r e g h =>
    subst h
    rw [e]
    exact List.perm_append_singleton n r
theorem Step.same {S S' : Own} (h : Step S S') : S'.arm = S.arm ∧ S'.mod = S.mod := by
  cases h with
  | slide h =>
    obtain ⟨p, plus, x, y, nx, ny, h1, _, _, _, _, _, rfl⟩ := h.ex
    exact ⟨rfl, rfl⟩
  | turn n z r e g h => subst h; exact ⟨rfl, rfl⟩
  | unturn n z r e g h => subst h; exact ⟨rfl, rfl⟩
theorem Step.put {S S' : Own} (h : Step S S') : ∃ n z, n ∈ S.nums.map (·.1) ∧ S'.nums = aPut S.nums n z := by
  have key : ∀ {n : Str} {z : Int}, aGet S.nums n = some z → n ∈ S.nums.map (·.1) := fun g => aGet_isSome.mp (by rw [g]; rfl)
  cases h with
  | slide h =>
    obtain ⟨p, plus, x, y, nx, ny, h1, _, _, _, g, _, rfl⟩ := h.ex
    exact ⟨x, _, key g, rfl⟩
  | turn n z r e g h => subst h; exact ⟨n, _, key g, rfl⟩
  | unturn n z r e g h => subst h; exact ⟨n, _, key g, rfl⟩
/-- all but the bound -/
theorem Step.ok {S S' : Own} (h : Step S S') (k : S.Ok) (b : ∀ p ∈ S'.nums, p.2.natAbs ≤ 1000) : S'.Ok := by
  obtain ⟨e1, e2⟩ := h.same
  obtain ⟨n, z, hn, ep⟩ := h.put
  have ek : S'.nums.map (·.1) = S.nums.map (·.1) := by rw [ep, keys_put, if_pos hn]
  refine ⟨by rw [e1]; exact k.a1, by rw [e1]; exact k.a2, by rw [e2]; exact k.m1, by rw [e2]; exact k.m2, k.wd.perm h.perm, by rw [← h.perm.length_eq]; exact k.ln, by rw [ek]; exact k.nd, fun p hp => ?_, fun m hm => ?_, b, by rw [ep, len_put_in _ hn]; exact k.nl⟩
  · have : p.1 ∈ S.nums.map (·.1) := by rw [← ek]; exact List.mem_map_of_mem hp
    obtain ⟨q, hq, e⟩ := List.mem_map.mp this
    have e' : q.1 = p.1 := e
    rw [← e']
    exact h.perm.mem_iff.mp (k.kf q hq)
  · rw [ek]
    exact k.fk m (h.perm.mem_iff.mpr hm)
def partN (S : Own) : Nat := shareZ S.arm S.mod S.nums
theorem dvd_put {l : List (Str × Int)} {n : Str} {v : Int} {d : Nat} : (∀ p ∈ aPut l n v, (d : Int) ∣ p.2) ↔ (d : Int) ∣ v ∧ ∀ p ∈ l, p.1 ≠ n → (d : Int) ∣ p.2 := by
  constructor
  · intro h
    exact ⟨h _ (put_mem l n v), fun p hp hn => h p (put_old hp hn)⟩
  · rintro ⟨h1, h2⟩ p hp
    rcases mem_put hp with e | ⟨hp, hn⟩
    · rw [e]; exact h1
    · exact h2 p hp hn
theorem dvd_all {l : List (Str × Int)} (nd : (l.map (·.1)).Nodup) {n : Str} {z : Int} (g : aGet l n = some z) {d : Nat} : (∀ p ∈ l, (d : Int) ∣ p.2) ↔ (d : Int) ∣ z ∧ ∀ p ∈ l, p.1 ≠ n → (d : Int) ∣ p.2 := by
  constructor
  · intro h
    exact ⟨h (n, z) (aGet_mem g), fun p hp _ => h p hp⟩
  · rintro ⟨h1, h2⟩ p hp
    by_cases e : p.1 = n
    · have := aGet_nodup nd hp
      rw [e, g] at this
      rw [← Option.some.inj this]
      exact h1
    · exact h2 p hp e
theorem sgnB_or (c : Bool) : sgnB c = 1 ∨ sgnB c = -1 := by
  cases c
  · exact .inl rfl
  · exact .inr rfl
theorem dvd_sg {d : Nat} {s z : Int} (h : s = 1 ∨ s = -1) : (d : Int) ∣ -s * z ↔ (d : Int) ∣ z := by
  rcases h with h | h
  · rw [h, show -(1 : Int) * z = -z by omega, Int.dvd_neg]
  · rw [h, show -(-1 : Int) * z = z by omega]
theorem dvd_worth {d : Nat} {b a t nx ny arm : Int} (hb : b = 1 ∨ b = -1) (hy : (d : Int) ∣ ny) (ha : (d : Int) ∣ arm) : (d : Int) ∣ -b * nx - a * ny + arm * t ↔ (d : Int) ∣ nx := by
  have h1 : (d : Int) ∣ arm * t := Int.dvd_trans ha (Int.dvd_mul_right ..)
  have h2 : (d : Int) ∣ a * ny := Int.dvd_trans hy (Int.dvd_mul_left ..)
  rw [Int.add_comm, Int.dvd_add_right h1, Int.sub_eq_add_neg, Int.add_comm, Int.dvd_add_right (Int.dvd_neg.mpr h2), dvd_sg hb]
theorem Step.dv {S S' : Own} (h : Step S S') (k : S.Ok) {d : Nat} (ha : (d : Int) ∣ (S.arm : Int)) (hm : (d : Int) ∣ (S.mod : Int)) : (∀ p ∈ S'.nums, (d : Int) ∣ p.2) ↔ ∀ p ∈ S.nums, (d : Int) ∣ p.2 := by
  cases h with
  | slide h =>
    obtain ⟨p, plus, x, y, nx, ny, _, _, _, hxy, g, gy, rfl⟩ := h.ex
    show (∀ p ∈ aPut S.nums x _, _) ↔ _
    rw [dvd_put, dvd_all k.nd g]
    refine and_congr_left fun hr => ?_
    rw [dvd_redN hm, dvd_sg (show sl_behind S p plus x y = 1 ∨ sl_behind S p plus x y = -1 from sgnB_or _)]
    exact dvd_worth (b := sl_before S p x) (a := sl_along S p plus y) (sgnB_or _) (hr (y, ny) (aGet_mem gy) (Ne.symm hxy)) ha
  | turn n z r e g h =>
    subst h
    show (∀ p ∈ aPut S.nums n _, _) ↔ _
    rw [dvd_put, dvd_all k.nd g]
    refine and_congr_left fun hr => ?_
    rw [dvd_redN hm, Int.sub_eq_add_neg, Int.dvd_add_right (Int.dvd_trans ha (Int.dvd_mul_left ..)), Int.dvd_neg]
  | unturn n z r e g h =>
    subst h
    show (∀ p ∈ aPut S.nums n _, _) ↔ _
    rw [dvd_put, dvd_all k.nd g]
    refine and_congr_left fun hr => ?_
    rw [dvd_redN hm, Int.sub_eq_add_neg, Int.dvd_add_right (Int.dvd_trans ha (Int.dvd_mul_left ..)), Int.dvd_neg]
theorem dvd_shareZ {d arm mod : Nat} {l : List (Str × Int)} : (∀ z ∈ ((arm : Int) :: (mod : Int) :: l.map (·.2)), (d : Int) ∣ z) ↔ (d : Int) ∣ (arm : Int) ∧ (d : Int) ∣ (mod : Int) ∧ ∀ p ∈ l, (d : Int) ∣ p.2 := by
  simp only [List.mem_cons, List.mem_map]
  constructor
  · intro h
    exact ⟨h _ (.inl rfl), h _ (.inr (.inl rfl)), fun p hp => h _ (.inr (.inr ⟨p, hp, rfl⟩))⟩
  · rintro ⟨h1, h2, h3⟩ z (e | e | ⟨p, hp, e⟩)
    · rw [e]; exact h1
    · rw [e]; exact h2
    · rw [← e]; exact h3 p hp
theorem Step.part {S S' : Own} (h : Step S S') (k : S.Ok) : partN S' = partN S := by
  obtain ⟨e1, e2⟩ := h.same
  unfold partN shareZ
  refine gcdZ_ext fun d => ?_
  rw [dvd_shareZ, dvd_shareZ, e1, e2]
  exact and_congr_right fun ha => and_congr_right fun hm => h.dv k ha hm
/-- what a sheet tells, from the numbers put in -/
theorem share_told {arm mod : Nat} {feet : List Str} {nums : List (Str × Int)} (kf : ∀ p ∈ nums, p.1 ∈ feet) (fk : ∀ n ∈ feet, n ∈ nums.map (·.1)) (nd : (nums.map (·.1)).Nodup) : shareZ arm mod (toldOf mod (bandsOf feet) nums) = shareZ arm mod nums := by
  unfold shareZ
  refine gcdZ_ext fun d => ?_
  rw [dvd_shareZ, dvd_shareZ]
  refine and_congr_right fun ha => and_congr_right fun hm => ?_
  unfold toldOf
  constructor
  · intro h p hp
    have := h (p.1, redN mod ((aGet nums p.1).getD 0)) (List.mem_map.mpr ⟨p.1, (mem_bandsOf _ _).mpr (kf p hp), rfl⟩)
    rw [aGet_nodup nd hp] at this
    exact (dvd_redN hm).mp this
  · intro h p hp
    obtain ⟨b, hb, e⟩ := List.mem_map.mp hp
    rw [← e]
    refine (dvd_redN hm).mpr ?_
    obtain ⟨v, e1, e2⟩ := aGet_of_mem (fk b ((mem_bandsOf _ _).mp hb))
    rw [e1]
    exact h _ e2
/-! ### the law's names -/
def tailsL : List (List Nat) := [[]] ++ (List.range 10).map TL.numL ++ (List.range 100).map fun k => TL.numL (k / 10) ++ TL.numL (k % 10)
theorem tails_len : tailsL.length = 111 := by decide +kernel
theorem tails_nd : tailsL.Nodup := by decide +kernel
theorem tails_ok : ∀ t ∈ tailsL, t.length ≤ 2 ∧ ∀ d ∈ t, 48 ≤ d ∧ d ≤ 57 := by decide +kernel
def nameL (look first start k : Nat) : List Nat := (97 + (first + 5 * k * (if 0 < look then 1 else 0)) % 26) :: (if look = 2 then [] else tailsL.getD ((start + 7 * k) % 111) [])
theorem tails_at (i : Nat) : tailsL[i % 111]? = some (tailsL.getD (i % 111) []) := by
  have h : i % 111 < tailsL.length := by rw [tails_len]; omega
  rw [List.getElem?_eq_getElem h, List.getD_eq_getElem?_getD, List.getElem?_eq_getElem h]
  rfl
theorem nameL_ok (look first start k : Nat) : IsName (SX.S (nameL look first start k)) := by
  refine ⟨_, _, rfl, by omega, by omega, ?_, ?_⟩
  · split
    · exact Nat.zero_le _
    · exact (tails_ok _ (List.mem_of_getElem? (tails_at _))).1
  · split
    · intro d hd; cases hd
    · exact (tails_ok _ (List.mem_of_getElem? (tails_at _))).2
theorem nameL_inj {look first start j k : Nat} (hj : j < 26) (hk : k < 26) (h : nameL look first start j = nameL look first start k) : j = k := by
  unfold nameL at h
  injection h with h1 h2
  by_cases e : look = 2
  · rw [e] at h1
    have h3 : (97 + (first + 5 * j * 1) % 26) = 97 + (first + 5 * k * 1) % 26 := h1
    omega
  · rw [if_neg e, if_neg e] at h2
    have h3 := tails_at (start + 7 * j)
    have h4 := tails_at (start + 7 * k)
    rw [h2] at h3
    have := nodup_inj tails_nd h3 h4
    omega
theorem names_nd (look first start many : Nat) (h : many ≤ 26) : ((List.range many).map fun k => SX.S (nameL look first start k)).Nodup := by
  refine List.pairwise_map.mpr ?_
  refine List.Pairwise.imp_of_mem ?_ (List.nodup_range (n := many))
  intro a b ha hb hn e
  have h1 := List.mem_range.mp ha
  have h2 := List.mem_range.mp hb
  exact hn (nameL_inj (by omega) (by omega) (SX.S_inj e))
theorem word_twice {ns feet : List Str} (hp : feet.Perm (ns ++ ns)) (hn : ns.Nodup) (hk : ∀ n ∈ ns, IsName n) : IsWord feet := by
  have key : ∀ n ∈ feet, n ∈ ns := fun n h => by
    have := hp.mem_iff.mp h
    rcases List.mem_append.mp this with q | q <;> exact q
  refine ⟨fun n h => ?_, fun n h => hk n (key n h)⟩
  rw [hp.count_eq, List.count_append, hn.count, if_pos (key n h)]
/-! ### what kinds must keep to -/
def RimsOk (mod : Nat) (es : List Int) : Prop := es ≠ [] ∧ es.Pairwise (· ≤ ·) ∧ (0 < mod → ∀ e ∈ es, 0 ≤ e ∧ e < (mod : Int))
def SumOk (arm mod : Nat) (h : Int) (es : List Int) : Prop := (mod : Int) ∣ es.sum - (arm : Int) * (2 - 2 * h - (es.length : Int))
def MeasOk (arm mod : Nat) (es : List Int) (m : Int) : Prop := 0 ≤ m ∧ m ∣ (mod : Int) ∧ ∀ e ∈ es, m ∣ e + (arm : Int)
def ShareOk (arm mod : Nat) (es : List Int) (p : Int) : Prop := 1 ≤ p ∧ p ∣ (arm : Int) ∧ p ∣ (mod : Int) ∧ ∀ e ∈ es, p ∣ e
def HasBal (arm mod : Nat) (p : Int) : Prop := (arm : Int) / p % 2 = 1 ∧ (mod : Int) / p % 2 = 0
def OddRim (arm : Nat) (es : List Int) (p : Int) : Prop := ∃ e ∈ es, (e + (arm : Int)) / p % 2 = 1
def BalOk (arm mod : Nat) (es : List Int) (p : Int) (s : Option Int) : Prop := (HasBal arm mod p ∧ ∃ z, s = some z ∧ (z = 0 ↔ OddRim arm es p)) ∨ (¬HasBal arm mod p ∧ s = none)
def Formed (h : Int) (m p s : Option Int) : Prop := 0 ≤ h ∧ (m.isSome = true ↔ h = 1) ∧ (p.isSome = true ↔ 2 ≤ h) ∧ (s = none ∨ (2 ≤ h ∧ (s = some 1 ∨ s = some 0 ∨ s = some (-1))))
open Classical in
/-- the first condition that is broken -/
noncomputable def brk (arm mod : Nat) (h : Int) (es : List Int) (m p s : Option Int) : Str :=
  if ¬RimsOk mod es then "rims" else if ¬SumOk arm mod h es then "sum" else if h = 1 then (if MeasOk arm mod es (m.getD 0) then "" else "measure") else if h < 2 then "" else if ¬ShareOk arm mod es (p.getD 0) then "share" else if BalOk arm mod es (p.getD 0) s then "" else "balance"
theorem dvd_emod {a b : Int} (h : 0 < a) : (b % a = 0) ↔ a ∣ b := ⟨Int.dvd_of_emod_eq_zero, Int.emod_eq_zero_of_dvd⟩
theorem red_zero {mod : Nat} {x : Int} : redN mod x = 0 ↔ (mod : Int) ∣ x := by
  unfold redN
  by_cases h : mod = 0
  · rw [if_pos h, h]
    exact Int.zero_dvd.symm
  · rw [if_neg h]
    exact dvd_emod (by omega)
section
variable {arm mod : Nat} {h : Int} {es : List Int} {m p s : Option Int}
theorem brk_1 (a : ¬RimsOk mod es) : brk arm mod h es m p s = "rims" := by unfold brk; rw [if_pos a]
theorem brk_2 (a : RimsOk mod es) (b : ¬SumOk arm mod h es) : brk arm mod h es m p s = "sum" := by unfold brk; rw [if_neg (fun z => z a), if_pos b]
theorem brk_3 (a : RimsOk mod es) (b : SumOk arm mod h es) (c : h = 1) (d : MeasOk arm mod es (m.getD 0)) : brk arm mod h es m p s = "" := by unfold brk; rw [if_neg (fun z => z a), if_neg (fun z => z b), if_pos c, if_pos d]
theorem brk_3n (a : RimsOk mod es) (b : SumOk arm mod h es) (c : h = 1) (d : ¬MeasOk arm mod es (m.getD 0)) : brk arm mod h es m p s = "measure" := by unfold brk; rw [if_neg (fun z => z a), if_neg (fun z => z b), if_pos c, if_neg d]
theorem brk_4 (a : RimsOk mod es) (b : SumOk arm mod h es) (c : h < 1) : brk arm mod h es m p s = "" := by unfold brk; rw [if_neg (fun z => z a), if_neg (fun z => z b), if_neg (by omega), if_pos (by omega)]
theorem brk_5 (a : RimsOk mod es) (b : SumOk arm mod h es) (c : 2 ≤ h) (d : ¬ShareOk arm mod es (p.getD 0)) : brk arm mod h es m p s = "share" := by unfold brk; rw [if_neg (fun z => z a), if_neg (fun z => z b), if_neg (by omega), if_neg (by omega), if_pos d]
theorem brk_6 (a : RimsOk mod es) (b : SumOk arm mod h es) (c : 2 ≤ h) (d : ShareOk arm mod es (p.getD 0)) (e : BalOk arm mod es (p.getD 0) s) : brk arm mod h es m p s = "" := by unfold brk; rw [if_neg (fun z => z a), if_neg (fun z => z b), if_neg (by omega), if_neg (by omega), if_neg (fun z => z d), if_pos e]
theorem brk_6n (a : RimsOk mod es) (b : SumOk arm mod h es) (c : 2 ≤ h) (d : ShareOk arm mod es (p.getD 0)) (e : ¬BalOk arm mod es (p.getD 0) s) : brk arm mod h es m p s = "balance" := by unfold brk; rw [if_neg (fun z => z a), if_neg (fun z => z b), if_neg (by omega), if_neg (by omega), if_neg (fun z => z d), if_neg e]
end
theorem filt_ne {es : List Int} {P : Int → Bool} : es.filter P ≠ [] ↔ ∃ e ∈ es, P e = true := by
  rw [Ne, List.filter_eq_nil_iff]
  constructor
  · exact fun h => Classical.byContradiction fun z => h fun e he hp => z ⟨e, he, hp⟩
  · exact fun ⟨e, he, hp⟩ h => h e he hp
section
variable {P : Program} {w : World} {K : PySem.W.Frag} {mg : Str → Option Value} {base : Heap} {f : Addr} {fd : FuncData}
/-! ### the bag: made, drawn from -/
def spBag (K : PySem.W.Frag) : Sp := fun vs H Q _ => ∃ (a : Addr) (ns : List Int), vs = [.ref a] ∧ SqL K H a (ns.map V.int) ∧ ns.length ≤ 63 ∧ ∀ b l H', H b = none → H l = none → BagAt H' b l → Same H H' → Q (.ref b) H'
def spDraw : Sp := fun vs H Q _ => ∃ (b l : Addr) (n : Int), vs = [.ref b, .int n] ∧ BagAt H b l ∧ 0 < n ∧ n < 1073741824 ∧ ∀ (r : Nat) H', (r : Int) < n → BagAt H' b l → Kp b H H' → Q (.int (r : Nat)) H'
def spOf : Sp := fun vs H Q _ => ∃ (b l p : Addr) (xs : List V), vs = [.ref b, .ref p] ∧ BagAt H b l ∧ p ≠ b ∧ H p = some (.lst xs) ∧ 0 < xs.length ∧ xs.length < 1073741824 ∧ ∀ (i : Nat) (v : V) H', xs[i]? = some v → BagAt H' b l → Kp b H H' → Q v H'
theorem cut63 {ns : List Int} (h : ns.length ≤ 63) : cutV (ns.map V.int) none (some 63) = ns.map V.int := by
  unfold cutV
  have e1 : HT.sIx (ns.map V.int).length 0 none = 0 := rfl
  have e2 : HT.sIx (ns.map V.int).length (ns.map V.int).length (some 63) = ns.length := by
    rw [List.length_map]
    unfold HT.sIx
    simp
    omega
  rw [e1, e2, List.drop_zero]
  exact List.take_of_length_le (by rw [List.length_map]; omega)
theorem ok_bag (B : Bi K mg) (F : FnP K "_law_bag" st_l_bag f fd) : FnOk P w K mg base CX0 1 f fd ["script"] (spBag K) := by
  refine F.ok sc_l_bag (fun vs H Q E h => ?_) (fun cdv A outer s H vs Q E hr h => ?_)
  · obtain ⟨a, ns, rfl, _⟩ := h
    rfl
  · obtain ⟨a, ns, rfl, hS, hl, k⟩ := h
    have G := B
    refine ⟨_, PSs.nox ((pss_cons (ps_set (i := 1) sc_l_bag.nd rfl (Or.inl rfl) pe_int)
      (pss_cons (ps_for PassesOwn.never rfl (pi_list (pe_slice sl_list (pv 0) po_none (po_some pe_int))) (pg_name (i := 2) sc_l_bag.nd rfl (Or.inl rfl))
        (pss_one (ps_set (i := 1) sc_l_bag.nd rfl (Or.inl rfl) (pe_op op_mod (pe_callTy call_intI (by rfl) G.int (by decide +kernel) (pa_cons (pe_op op_add (pe_op op_add (pe_op op_mul (pv 1) pe_int) (pe_op op_mod (pe_callTy call_intI (by rfl) G.int (by decide +kernel) (pa_cons (pv 2) pa_nil)) pe_int)) pe_int) pa_nil)) pe_int))))
      (pss_one (ps_ret (pe_lst (pa_cons (pe_callTy callListS (by rfl) G.list (by decide +kernel) (pa_cons (pe_slice sl_list (pv 0) po_none (po_some pe_int)) pa_nil)) (pa_cons pe_int (pa_cons pe_int (pa_cons pe_int (pa_cons (pv 1) (pa_cons pe_int pa_nil)))))))))))), ?_⟩
    try dsimp only [cxOf]
    walk_at "go"
    refine x_slL hS fun p hp => ?_
    rw [cut63 hl]
    refine w_forL (xs := ns.map V.int) (SqL.of upd_same) (fun i σ H' => H' = upd H p (.lst (ns.map V.int)) ∧ ∃ (x : Int) (c : Option V), σ = [some (.ref a), some (.int x), c] ∧ 0 ≤ x ∧ x < 2147483549) ⟨rfl, _, none, rfl, by decide, by decide⟩ (fun i σ H' _ ⟨e, _⟩ => by rw [e]; exact SqL.of upd_same) ?_ ?_
    · rintro i y σ H' hi ⟨rfl, x, c, rfl, hx0, hx1⟩
      obtain ⟨z, rfl, _⟩ := int_at hi
      walk_at "go"
      exact ⟨rfl, _, some (.int z), rfl, Int.emod_nonneg _ (by decide), Int.emod_lt_of_pos _ (by decide)⟩
    · rintro σ H' ⟨rfl, x, c, rfl, hx0, hx1⟩
      walk_at "go"
      refine x_slL (Same.sql (Same.new hp) hS) fun q hq => ?_
      rw [cut63 hl]
      walk_at "go"
      refine x_listL (SqL.of upd_same) fun l hl' => ?_
      walk_at "go"
      refine ⟨by show 6 ≤ sizeLine; decide, fun b hb => ?_⟩
      have s2 : Same H (upd (upd (upd H p (.lst (ns.map V.int))) q (.lst (ns.map V.int))) l (.lst (ns.map V.int))) := Same.trans (Same.trans (Same.new hp) (Same.new hq)) (Same.new hl')
      have s3 := Same.trans s2 (Same.new (o := HO.lst [.ref l, .int 0, .int 0, .int 0, .int x, .int 0]) hb)
      refine k b l _ (Same.free s2 hb) (Same.free (Same.trans (Same.new hp) (Same.new hq)) hl') ⟨ns, 0, 0, 0, x, 0, upd_same, ?_, hl, by decide, hx0, hx1⟩ s3
      exact upd_old hb upd_same
theorem ok_draw (B : Bi K mg) (F : FnP K "_law_draw" st_l_draw f fd) : FnOk P w K mg base CX0 1 f fd ["bag", "many"] spDraw := by
  refine F.ok sc_l_draw (fun vs H Q E h => ?_) (fun cdv A outer s H vs Q E hr h => ?_)
  · obtain ⟨b, l, n, rfl, _⟩ := h
    rfl
  · obtain ⟨b, l, n, rfl, hB, hn0, hn1, k0⟩ := h
    have k : ∀ (r : Int) H', 0 ≤ r → r < n → BagAt H' b l → Kp b H H' → Q (.int r) H' := fun r H' h0 h1 hB hk => by
      obtain ⟨m, rfl⟩ := Int.eq_ofNat_of_zero_le h0
      exact k0 m H' h1 hB hk
    have G := B
    have nlb := hB.ne
    obtain ⟨ns, i, g, e, x, c, hb, hL, hlen, hg, hx0, hx1⟩ := hB.ex
    refine ⟨_, PSs.nox ((pss_cons (ps_asg (pe_op op_add (pe_ix ix_list (pv 0) pe_int (fun _ _ => rfl)) pe_int) (pg_sub (pv 0) pe_int set_list))
      (C8.pss_cut (ps_if (PW.pt (pw_and (pt_cmpR op_eq (pe_ix ix_list (pv 0) pe_int (fun _ _ => rfl)) pe_int (nomark _)) (pw_and1 (pt_cmpR op_lt (pe_ix ix_list (pv 0) pe_int (fun _ _ => rfl)) (pe_callB callLenS (by rfl) G.len PySem.boot_len (pa_cons (pe_ix ix_list (pv 0) pe_int (fun _ _ => rfl)) pa_nil)) (nomark _)))))
        (pss_cons (ps_set (i := 2) sc_l_draw.nd rfl (Or.inl rfl) (pe_ix ix_list (pe_ix ix_list (pv 0) pe_int (fun _ _ => rfl)) (pe_ix ix_list (pv 0) pe_int (fun _ _ => rfl)) (fun _ _ => rfl)))
        (pss_cons (ps_asg (pe_op op_add (pe_ix ix_list (pv 0) pe_int (fun _ _ => rfl)) pe_int) (pg_sub (pv 0) pe_int set_list))
        (pss_one (ps_if (pt_cmpR op_ge (pv 2) (pe_op op_pow pe_int pe_int) (nomark _))
          (pss_cons (ps_asg (pv 2) (pg_sub (pv 0) pe_int set_list))
          (pss_one (ps_asg pe_int (pg_sub (pv 0) pe_int set_list))))
          (pss_one (ps_asg (pe_op op_mod (pe_callTy call_intI (by rfl) G.int (by decide +kernel) (pa_cons (pe_op op_add (pe_op op_add (pe_op op_mul (pe_ix ix_list (pv 0) pe_int (fun _ _ => rfl)) pe_int) (pe_op op_mul (pe_op op_mod (pe_callTy call_intI (by rfl) G.int (by decide +kernel) (pa_cons (pv 2) pa_nil)) pe_int) pe_int)) pe_int) pa_nil)) pe_int) (pg_sub (pv 0) pe_int set_list)))))))
        pss_nil)
      (pss_cons (ps_if (pt_cmpR op_gt (pe_ix ix_list (pv 0) pe_int (fun _ _ => rfl)) pe_int (nomark _))
        (pss_cons (ps_set (i := 3) sc_l_draw.nd rfl (Or.inl rfl) (pe_op op_mod (pe_callTy call_intI (by rfl) G.int (by decide +kernel) (pa_cons (pe_ix ix_list (pv 0) pe_int (fun _ _ => rfl)) pa_nil)) (pv 1)))
        (pss_cons (ps_asg (pe_op op_sub (pe_ix ix_list (pv 0) pe_int (fun _ _ => rfl)) pe_int) (pg_sub (pv 0) pe_int set_list))
        (pss_cons (ps_asg (pe_ifExp (pt_cmpR op_gt (pe_ix ix_list (pv 0) pe_int (fun _ _ => rfl)) pe_int (nomark _)) (pe_op op_fdiv (pe_ix ix_list (pv 0) pe_int (fun _ _ => rfl)) (pv 1)) pe_int) (pg_sub (pv 0) pe_int set_list))
        (pss_one (ps_ret (pv 3))))))
        pss_nil)
      (pss_cons (ps_asg (pe_op op_mod (pe_callTy call_intI (by rfl) G.int (by decide +kernel) (pa_cons (pe_op op_add (pe_op op_add (pe_op op_pow (pe_ix ix_list (pv 0) pe_int (fun _ _ => rfl)) pe_int) (pe_op op_mul (pe_ix ix_list (pv 0) pe_int (fun _ _ => rfl)) pe_int)) pe_int) pa_nil)) pe_int) (pg_sub (pv 0) pe_int set_list))
      (pss_one (ps_ret (pe_op op_mod (pe_callTy call_intI (by rfl) G.int (by decide +kernel) (pa_cons (pe_op op_add (pe_op op_fdiv (pe_ix ix_list (pv 0) pe_int (fun _ _ => rfl)) pe_int) (pe_op op_mul (pe_op op_mod (pe_callTy call_intI (by rfl) G.int (by decide +kernel) (pa_cons (pe_ix ix_list (pv 0) pe_int (fun _ _ => rfl)) pa_nil)) pe_int) pe_int)) pa_nil)) (pv 1))))))))), ?_⟩
    have bump : ∀ y, (upd H b (.lst ([.ref l, .int i, .int g, .int e, .int x, .int c].set (Int.toNat 5) y))) = upd H b (.lst [.ref l, .int i, .int g, .int e, .int x, y]) := fun y => rfl
    try dsimp only [cxOf]
    walk_at "go"
    rw [bump]
    refine x_cut (fun σ H1 => ∃ (i1 : Nat) (g1 e1 x1 : Int) (u v : Option V), σ = [some (.ref b), some (.int n), u, v] ∧ Kp b H H1 ∧ H1 b = some (.lst [.ref l, .int i1, .int g1, .int e1, .int x1, .int (c + 1)]) ∧ H1 l = some (.lst (ns.map V.int)) ∧ 0 ≤ g1 ∧ 0 ≤ x1 ∧ x1 < 2147483549) ?_ ?_
    · walk_at "go"
      have bump1 : ∀ y z, ([V.ref l, .int i, .int g, .int e, .int x, y].set (Int.toNat 1) z) = [V.ref l, z, .int g, .int e, .int x, y] := fun y z => rfl
      have bump2 : ∀ y z u, ([V.ref l, u, .int g, .int e, .int x, y].set (Int.toNat 2) z) = [V.ref l, u, z, .int e, .int x, y] := fun y z u => rfl
      have bump3 : ∀ y z u t, ([V.ref l, u, t, .int e, .int x, y].set (Int.toNat 3) z) = [V.ref l, u, t, z, .int x, y] := fun y z u t => rfl
      have bump4 : ∀ y z u, ([V.ref l, u, .int g, .int e, .int x, y].set (Int.toNat 4) z) = [V.ref l, u, .int g, .int e, z, y] := fun y z u => rfl
      have kp0 : ∀ o, Kp b H (upd H b o) := fun o => Kp.upd Kp.refl
      have hL' : ∀ o, upd H b o l = some (.lst (ns.map V.int)) := fun o => upd_oth nlb hL
      have other : ∃ (i1 : Nat) (g1 e1 x1 : Int) (u v : Option V), L2.start ["bag", "many", "cell", "digit"] [V.ref b, V.int n] = [some (.ref b), some (.int n), u, v] ∧ Kp b H (upd H b (.lst [.ref l, .int i, .int g, .int e, .int x, .int (c + 1)])) ∧ (upd H b (.lst [.ref l, .int i, .int g, .int e, .int x, .int (c + 1)])) b = some (.lst [.ref l, .int i1, .int g1, .int e1, .int x1, .int (c + 1)]) ∧ (upd H b (.lst [.ref l, .int i, .int g, .int e, .int x, .int (c + 1)])) l = some (.lst (ns.map V.int)) ∧ 0 ≤ g1 ∧ 0 ≤ x1 ∧ x1 < 2147483549 :=
        ⟨i, g, e, x, none, none, rfl, kp0 _, upd_same, hL' _, hg, hx0, hx1⟩
      refine x_iteD (fun hg0 => ?_) (fun hg0 => ?_)
      · walk_at "go"
        refine x_iteD (fun hi => ?_) (fun hi => ?_)
        · rw [List.length_map] at hi
          obtain ⟨z, hz⟩ : ∃ z, (ns.map V.int)[i]? = some (.int z) := ⟨ns[i]'(by omega), by rw [List.getElem?_map, List.getElem?_eq_getElem (by omega)]; rfl⟩
          walk_at "go"
          refine x_ixL (hL' _ |> SqL.of) (atI_of rfl hz) ?_
          walk_at "go"
          rw [bump1, upd_upd]
          refine x_iteD (fun hc => ?_) (fun hc => ?_)
          · walk_at "go"
            rw [bump2, upd_upd]
            walk_at "go"
            rw [bump3, upd_upd]
            have hc' : (1000000000000000000 : Int) ≤ z := hc
            exact ⟨i + 1, z, 60, x, some (.int z), none, rfl, kp0 _, upd_same, hL' _, by omega, hx0, hx1⟩
          · walk_at "go"
            rw [bump4, upd_upd]
            exact ⟨i + 1, g, e, _, some (.int z), none, rfl, kp0 _, upd_same, hL' _, hg, Int.emod_nonneg _ (by decide), Int.emod_lt_of_pos _ (by decide)⟩
        · walk_at "go"
          exact other
      · walk_at "go"
        exact other
    · rintro σ H1 ⟨i1, g1, e1, x1, u, v, rfl, kp, hb1, hL1, hg1, hx1', hx2⟩
      have bump2 : ∀ z y, ([V.ref l, .int i1, .int g1, y, .int x1, .int (c + 1)].set (Int.toNat 2) z) = [V.ref l, .int i1, z, y, .int x1, .int (c + 1)] := fun z y => rfl
      have bump3 : ∀ z, ([V.ref l, .int i1, .int g1, .int e1, .int x1, .int (c + 1)].set (Int.toNat 3) z) = [V.ref l, .int i1, .int g1, z, .int x1, .int (c + 1)] := fun z => rfl
      have bump4 : ∀ z, ([V.ref l, .int i1, .int g1, .int e1, .int x1, .int (c + 1)].set (Int.toNat 4) z) = [V.ref l, .int i1, .int g1, .int e1, z, .int (c + 1)] := fun z => rfl
      have hL2 : ∀ o, upd H1 b o l = some (.lst (ns.map V.int)) := fun o => upd_oth nlb hL1
      walk_at "go"
      refine x_iteD (fun hg0 => ?_) (fun hg0 => ?_)
      · walk_at "go"
        rw [bump3]
        refine x_iteD (fun hd => ?_) (fun hd => ?_)
        · walk_at "go"
          rw [bump2, upd_upd]
          exact k _ _ (Int.emod_nonneg _ (by omega)) (Int.emod_lt_of_pos _ hn0) ⟨ns, i1, _, _, x1, c + 1, upd_same, hL2 _, hlen, Int.ediv_nonneg hg1 (by omega), hx1', hx2⟩ (Kp.upd kp)
        · walk_at "go"
          rw [bump2, upd_upd]
          exact k _ _ (Int.emod_nonneg _ (by omega)) (Int.emod_lt_of_pos _ hn0) ⟨ns, i1, _, _, x1, c + 1, upd_same, hL2 _, hlen, Int.le_refl _, hx1', hx2⟩ (Kp.upd kp)
      · walk_at "go"
        rw [bump4]
        exact k _ _ (Int.emod_nonneg _ (by omega)) (Int.emod_lt_of_pos _ hn0) ⟨ns, i1, g1, e1, _, c + 1, upd_same, hL2 _, hlen, hg1, Int.emod_nonneg _ (by decide), Int.emod_lt_of_pos _ (by decide)⟩ (Kp.upd kp)
theorem ok_of (B : Bi K mg) (c_l_draw : C8.Cal P w K mg base 1 "_law_draw" spDraw []) (F : FnP K "_law_of" st_l_of f fd) : FnOk P w K mg base CX0 2 f fd ["bag", "things"] spOf := by
  refine F.ok sc_l_of (fun vs H Q E h => ?_) (fun cdv A outer s H vs Q E hr h => ?_)
  · obtain ⟨b, l, p, xs, rfl, _⟩ := h
    rfl
  · obtain ⟨b, l, p, xs, rfl, hB, npb, hp, h0, h1, k⟩ := h
    have G := B
    refine ⟨_, PSs.nox ((pss_one (ps_ret (pe_ix ix_list (pv 1) (C8.pe_c c_l_draw hr (by decide) rfl (pa_cons (pv 0) (pa_cons (pe_callB callLenS (by rfl) G.len PySem.boot_len (pa_cons (pv 1) pa_nil)) pa_nil))) (fun _ _ => rfl))))), ?_⟩
    try dsimp only [cxOf]
    walk_at "go"
    refine ⟨b, l, (xs.length : Nat), rfl, hB, by omega, by omega, fun r H' hr1 hB' kp => ?_⟩
    have hp' := Kp.get kp npb hp
    obtain ⟨v, hv⟩ : ∃ v, xs[r]? = some v := ⟨xs[r]'(by omega), List.getElem?_eq_getElem (by omega)⟩
    refine x_ixL (SqL.of hp') (atI_of rfl hv) ?_
    exact k _ v H' hv hB' kp
/-! ### the program's sheets -/
abbrev st_Sheet_number : Stmt := inClass (top 47) 2
theorem sc_Sheet_number : FnScope ["self", "band"] ["self", "band"] (defScope st_Sheet_number) := ⟨rfl, rfl, rfl, by decide +kernel, rfl, by decide +kernel, by decide +kernel⟩
def spIsNum : Sp := fun vs H Q _ => ∃ i : Int, vs = [.int i] ∧ Q (.bl true) H
theorem ok_isnum (B : Bi K mg) (F : FnP K "is_number" st_is_number f fd) : FnOk P w K mg base CX0 1 f fd ["value"] spIsNum := by
  refine F.ok sc_is_number (fun vs H Q E h => ?_) (fun cdv A outer s H vs Q E hr h => ?_)
  · obtain ⟨i, rfl, _⟩ := h
    rfl
  · obtain ⟨i, rfl, k⟩ := h
    have G := B
    refine ⟨_, PSs.nox ((pss_one (ps_ret (pe_and (pe_callB call_isi (by rfl) G.isinstance (by decide +kernel) (pa_cons (pv 0) (pa_cons (pe_bltn (v := .ty "int") (u := .type "int") (by rfl) G.int (by decide +kernel) rfl) pa_nil))) (pe_one (pe_not (pe_callB call_isi (by rfl) G.isinstance (by decide +kernel) (pa_cons (pv 0) (pa_cons (pe_bltn (v := .ty "bool") (u := .type "bool") (by rfl) G.bool (by decide +kernel) rfl) pa_nil))))))))), ?_⟩
    try dsimp only [cxOf]
    walk_at "go"
    exact k
def BookAt (K : PySem.W.Frag) (H : Hp) (a : Addr) (arm mod : Nat) : Prop := ∃ dx, H a = some (.ins (He.ga K "Book") dx [("arms", .int arm), ("modulus", .int mod)])
theorem BookAt.same {H H' : Hp} {a : Addr} {arm mod : Nat} (h : BookAt K H a arm mod) (s : Same H H') : BookAt K H' a arm mod := by
  obtain ⟨dx, h⟩ := h
  exact ⟨dx, s _ _ h⟩
def spReduced (K : PySem.W.Frag) : Sp := fun vs H Q _ => ∃ (a : Addr) (arm mod : Nat) (n : Int), vs = [.ref a, .int n] ∧ BookAt K H a arm mod ∧ mod ≤ 24 ∧ Q (.int (redN mod n)) H
theorem ok_reduced (B : Bi K mg) (F : FnP K "reduced" st_reduced f fd) : FnOk P w K mg base CX0 1 f fd ["book", "n"] (spReduced K) := by
  refine F.ok sc_reduced (fun vs H Q E h => ?_) (fun cdv A outer s H vs Q E hr h => ?_)
  · obtain ⟨a, arm, mod, n, rfl, _⟩ := h
    rfl
  · obtain ⟨a, arm, mod, n, rfl, ⟨dx, hb⟩, hm, k⟩ := h
    have G := B
    have cB := G.cls_Book
    have n1 := G.na_Book_modulus
    refine ⟨_, PSs.nox ((pss_cons (ps_if (pt_cmpR op_eq (pe_fld (pv 0) (by rfl)) pe_int (nomark _))
        (pss_one (ps_ret (pv 1)))
        pss_nil)
      (pss_one (ps_ret (pe_op op_mod (pv 1) (pe_fld (pv 0) (by rfl))))))), ?_⟩
    try dsimp only [cxOf]
    walk_at "go"
    unfold redN at k
    refine x_iteD (fun h => ?_) (fun h => ?_)
    · rw [if_pos (by omega)] at k
      walk_at "go"
      exact k
    · rw [if_neg (by omega)] at k
      walk_at "go"
      exact k
def spIsName : Sp := fun vs H Q _ => ∃ s : Str, vs = [.str s] ∧ IsName s ∧ ∀ H', Same H H' → Q (.bl true) H'
theorem ok_isname (B : Bi K mg) (F : FnP K "is_name" st_is_name f fd) : FnOk P w K mg base CX0 1 f fd ["text"] spIsName := by
  refine F.ok sc_is_name (fun vs H Q E h => ?_) (fun cdv A outer s H vs Q E hr h => ?_)
  · obtain ⟨i, rfl, _⟩ := h
    rfl
  · obtain ⟨z, rfl, ⟨c, ds, rfl, hc1, hc2, hd1, hd2⟩, k⟩ := h
    have G := B
    refine ⟨_, PSs.nox ((pss_cons (ps_if (PW.pt (pw_or (pt_not (pt_chain op_le op_le pe_int (pe_callB call_lenSt (by rfl) G.len PySem.boot_len (pa_cons (pv 0) pa_nil)) (C8.pe_gc rfl G.c_LONGEST))) (pw_or1 (pt_cmpR op_niSg (pe_ix ix_str (pv 0) pe_int (fun _ _ => rfl)) (C8.pe_gc rfl G.c_LETTERS_names) rfl))))
        (pss_one (ps_ret pe_bl))
        pss_nil)
      (pss_one (ps_ret (pe_callB (cr_all rfl) (by rfl) G.all (by decide +kernel) (pa_cons (pe_lc (own := [("sign", 1)]) rfl sc_is_name.nd (pi_str (pe_slice sl_str (pv 0) (po_some pe_int) po_none)) (blkOk_by (own := [("sign", 1)]) (N := ["text", "sign"]) (sc := defScope st_is_name) (by decide +kernel)) (fun _ _ _ _ _ => (pg_name (i := 1) sc_is_name.nd rfl (Or.inl rfl))) (fun _ _ _ _ _ => pts_nil) (fun _ _ _ _ _ => (pe_cmpR op_inSg (pv 1) (C8.pe_gc rfl G.c_DIGITS_lines) rfl))) pa_nil)))))), ?_⟩
    try dsimp only [cxOf]
    have hS : (SX.S (c :: ds)).length ≤ sizeLine := by
      rw [SX.S_len]
      exact Nat.le_trans (show _ ≤ 3 by rw [List.length_cons]; omega) (by decide)
    have e1 : (SX.S (c :: ds)).length = ds.length + 1 := by rw [SX.S_len, List.length_cons]
    have eL : ("abcdefghijklmnopqrstuvwxyz" : Str).cps.toList = (List.range 26).map (97 + ·) := by decide +kernel
    have eD : ("0123456789" : Str).cps.toList = (List.range 10).map (48 + ·) := by decide +kernel
    have hcm : c ∈ ("abcdefghijklmnopqrstuvwxyz" : Str).cps.toList := by
      rw [eL]
      exact List.mem_map.mpr ⟨c - 97, List.mem_range.mpr (by omega), by omega⟩
    have hdm : ∀ d ∈ ds, d ∈ ("0123456789" : Str).cps.toList := fun d hd => by
      rw [eD]
      have := hd2 d hd
      exact List.mem_map.mpr ⟨d - 48, List.mem_range.mpr (by omega), by omega⟩
    walk_at "go"
    refine x_lenSt hS ?_
    rw [e1]
    walk_at "go"
    refine x_iteDT (by omega) ?_
    walk_at "go"
    refine x_iteNDF (by omega) ?_
    walk_at "go"
    refine x_ixS (by rw [List.length_cons]; exact Nat.le_trans (show _ ≤ 3 by omega) (by decide)) (atI_of (k := 0) rfl rfl) ?_
    walk_at "go"
    refine x_iteNDF hcm ?_
    walk_at "go"
    refine x_slS hS ?_
    rw [SX.slice_from (by decide)]
    show rLcStr _ _ _ _ _ (.str (SX.S ds)) _ _
    refine w_lcStr (Nat.lt_of_le_of_lt (show _ ≤ 2 from hd1) (by decide)) (fun i acc => acc = List.replicate i (V.bl true)) rfl ?_ ?_
    · rintro i d H' acc hi s' rfl _ R S hR _
      walk_at "go"
      refine ⟨rfl, ?_⟩
      walk_at "go"
      rw [decide_eq_true (hdm d (List.mem_of_getElem? hi))]
      exact hR _ _ (Same.refl _) (List.replicate_succ' ..).symm
    · rintro p H' acc hp s' hp' rfl
      walk_at "go"
      refine x_all (bs := List.replicate ds.length true) (SqL.of (by rw [hp', List.map_replicate])) ?_
      rw [show (List.replicate ds.length true).all id = true by simp]
      walk_at "go"
      exact k _ s'
def spIsWord (K : PySem.W.Frag) : Sp := fun vs H Q _ => ∃ (a : Addr) (feet : List Str), vs = [.ref a] ∧ SqA K H a (feet.map V.str) ∧ IsWord feet ∧ feet.length ≤ 1000 ∧ ∀ H', Same H H' → Q (.bl true) H'
theorem ok_isword (B : Bi K mg) (c_is_name : C8.Cal P w K mg base 1 "is_name" spIsName []) (F : FnP K "is_word" st_is_word f fd) : FnOk P w K mg base CX0 2 f fd ["word"] (spIsWord K) := by
  refine F.ok sc_is_word (fun vs H Q E h => ?_) (fun cdv A outer s H vs Q E hr h => ?_)
  · obtain ⟨a, feet, rfl, _⟩ := h
    rfl
  · obtain ⟨a, feet, rfl, hS, hW, hl, k⟩ := h
    have G := B
    refine ⟨_, PSs.nox ((pss_cons (ps_set (i := 1) sc_is_word.nd rfl (Or.inr rfl) pe_dnewK)
      (pss_cons (ps_for PassesOwn.never rfl (pi_seq (pv 0)) (pg_name (i := 2) sc_is_word.nd rfl (Or.inl rfl))
        (pss_one (ps_dput (hu_of hr) (pv 1) (pv 2) (pe_op op_add (pe_dget2 (hu_of hr) (pv 1) (pv 2) pe_int ⟨rfl, rfl, rfl, rfl⟩) pe_int) rfl)))
      (pss_one (ps_ret (pe_callB (cr_all rfl) (by rfl) G.all (by decide +kernel) (pa_cons (pe_lock (pe_lc (own := [("name", 2)]) rfl sc_is_word.nd (pi_keys (pv 1)) (blkOk_by (own := [("name", 2)]) (N := ["word", "many", "name"]) (sc := defScope st_is_word) (by decide +kernel)) (fun _ _ _ _ _ => (pg_name (i := 2) sc_is_word.nd rfl (Or.inl rfl))) (fun _ _ _ _ _ => pts_nil) (fun _ _ _ _ _ => (pe_and (pe_cmpR op_eq (pe_dget (hu_of hr) (pv 1) (pv 2) (fun _ _ => rfl)) pe_int (nomark _)) (pe_one (C8.pe_c c_is_name hr (by decide) rfl (pa_cons (pv 2) pa_nil))))))) pa_nil))))))), ?_⟩
    try dsimp only [cxOf]
    walk_at "go"
    intro m hm
    walk_at "go"
    have hsz : feet.length < sizeLine := Nat.lt_of_le_of_lt hl (by decide)
    refine w_forS hS (Same.new hm) (fun i σ H' => H' = upd H m (.dK (dD V.int (cntM (feet.take i)))) ∧ ∃ u : Option V, σ = [some (.ref a), some (.ref m), u]) ⟨rfl, none, rfl⟩ (fun i σ H' ⟨e, _⟩ => by rw [e]; exact Same.new hm) ?_ ?_
    · rintro i x σ H' hi ⟨rfl, u, rfl⟩
      obtain ⟨n, rfl, hn⟩ := str_at hi
      have hil : i < feet.length := (List.getElem?_eq_some_iff.mp hn).1
      walk_at "go"
      refine x_dg2 (.inl upd_same) ?_
      walk_at "go"
      refine x_dg2S (.inl upd_same) ?_
      rw [valV_dD]
      have e1 : (((aGet (cntM (feet.take i)) n).map V.int).getD (.int 0)) = V.int ((aGet (cntM (feet.take i)) n).getD 0) := by
        cases aGet (cntM (feet.take i)) n <;> rfl
      rw [e1]
      walk_at "go"
      refine x_dputS upd_same ?_ ?_
      · rw [dD_len]
        exact Nat.lt_of_le_of_lt (cntM_len _) (by rw [List.length_take]; omega)
      · refine ⟨?_, _, rfl⟩
        rw [putK_dD, upd_upd, take_snoc hn, cntM_snoc]
    · rintro σ H' ⟨rfl, u, rfl⟩
      rw [List.length_map, List.take_length]
      walk_at "go"
      refine w_lockLcK (d := m) (kvs := dD V.int (cntM feet)) upd_same (by rw [dD_len]; exact Nat.lt_of_le_of_lt (cntM_len _) hsz) (fun od => ?_) (fun H R R' h z => ?_) (fun i acc => acc = List.replicate i (V.bl true)) rfl ?_ ?_
      · walk_at "go"
        exact ⟨rfl, rfl⟩
      · obtain ⟨v, e, q⟩ := z
        exact ⟨v, e, h _ _ q⟩
      · rintro od i kk v H' acc hi s' rfl _ R S hR _
        have hi' : ((cntM feet).map fun p => ((.inr p.1, V.int p.2) : Key × V))[i]? = some (kk, v) := hi
        rw [List.getElem?_map] at hi'
        obtain ⟨p, hp, e⟩ := Option.map_eq_some_iff.mp hi'
        cases e
        have hpm : p.1 ∈ (cntM feet).map (·.1) := List.mem_map_of_mem (List.mem_of_getElem? hp)
        have hmem : p.1 ∈ feet := by
          have h := aGet_isSome.mpr hpm
          rw [cntM_get] at h
          by_cases q : p.1 ∈ feet
          · exact q
          · rw [if_neg q] at h
            cases h
        have hg : aGet (cntM feet) p.1 = some 2 := by
          rw [cntM_get, if_pos hmem, hW.two _ hmem]
          rfl
        show gName _ (.str p.1) _ _ _
        walk_at "go"
        refine ⟨rfl, ?_⟩
        walk_at "go"
        refine x_dgetS (v := .int 2) (.inr ⟨od, s' _ _ upd_same⟩) (by rw [valV_dD, hg]; rfl) ?_
        walk_at "go"
        rw [decide_eq_true rfl]
        walk_at "go"
        refine ⟨p.1, rfl, hW.nm _ hmem, fun H2 s2 => ?_⟩
        exact hR _ _ s2 (List.replicate_succ' ..).symm
      · rintro p H' acc hp s' hp' rfl
        walk_at "go"
        refine x_all (bs := List.replicate (dD V.int (cntM feet)).length true) (SqL.of (by rw [hp', List.map_replicate])) ?_
        rw [show (List.replicate (dD V.int (cntM feet)).length true).all id = true by simp]
        walk_at "go"
        exact k _ (Same.trans (Same.new hm) s')
def FeetAt (H : Hp) (ft : Addr) (feet : List Str) : Prop := ∃ L : List (Str × Addr), H ft = some (.dK (dD V.ref L)) ∧ L.map (·.1) = bandsOf feet ∧ ∀ p ∈ L, ∃ i j : Nat, H p.2 = some (.tup [.int i, .int j]) ∧ PlOf feet p.1 i j
def spFeet (K : PySem.W.Frag) : Sp := fun vs H Q _ => ∃ (a : Addr) (feet : List Str), vs = [.ref a] ∧ SqT K H a (feet.map V.str) ∧ feet.length ≤ 1000 ∧ ∀ ft H', H ft = none → Same H H' → FeetAt H' ft feet → Q (.ref ft) H'
theorem ok_feet (B : Bi K mg) (F : FnP K "_feet_of" st_feet_of f fd) : FnOk P w K mg base CX0 1 f fd ["word"] (spFeet K) := by
  refine F.ok sc_feet_of (fun vs H Q E h => ?_) (fun cdv A outer s H vs Q E hr h => ?_)
  · obtain ⟨a, feet, rfl, _⟩ := h
    rfl
  · obtain ⟨a, feet, rfl, hS, hl, k⟩ := h
    have G := B
    refine ⟨_, PSs.nox ((pss_cons (ps_set (i := 1) sc_feet_of.nd rfl (Or.inl rfl) pe_dnewK)
      (pss_cons (ps_set (i := 2) sc_feet_of.nd rfl (Or.inl rfl) pe_dnewK)
      (pss_cons (ps_for PassesOwn.never rfl (pi_enumT (by rfl) G.enumerate (pa_cons (pv 0) pa_nil)) (pg_tup rfl (pgs_cons (pg_name (i := 3) sc_feet_of.nd rfl (Or.inl rfl)) (pgs_cons (pg_name (i := 4) sc_feet_of.nd rfl (Or.inl rfl)) pgs_nil)))
        (pss_one (ps_if (pt_cmp (pc_dnotin (hu_of hr) (pv 4) (pv 1)))
          (pss_cons (ps_dput (hu_of hr) (pv 1) (pv 4) (pv 3) rfl)
          (pss_one (ps_dput (hu_of hr) (pv 2) (pv 4) (pe_tup (pa_cons (pv 3) (pa_cons (pv 3) pa_nil))) rfl)))
          (pss_one (ps_dput (hu_of hr) (pv 2) (pv 4) (pe_tup (pa_cons (pe_dget (hu_of hr) (pv 1) (pv 4) (fun _ _ => rfl)) (pa_cons (pv 3) pa_nil))) rfl)))))
      (pss_one (ps_ret (pv 2))))))), ?_⟩
    try dsimp only [cxOf]
    walk_at "go"
    intro lf hlf
    walk_at "go"
    intro ft hft
    walk_at "go"
    have hlf0 : H ft = none := Same.free (Same.new hlf) hft
    have nft : lf ≠ ft := fun e => by rw [← e, upd_same] at hft; cases hft
    have hsz : feet.length < sizeLine := Nat.lt_of_le_of_lt hl (by decide)
    refine w_forE (xs := feet.map V.str) (Same.sqt (Same.trans (Same.new hlf) (Same.new hft)) hS) (fun i σ H' => Same H H' ∧ ∃ (Lf : List (Str × Nat)) (L : List (Str × Addr)) (u v : Option V), σ = [some (.ref a), some (.ref lf), some (.ref ft), u, v] ∧
      H' lf = some (.dK (dD (fun n : Nat => V.int (n : Nat)) Lf)) ∧ H' ft = some (.dK (dD V.ref L)) ∧ Lf.map (·.1) = bandsOf (feet.take i) ∧ L.map (·.1) = bandsOf (feet.take i) ∧
      (∀ n T, aGet L n = some T → ∃ p q : Nat, H' T = some (.tup [.int p, .int q]) ∧ PlOf (feet.take i) n p q ∧ aGet Lf n = some p))
      ⟨Same.trans (Same.new hlf) (Same.new hft), [], [], none, none, rfl, upd_old hft upd_same, upd_same, rfl, rfl, fun n T e => by cases e⟩ (fun i σ H' ⟨s, _⟩ => Same.sqt s hS) ?_ ?_
    · rintro i x σ H' T hi ⟨s', Lf, L, u, v, rfl, h1, h2, h3, h4, h5⟩ hT
      obtain ⟨n, rfl, hn⟩ := str_at hi
      have hil : i < feet.length := (List.getElem?_eq_some_iff.mp hn).1
      have hti : (feet.take i).length = i := by rw [List.length_take]; omega
      have nT1 : lf ≠ T := ne_of_none h1 hT
      have nT2 : ft ≠ T := ne_of_none h2 hT
      have lenL : L.length < sizeLine := by
        have := congrArg List.length h4
        rw [List.length_map] at this
        exact Nat.lt_of_le_of_lt (by rw [this]; exact bandsOf_len _) (by rw [hti]; omega)
      have lenLf : Lf.length < sizeLine := by
        have := congrArg List.length h3
        rw [List.length_map] at this
        exact Nat.lt_of_le_of_lt (by rw [this]; exact bandsOf_len _) (by rw [hti]; omega)
      have keys : ∀ {β : Type} (M : List (Str × β)) (y : β), M.map (·.1) = bandsOf (feet.take i) → (aPut M n y).map (·.1) = bandsOf (feet.take (i + 1)) := fun M y hM => by
        rw [keys_put, hM, take_snoc hn, bandsOf_snoc]
      walk_at "go"
      refine x_dniS (o := (aGet Lf n).map fun n : Nat => V.int (n : Nat)) (.inl (upd_old hT h1)) (valV_dD _ _ _) ?_
      rw [Option.isSome_map]
      walk_at "go"
      by_cases hmem : n ∈ feet.take i
      · have hk : n ∈ Lf.map (·.1) := by rw [h3, mem_bandsOf]; exact hmem
        obtain ⟨p0, hp0, _⟩ := aGet_of_mem hk
        obtain ⟨T0, hT0, _⟩ := aGet_of_mem (l := L) (k := n) (by rw [h4, mem_bandsOf]; exact hmem)
        obtain ⟨p1, q1, g1, g2, g3⟩ := h5 n T0 hT0
        rw [hp0]
        walk_at "go"
        refine x_dgetS (v := .int (p0 : Nat)) (.inl (upd_old hT h1)) (by rw [valV_dD, hp0]; rfl) ?_
        walk_at "go"
        refine ⟨by show 2 ≤ sizeLine; decide, fun T2 hT2 => ?_⟩
        walk_at "go"
        refine x_dputS (kvs := dD V.ref L) (upd_old hT2 (upd_old hT h2)) (by rw [dD_len]; exact lenL) ?_
        rw [putK_dD]
        have nT2' : T2 ≠ ft := Ne.symm (ne_of_none (upd_old hT h2) hT2)
        have nlT2 : lf ≠ T2 := ne_of_none (upd_old hT h1) hT2
        refine ⟨Same.mut (Same.trans s' (Same.trans (Same.new hT) (Same.new hT2))) hlf0, Lf, aPut L n T2, _, _, rfl, ?_, upd_same, ?_, keys L T2 h4, ?_⟩
        · rw [upd_ne nft]
          exact upd_old hT2 (upd_old hT h1)
        · rw [h3, take_snoc hn, bandsOf_snoc, if_pos ((mem_bandsOf _ _).mpr hmem)]
        · intro n' T' e'
          rw [aGet_put] at e'
          by_cases en : n' = n
          · rw [if_pos en] at e'
            cases e'
            subst en
            refine ⟨p1, i, ?_, ?_, g3⟩
            · rw [upd_ne nT2', upd_same]
              rw [hp0] at g3
              rw [Option.some.inj g3]
            · rw [take_snoc hn]
              have := g2.again
              rwa [hti] at this
          · rw [if_neg en] at e'
            obtain ⟨p2, q2, k1, k2, k3⟩ := h5 n' T' e'
            refine ⟨p2, q2, ?_, ?_, k3⟩
            · rw [upd_ne (ne_of_some k1 h2 (by intro z; cases z))]
              exact upd_old hT2 (upd_old hT k1)
            · rw [take_snoc hn]
              exact k2.snoc en
      · have hk : aGet Lf n = none := aGet_none (by rw [h3, mem_bandsOf]; exact hmem)
        rw [hk]
        walk_at "go"
        refine x_dputS (kvs := dD (fun n : Nat => V.int (n : Nat)) Lf) (upd_old hT h1) (by rw [dD_len]; exact lenLf) ?_
        rw [putK_dD (fun n : Nat => V.int (n : Nat)) Lf n i]
        walk_at "go"
        refine ⟨by show 2 ≤ sizeLine; decide, fun T2 hT2 => ?_⟩
        walk_at "go"
        have hT2' : H' T2 = none := by
          rw [upd_ne (fun e => by rw [e, upd_same] at hT2; cases hT2)] at hT2
          exact Same.free (Same.new hT) hT2
        have nT2' : T2 ≠ ft := Ne.symm (ne_of_none h2 hT2')
        have nlT2 : lf ≠ T2 := ne_of_none h1 hT2'
        refine x_dputS (kvs := dD V.ref L) (upd_old hT2 (upd_oth (Ne.symm nft) (upd_old hT h2))) (by rw [dD_len]; exact lenL) ?_
        rw [putK_dD]
        refine ⟨Same.mut (Same.trans (Same.mut (Same.trans s' (Same.new hT)) hlf) (Same.new hT2)) hlf0, aPut Lf n i, aPut L n T2, _, _, rfl, ?_, upd_same, keys Lf i h3, keys L T2 h4, ?_⟩
        · rw [upd_ne nft]
          exact upd_old hT2 upd_same
        · intro n' T' e'
          rw [aGet_put] at e' ⊢
          by_cases en : n' = n
          · rw [if_pos en] at e' ⊢
            cases e'
            subst en
            refine ⟨i, i, ?_, ?_, rfl⟩
            · rw [upd_ne nT2', upd_same]
            · rw [take_snoc hn]
              have := PlOf.new hmem
              rwa [hti] at this
          · rw [if_neg en] at e' ⊢
            obtain ⟨p2, q2, k1, k2, k3⟩ := h5 n' T' e'
            refine ⟨p2, q2, ?_, ?_, k3⟩
            · rw [upd_ne (ne_of_some k1 h2 (by intro z; cases z))]
              refine upd_old hT2 ?_
              rw [upd_ne (ne_of_some k1 h1 (by intro z; cases z))]
              exact upd_old hT k1
            · rw [take_snoc hn]
              exact k2.snoc en
    · rintro σ H' ⟨s', Lf, L, u, v, rfl, h1, h2, h3, h4, h5⟩
      rw [List.length_map, List.take_length] at h4 h5
      walk_at "go"
      refine k ft H' hlf0 s' ⟨L, h2, h4, fun p hp => ?_⟩
      have hnd : (L.map (·.1)).Nodup := by rw [h4]; exact nodup_bandsOf _
      obtain ⟨i, j, k1, k2, _⟩ := h5 p.1 p.2 (aGet_nodup hnd hp)
      exact ⟨i, j, k1, k2⟩
def spBook (K : PySem.W.Frag) : Sp := fun vs H Q _ => ∃ (a dx : Addr) (arm mod : Nat), vs = [.ref a, .int arm, .int mod] ∧ H a = some (.ins (He.ga K "Book") dx []) ∧ 1 ≤ arm ∧ arm ≤ 12 ∧ mod ≠ 1 ∧ mod ≤ 24 ∧ Q .non (upd H a (.ins (He.ga K "Book") dx [("arms", .int arm), ("modulus", .int mod)]))
theorem ok_book (B : Bi K mg) (c_is_number : C8.Cal P w K mg base 1 "is_number" spIsNum []) (F : FnM K "__init__" "Book.__init__" st_Book_init [.int 0] f fd) : FnOk P w K mg base CX0 2 f fd ["self", "arms", "modulus"] (spBook K) := by
  refine F.ok sc_Book_init (fun vs H Q E h => ?_) (fun cdv A outer s H vs Q E hr h => ?_)
  · obtain ⟨a, dx, arm, mod, rfl, _⟩ := h
    rfl
  · obtain ⟨a, dx, arm, mod, rfl, ha, h1, h2, h3, h4, k⟩ := h
    have G := B
    have cB := G.cls_Book
    have n1 := G.na_Book_arms
    have n2 := G.na_Book_modulus
    refine ⟨_, PSs.nox ((pss_cons (ps_if (PW.pt (pw_or (pt_not (pt_val (C8.pe_c c_is_number hr (by decide) rfl (pa_cons (pv 1) pa_nil)))) (pw_or1 (pt_cmpR op_lt (pv 1) pe_int (nomark _)))))
        (pss_one ps_never)
        pss_nil)
      (pss_cons (ps_if (PW.pt (pw_or (pt_not (pt_val (C8.pe_c c_is_number hr (by decide) rfl (pa_cons (pv 2) pa_nil)))) (pw_or (pt_cmpR op_lt (pv 2) pe_int (nomark _)) (pw_or1 (pt_cmpR op_eq (pv 2) pe_int (nomark _))))))
        (pss_one ps_never)
        pss_nil)
      (pss_cons (ps_if (pt_cmpR op_gt (pv 1) (C8.pe_gc rfl G.c_MOST_ARMS) (nomark _))
        (pss_one ps_never)
        pss_nil)
      (pss_cons (ps_if (pt_cmpR op_gt (pv 2) (C8.pe_gc rfl G.c_MOST_MODULUS) (nomark _))
        (pss_one ps_never)
        pss_nil)
      (pss_cons (ps_fld (pv 0) (pv 1) rfl)
      (pss_one (ps_fld (pv 0) (pv 2) rfl)))))))), ?_⟩
    try dsimp only [cxOf]
    walk_at "go"
    refine ⟨arm, rfl, ?_⟩
    walk_at "go"
    refine x_iteDF (by omega) ?_
    walk_at "go"
    refine ⟨mod, rfl, ?_⟩
    walk_at "go"
    refine x_iteDF (by omega) ?_
    walk_at "go"
    refine x_iteDF (by omega) ?_
    walk_at "go"
    refine x_iteDF (by omega) ?_
    walk_at "go"
    refine x_iteDF (by omega) ?_
    walk_at "go"
    refine x_sfldI (fs' := [("arms", .int arm)]) ha cB n1 rfl (by decide) ?_
    walk_at "go"
    refine x_sfldI (fs' := [("arms", .int arm), ("modulus", .int mod)]) upd_same cB n2 rfl (by show 1 < 1000; decide) ?_
    rw [upd_upd]
    exact k
/-- a sheet of the program: its book's numbers, its word, what it tells of its bands -/
structure SheetAt (K : PySem.W.Frag) (H : Hp) (a : Addr) (arm mod : Nat) (feet : List Str) (told : List (Str × Int)) : Prop where
  ex : ∃ dx bk wd ft bs td : Addr, H a = some (.ins (He.ga K "Sheet") dx [("book", .ref bk), ("word", .ref wd), ("_feet", .ref ft), ("bands", .ref bs), ("_told", .ref td)]) ∧ BookAt K H bk arm mod ∧ SqT K H wd (feet.map V.str) ∧ FeetAt H ft feet ∧
    SqT K H bs ((bandsOf feet).map V.str) ∧ H td = some (.dK (dD V.int told))
  tk : told.map (·.1) = bandsOf feet
theorem FeetAt.same {H H' : Hp} {ft : Addr} {feet : List Str} (h : FeetAt H ft feet) (s : Same H H') : FeetAt H' ft feet := by
  obtain ⟨L, h1, h2, h3⟩ := h
  exact ⟨L, s _ _ h1, h2, fun p hp => let ⟨i, j, e1, e2⟩ := h3 p hp; ⟨i, j, s _ _ e1, e2⟩⟩
theorem SheetAt.same {H H' : Hp} {a : Addr} {arm mod : Nat} {feet : List Str} {told : List (Str × Int)} (h : SheetAt K H a arm mod feet told) (s : Same H H') : SheetAt K H' a arm mod feet told := by
  obtain ⟨dx, bk, wd, ft, bs, td, h1, h2, h3, h4, h5, h6⟩ := h.ex
  exact ⟨⟨dx, bk, wd, ft, bs, td, s _ _ h1, h2.same s, Same.sqt s h3, h4.same s, Same.sqt s h5, s _ _ h6⟩, h.tk⟩
theorem toldOf_keys (mod : Nat) (bs : List Str) (nums : List (Str × Int)) : (toldOf mod bs nums).map (·.1) = bs := by
  unfold toldOf
  rw [List.map_map]
  exact (List.map_congr_left fun _ _ => rfl).trans (List.map_id bs)
def spNumbers (K : PySem.W.Frag) : Sp := fun vs H Q _ => ∃ (a : Addr) (arm mod : Nat) (feet : List Str) (told : List (Str × Int)), vs = [.ref a] ∧ SheetAt K H a arm mod feet told ∧ feet.length ≤ 1000 ∧ ∀ p H', H p = none → Same H H' → H' p = some (.dK (dD V.int told)) → Q (.ref p) H'
theorem told_snoc {told : List (Str × Int)} {bands : List Str} (h : told.map (·.1) = bands) (hn : bands.Nodup) {i : Nat} {b : Str} (hb : bands[i]? = some b) : ∃ z, told[i]? = some (b, z) ∧ aGet told b = some z ∧ aPut (told.take i) b z = told.take (i + 1) := by
  rw [← h, List.getElem?_map] at hb
  obtain ⟨p, hp, e⟩ := Option.map_eq_some_iff.mp hb
  have e' : p.1 = b := e
  obtain ⟨p1, z⟩ := p
  have e'' : p1 = b := e'
  subst e''
  refine ⟨z, hp, aGet_nodup (p := (p1, z)) (by rw [h]; exact hn) (List.mem_of_getElem? hp), ?_⟩
  rw [take_snoc hp]
  unfold aPut
  rw [if_neg]
  intro q
  have hm := any_keys.mp q
  rw [List.map_take, h] at hm
  obtain ⟨j, hj⟩ := List.getElem?_of_mem hm
  rw [List.getElem?_take] at hj
  split at hj
  · rename_i hji
    have hb2 : bands[i]? = some p1 := by rw [← h, List.getElem?_map, hp]; rfl
    have := nodup_inj hn hj hb2
    omega
  · cases hj
theorem ok_numbers (B : Bi K mg) (F : FnM K "numbers" "Sheet.numbers" st_Sheet_numbers [] f fd) : FnOk P w K mg base CX0 1 f fd ["self"] (spNumbers K) := by
  refine F.ok sc_Sheet_numbers (fun vs H Q E h => ?_) (fun cdv A outer s H vs Q E hr h => ?_)
  · obtain ⟨a, arm, mod, feet, told, rfl, _⟩ := h
    rfl
  · obtain ⟨a, arm, mod, feet, told, rfl, hS, hl, k⟩ := h
    have G := B
    have cS := G.cls_Sheet
    have n5 := G.na_Sheet__told
    have n4 := G.na_Sheet_bands
    obtain ⟨dx, bk, wd, ft, bs, td, h1, h2, h3, h4, h5, h6⟩ := hS.ex
    refine ⟨_, PSs.nox ((pss_one (ps_ret (pe_dc (own := [("band", 1)]) rfl sc_Sheet_numbers.nd (pi_tup (pe_fld (pv 0) (by rfl))) (blkOk_by (own := [("band", 1)]) (N := ["self", "band"]) (sc := defScope st_Sheet_numbers) (by decide +kernel)) (fun _ _ _ _ _ => (pg_name (i := 1) sc_Sheet_numbers.nd rfl (Or.inl rfl))) (fun _ _ _ _ _ => pts_nil) (fun _ _ _ _ _ => (pv 1)) (fun _ _ _ _ _ => (pe_dget (hu_of hr) (pe_fldK (K := K) rfl (pv 0) (by rfl)) (pv 1) (fun _ _ => rfl))))))), ?_⟩
    try dsimp only [cxOf]
    walk_at "go"
    refine w_dcT (xs := (bandsOf feet).map V.str) h5 (by rw [List.length_map]; exact Nat.lt_of_le_of_lt (bandsOf_len _) (Nat.lt_of_le_of_lt hl (by decide))) (fun i acc => acc = dD V.int (told.take i)) rfl ?_ ?_
    · rintro i x H' acc hi s' rfl hai R S hR _
      obtain ⟨b, rfl, hb⟩ := str_at hi
      obtain ⟨z, hz1, hz2, hz3⟩ := told_snoc hS.tk (nodup_bandsOf feet) hb
      walk_at "go"
      refine ⟨rfl, ?_⟩
      walk_at "go"
      refine x_dgetS (v := .int z) (.inl (s' _ _ h6)) (by rw [valV_dD, hz2]; rfl) ?_
      show R (kV (.inr b)) _ _
      refine hR _ _ _ (Same.refl _) ?_
      rw [putK_dD, hz3]
    · rintro p H' acc hp s' hp' rfl
      rw [List.take_of_length_le (by rw [List.length_map, ← hS.tk, List.length_map]; exact Nat.le_refl _)] at hp'
      exact k p H' hp s' hp'
/-! ### sheets whose word's tuple is known to have no dict -/
def WordF (K : PySem.W.Frag) (H : Hp) (a : Addr) (feet : List Str) : Prop := ∃ (dx bk wd ft bs td : Addr) (o : Obj), H a = some (.ins (He.ga K "Sheet") dx [("book", .ref bk), ("word", .ref wd), ("_feet", .ref ft), ("bands", .ref bs), ("_told", .ref td)]) ∧ H wd = some (.frz o (.tup (feet.map V.str))) ∧ o.dict = none
theorem WordF.same {H H' : Hp} {a : Addr} {feet : List Str} (h : WordF K H a feet) (s : Same H H') : WordF K H' a feet := by
  obtain ⟨dx, bk, wd, ft, bs, td, o, h1, h2, h3⟩ := h
  exact ⟨dx, bk, wd, ft, bs, td, o, s _ _ h1, s _ _ h2, h3⟩
def spSheetF (K : PySem.W.Frag) : Sp := fun vs H Q _ => ∃ (a dx bk wd : Addr) (n : V) (arm mod : Nat) (feet : List Str) (nums : List (Str × Int)), vs = [.ref a, .ref bk, .ref wd, n] ∧ H a = some (.ins (He.ga K "Sheet") dx []) ∧ BookAt K H bk arm mod ∧ mod ≤ 24 ∧ SqL K H wd (feet.map V.str) ∧ IsWord feet ∧ feet.length ≤ 1000 ∧
  ((n = .non ∧ nums = []) ∨ ∃ nd, n = .ref nd ∧ H nd = some (.dK (dD V.int nums))) ∧ (∀ p ∈ nums, p.1 ∈ feet) ∧ ∀ H', Kp a H H' → SheetAt K H' a arm mod feet (toldOf mod (bandsOf feet) nums) → WordF K H' a feet → Q .non H'
theorem ok_sheetF (B : Bi K mg) (c_is_word : C8.Cal P w K mg base 2 "is_word" (spIsWord K) []) (c_feet_of : C8.Cal P w K mg base 1 "_feet_of" (spFeet K) []) (c_reduced : C8.Cal P w K mg base 1 "reduced" (spReduced K) [])
    (F : FnM K "__init__" "Sheet.__init__" st_Sheet_init [.non] f fd) : FnOk P w K mg base CX0 3 f fd ["self", "book", "word", "numbers"] (spSheetF K) := by
  refine F.ok sc_Sheet_init (fun vs H Q E h => ?_) (fun cdv A outer s H vs Q E hr h => ?_)
  · obtain ⟨a, dx, bk, wd, n, arm, mod, feet, nums, rfl, _⟩ := h
    rfl
  · obtain ⟨a, dx, bk, wd, n, arm, mod, feet, nums, rfl, ha, hbk, hm, hwd, hW, hl, hn, hnf, k⟩ := h
    have G := B
    have cB := G.cls_Sheet
    have n1 := G.na_Sheet_book
    have n2 := G.na_Sheet_word
    have n3 := G.na_Sheet__feet
    have n4 := G.na_Sheet_bands
    have n5 := G.na_Sheet__told
    refine ⟨_, PSs.nox ((C8.pss_cut (ps_set (i := 4) sc_Sheet_init.nd rfl (Or.inr rfl) (pe_ifExp (pt_cmpR op_isNn (pv 3) pe_non (nomark _)) pe_dnewK (pv 3)))
      (pss_cons (ps_if (pt_not (pt_val (C8.pe_c c_is_word hr (by decide) rfl (pa_cons (pv 2) pa_nil))))
        (pss_one ps_never)
        pss_nil)
      (pss_cons (ps_fld (pv 0) (pv 1) rfl)
      (C8.pss_cut (ps_fld (pv 0) (pe_callTy call_tupF (by rfl) G.tuple (by decide +kernel) (pa_cons (pv 2) pa_nil)) rfl)
      (pss_cons (ps_fld (pv 0) (C8.pe_c c_feet_of hr (by decide) rfl (pa_cons (pe_fld (pv 0) (by rfl)) pa_nil)) rfl)
      (pss_cons (ps_fld (pv 0) (pe_callTy (call_tupOf rfl) (by rfl) G.tuple (by decide +kernel) (pa_cons (pe_fld (pv 0) (by rfl)) pa_nil)) rfl)
      (pss_cons (ps_lock (ps_for PassesOwn.never rfl (pi_keys (pv 4)) (pg_name (i := 5) sc_Sheet_init.nd rfl (Or.inl rfl))
        (pss_one (ps_if (pt_cmp (pc_dnotin (hu_of hr) (pv 5) (pe_fld (pv 0) (by rfl))))
          (pss_one ps_never)
          pss_nil))))
      (pss_one (ps_fld (pv 0) (pe_dc (own := [("band", 5)]) rfl sc_Sheet_init.nd (pi_tup (pe_fld (pv 0) (by rfl))) (blkOk_by (own := [("band", 5)]) (N := ["self", "book", "word", "numbers", "told", "band"]) (sc := defScope st_Sheet_init) (by decide +kernel)) (fun _ _ _ _ _ => (pg_name (i := 5) sc_Sheet_init.nd rfl (Or.inl rfl))) (fun _ _ _ _ _ => pts_nil) (fun _ _ _ _ _ => (pv 5)) (fun _ _ _ _ _ => (C8.pe_c c_reduced hr (by decide) rfl (pa_cons (pv 1) (pa_cons (pe_dget2 (hu_of hr) (pv 4) (pv 5) pe_int ⟨rfl, rfl, rfl, rfl⟩) pa_nil))))) rfl)))))))))), ?_⟩
    try dsimp only [cxOf]
    refine x_cut (fun σ H1 => ∃ (nd : Addr) (u : Option V), σ = [some (.ref a), some (.ref bk), some (.ref wd), some n, some (.ref nd), u] ∧ Same H H1 ∧ H1 nd = some (.dK (dD V.int nums))) ?_ ?_
    · rcases hn with ⟨rfl, rfl⟩ | ⟨nd, rfl, hnd⟩
      · walk_at "go"
        rw [decide_eq_true rfl]
        walk_at "go"
        intro p hp
        exact ⟨p, none, rfl, Same.new hp, upd_same⟩
      · walk_at "go"
        rw [decide_eq_false (fun z => by cases z)]
        walk_at "go"
        exact ⟨nd, none, rfl, Same.refl _, hnd⟩
    · rintro σ H1 ⟨nd, u, rfl, s1, hnd⟩
      walk_at "go"
      refine ⟨wd, feet, rfl, SqA.same (.inl hwd) s1, hW, hl, fun H2 s2 => ?_⟩
      have s12 := Same.trans s1 s2
      have ha2 := s12 _ _ ha
      walk_at "go"
      refine x_sfldI (fs' := [("book", .ref bk)]) ha2 cB n1 rfl (by decide) ?_
      have k3 : Kp a H (upd H2 a (.ins (He.ga K "Sheet") dx [("book", .ref bk)])) := Kp.upd (Kp.of s12)
      have nda : nd ≠ a := ne_of_some (s2 _ _ hnd) ha2 (by intro z; cases z)
      obtain ⟨dxb, hbk'⟩ := hbk
      have bka : bk ≠ a := ne_of_some hbk' ha (by intro z; injection z with _ _ z3; cases z3)
      refine x_cut (fun σ H3 => ∃ (w2 : Addr), σ = [some (.ref a), some (.ref bk), some (.ref wd), some n, some (.ref nd), u] ∧ Kp a H H3 ∧ H3 nd = some (.dK (dD V.int nums)) ∧ H3 a = some (.ins (He.ga K "Sheet") dx [("book", .ref bk), ("word", .ref w2)]) ∧ ∃ ob : Obj, H3 w2 = some (.frz ob (.tup (feet.map V.str))) ∧ ob.dict = none) ?_ ?_
      · walk_at "go"
        refine ⟨wd, _, rfl, Kp.sql_i k3 ha hwd, fun q ob hq hob => ?_⟩
        walk_at "go"
        refine x_sfldI (fs' := [("book", .ref bk), ("word", .ref q)]) (upd_old hq upd_same) cB n2 rfl (by show 1 < 1000; decide) ?_
        have qa : q ≠ a := fun e => by rw [e, upd_same] at hq; cases hq
        refine ⟨q, rfl, Kp.upd (Kp.trans k3 (Kp.of (Same.new hq))), ?_, upd_same, ob, ?_, hob⟩
        · rw [upd_ne nda]
          exact upd_old hq (by rw [upd_ne nda]; exact s2 _ _ hnd)
        · rw [upd_ne qa, upd_same]
      · rintro σ H3 ⟨w2, rfl, k3, hnd3, ha3, ob, hw0, hob⟩
        have hw3 : SqT K H3 w2 (feet.map V.str) := .inl (.inr ⟨ob, hw0⟩)
        have w2a : w2 ≠ a := ne_of_some hw0 ha3 (by intro z; cases z)
        walk_at "go"
        refine ⟨w2, feet, rfl, hw3, hl, fun ft H4 hft s4 hF => ?_⟩
        have ha4 := s4 _ _ ha3
        have fta : ft ≠ a := Ne.symm (ne_of_none ha3 hft)
        walk_at "go"
        refine x_sfldI (fs' := [("book", .ref bk), ("word", .ref w2), ("_feet", .ref ft)]) ha4 cB n3 rfl (by show 2 < 1000; decide) ?_
        have k5 := Kp.upd (o := .ins (He.ga K "Sheet") dx [("book", .ref bk), ("word", .ref w2), ("_feet", .ref ft)]) (Kp.trans k3 (Kp.of s4))
        obtain ⟨L, hL, hLk, hLp⟩ := hF
        walk_at "go"
        refine x_tupD (kvs := dD V.ref L) (by rw [upd_ne fta]; exact hL) fun bs hbs => ?_
        have eb : (dD V.ref L).map (fun kv => kV kv.1) = (bandsOf feet).map V.str := by
          rw [← hLk]
          unfold dD
          rw [List.map_map, List.map_map]
          rfl
        rw [eb]
        have bsa : bs ≠ a := fun e => by rw [e, upd_same] at hbs; cases hbs
        walk_at "go"
        refine x_sfldI (fs' := [("book", .ref bk), ("word", .ref w2), ("_feet", .ref ft), ("bands", .ref bs)]) (upd_old hbs upd_same) cB n4 rfl (by show 3 < 1000; decide) ?_
        have k6 := Kp.upd (o := .ins (He.ga K "Sheet") dx [("book", .ref bk), ("word", .ref w2), ("_feet", .ref ft), ("bands", .ref bs)]) (Kp.trans k5 (Kp.of (Same.new (o := .tup ((bandsOf feet).map V.str)) hbs)))
        have hbs0 : H4 bs = none := by rw [upd_ne bsa] at hbs; exact hbs
        have k46 : Kp a H4 (upd (upd (upd H4 a (.ins (He.ga K "Sheet") dx [("book", .ref bk), ("word", .ref w2), ("_feet", .ref ft)])) bs (.tup ((bandsOf feet).map V.str))) a (.ins (He.ga K "Sheet") dx [("book", .ref bk), ("word", .ref w2), ("_feet", .ref ft), ("bands", .ref bs)])) := Kp.upd (Kp.trans (Kp.upd Kp.refl) (Kp.of (Same.new hbs)))
        have hbs6 : (upd (upd (upd H4 a (.ins (He.ga K "Sheet") dx [("book", .ref bk), ("word", .ref w2), ("_feet", .ref ft)])) bs (.tup ((bandsOf feet).map V.str))) a (.ins (He.ga K "Sheet") dx [("book", .ref bk), ("word", .ref w2), ("_feet", .ref ft), ("bands", .ref bs)])) bs = some (.tup ((bandsOf feet).map V.str)) := by rw [upd_ne bsa, upd_same]
        have ha6 : (upd (upd (upd H4 a (.ins (He.ga K "Sheet") dx [("book", .ref bk), ("word", .ref w2), ("_feet", .ref ft)])) bs (.tup ((bandsOf feet).map V.str))) a (.ins (He.ga K "Sheet") dx [("book", .ref bk), ("word", .ref w2), ("_feet", .ref ft), ("bands", .ref bs)])) a = some (.ins (He.ga K "Sheet") dx [("book", .ref bk), ("word", .ref w2), ("_feet", .ref ft), ("bands", .ref bs)]) := upd_same
        revert k6 k46 hbs6 ha6
        generalize (upd (upd (upd H4 a (.ins (He.ga K "Sheet") dx [("book", .ref bk), ("word", .ref w2), ("_feet", .ref ft)])) bs (.tup ((bandsOf feet).map V.str))) a (.ins (He.ga K "Sheet") dx [("book", .ref bk), ("word", .ref w2), ("_feet", .ref ft), ("bands", .ref bs)])) = H6
        intro k6 k46 hbs6 ha6
        have nft : ∀ {x : Addr} {u : HO}, H4 x = some u → x ≠ a → H6 x = some u := fun h n => k46 _ _ n h
        have hL6 : H6 ft = some (.dK (dD V.ref L)) := nft hL fta
        have hF6 : FeetAt H6 ft feet := ⟨L, hL6, hLk, fun p hp => let ⟨i, j, e1, e2⟩ := hLp p hp; ⟨i, j, nft e1 (ne_of_some e1 ha4 (by intro z; cases z)), e2⟩⟩
        have hnd6 : H6 nd = some (.dK (dD V.int nums)) := nft (s4 _ _ hnd3) nda
        have hw60 : H6 w2 = some (.frz ob (.tup (feet.map V.str))) := k46 _ _ w2a (s4 _ _ hw0)
        have hw6 : SqT K H6 w2 (feet.map V.str) := Kp.sqt_i k46 ha4 (Same.sqt s4 hw3)
        have hbk6 : H6 bk = some (.ins (He.ga K "Book") dxb [("arms", .int arm), ("modulus", .int mod)]) := k6 _ _ bka hbk'
        refine w_lockForK (d := nd) (kvs := dD V.int nums) hnd6 (fun od => ?_) (fun H R R' h z => ?_) (fun od i σ H' => H' = upd H6 nd (.frz od (.dK (dD V.int nums))) ∧ ∃ u : Option V, σ = [some (.ref a), some (.ref bk), some (.ref wd), some n, some (.ref nd), u]) (fun od => ⟨rfl, u, rfl⟩) (fun od i σ H' ⟨e, _⟩ => by rw [e]; exact upd_same) ?_ ?_
        · walk_at "go"
          exact ⟨rfl, rfl⟩
        · obtain ⟨v, e, q⟩ := z
          exact ⟨v, e, h _ _ q⟩
        · rintro od i kk v σ H' hi ⟨rfl, u, rfl⟩
          have hi' : (nums.map fun p => ((.inr p.1, V.int p.2) : Key × V))[i]? = some (kk, v) := hi
          rw [List.getElem?_map] at hi'
          obtain ⟨p, hp, e⟩ := Option.map_eq_some_iff.mp hi'
          cases e
          have hpf := hnf p (List.mem_of_getElem? hp)
          have nan : a ≠ nd := Ne.symm nda
          have nfn : ft ≠ nd := fun e => by
            rw [e] at hft
            rw [hnd3] at hft
            cases hft
          show gName _ (.str p.1) _ _ _
          walk_at "go"
          obtain ⟨T, hT, _⟩ := aGet_of_mem (l := L) (k := p.1) (by rw [hLk, mem_bandsOf]; exact hpf)
          refine x_dniS (o := some (.ref T)) (.inl (upd_oth nfn hL6)) (by rw [valV_dD, hT]; rfl) ?_
          walk_at "go"
          exact ⟨rfl, _, rfl⟩
        · rintro od σ H' ⟨rfl, u, rfl⟩
          have eu : upd (upd H6 nd (.frz od (.dK (dD V.int nums)))) nd (.dK (dD V.int nums)) = H6 := by
            rw [upd_upd]
            funext x
            by_cases e : x = nd
            · rw [e, upd_same, hnd6]
            · rw [upd_ne e]
          rw [eu]
          walk_at "go"
          refine w_dcT (xs := (bandsOf feet).map V.str) (SqT.of hbs6) (by rw [List.length_map]; exact Nat.lt_of_le_of_lt (bandsOf_len _) (Nat.lt_of_le_of_lt hl (by decide))) (fun i acc => acc = dD V.int ((toldOf mod (bandsOf feet) nums).take i)) rfl ?_ ?_
          · rintro i x H' acc hi s' rfl hai R S hR _
            obtain ⟨b, rfl, hb⟩ := str_at hi
            walk_at "go"
            refine ⟨rfl, ?_⟩
            walk_at "go"
            refine x_dg2 (.inl (s' _ _ hnd6)) ?_
            walk_at "go"
            refine x_dg2S (.inl (s' _ _ hnd6)) ?_
            rw [valV_dD]
            have e1 : (((aGet nums b).map V.int).getD (.int 0)) = V.int ((aGet nums b).getD 0) := by
              cases aGet nums b <;> rfl
            rw [e1]
            walk_at "go"
            refine ⟨bk, arm, mod, _, rfl, ⟨dxb, s' _ _ hbk6⟩, hm, ?_⟩
            show R (kV (.inr b)) _ _
            refine hR _ _ _ (Same.refl _) ?_
            have ht : (toldOf mod (bandsOf feet) nums)[i]? = some (b, redN mod ((aGet nums b).getD 0)) := by
              unfold toldOf
              rw [List.getElem?_map, hb]
              rfl
            rw [take_snoc ht]
            have hnew : b ∉ ((toldOf mod (bandsOf feet) nums).take i).map (·.1) := by
              rw [List.map_take, toldOf_keys]
              intro hm'
              obtain ⟨j, hj⟩ := List.getElem?_of_mem hm'
              rw [List.getElem?_take] at hj
              split at hj
              · rename_i hji
                have := nodup_inj (nodup_bandsOf feet) hj hb
                omega
              · cases hj
            rw [putK_dD]
            unfold aPut
            rw [if_neg (fun q => hnew (any_keys.mp q))]
          · rintro p H' acc hp s' hp' rfl
            have pa : p ≠ a := Ne.symm (ne_of_none ha6 hp)
            walk_at "go"
            refine x_sfldI (fs' := [("book", .ref bk), ("word", .ref w2), ("_feet", .ref ft), ("bands", .ref bs), ("_told", .ref p)]) (s' _ _ ha6) cB n5 rfl (by show 4 < 1000; decide) ?_
            have el : (toldOf mod (bandsOf feet) nums).take ((bandsOf feet).map V.str).length = toldOf mod (bandsOf feet) nums := List.take_of_length_le (by unfold toldOf; rw [List.length_map, List.length_map]; exact Nat.le_refl _)
            rw [el] at hp'
            have kk : Kp a H6 (upd H' a (.ins (He.ga K "Sheet") dx [("book", .ref bk), ("word", .ref w2), ("_feet", .ref ft), ("bands", .ref bs), ("_told", .ref p)])) := Kp.upd (Kp.of s')
            refine k _ (Kp.trans k6 kk) ⟨⟨dx, bk, w2, ft, bs, p, upd_same, ⟨dxb, kk _ _ bka hbk6⟩, Kp.sqt_i kk ha6 hw6, ?_, SqT.of (kk _ _ bsa hbs6), ?_⟩, toldOf_keys _ _ _⟩ ⟨dx, bk, w2, ft, bs, p, ob, upd_same, kk _ _ w2a hw60, hob⟩
            · obtain ⟨L, g1, g2, g3⟩ := hF6
              exact ⟨L, kk _ _ fta g1, g2, fun q hq => let ⟨i, j, e1, e2⟩ := g3 q hq; ⟨i, j, kk _ _ (ne_of_some e1 ha6 (by intro z; cases z)) e1, e2⟩⟩
            · rw [upd_ne pa]
              exact hp'
def spRed : Sp := fun vs H Q _ => ∃ (mod : Nat) (n : Int), vs = [.int mod, .int n] ∧ mod ≤ 1000 ∧ Q (.int (redN mod n)) H
theorem ok_red (B : Bi K mg) (F : FnP K "_law_red" st_l_red f fd) : FnOk P w K mg base CX0 1 f fd ["mod", "num"] spRed := by
  refine F.ok sc_l_red (fun vs H Q E h => ?_) (fun cdv A outer s H vs Q E hr h => ?_)
  · obtain ⟨i, j, rfl, _⟩ := h
    rfl
  · obtain ⟨mod, n, rfl, hm, k⟩ := h
    have G := B
    refine ⟨_, PSs.nox ((pss_one (ps_ret (pe_ifExp (pt_cmpR op_gt (pv 0) pe_int (nomark _)) (pe_op op_mod (pe_callTy call_intI (by rfl) G.int (by decide +kernel) (pa_cons (pv 1) pa_nil)) (pv 0)) (pv 1))))), ?_⟩
    try dsimp only [cxOf]
    unfold redN at k
    walk_at "go"
    refine x_iteD (fun h => ?_) (fun h => ?_)
    · rw [if_neg (by omega)] at k
      walk_at "go"
      exact k
    · rw [if_pos (by omega)] at k
      walk_at "go"
      exact k
def spLDiv (K : PySem.W.Frag) : Sp := fun vs H Q _ => ∃ (p : Addr) (ns : List Int), vs = [.ref p] ∧ SqL K H p (ns.map V.int) ∧ (∀ z ∈ ns, z.natAbs ≤ 1267650600228229401496703205376) ∧ Q (.int (gcdZ ns : Nat)) H
theorem gcdZ_le {ns : List Int} {b : Nat} (h : ∀ z ∈ ns, z.natAbs ≤ b) : gcdZ ns ≤ b := by
  have key : ∀ (ns : List Int) (g : Nat), g ≤ b → (∀ z ∈ ns, z.natAbs ≤ b) → ns.foldl (fun g z => Nat.gcd g z.natAbs) g ≤ b := by
    intro ns
    induction ns with
    | nil => intro g hg _; exact hg
    | cons z ns ih =>
      intro g hg hz
      refine ih _ ?_ (fun y hy => hz y (List.mem_cons_of_mem _ hy))
      rcases Nat.eq_zero_or_pos g with e | e
      · rw [e]
        show Nat.gcd 0 z.natAbs ≤ b
        rw [Nat.gcd_zero_left]
        exact hz z (List.mem_cons_self ..)
      · exact Nat.le_trans (Nat.gcd_le_left _ e) hg
  exact key ns 0 (Nat.zero_le _) h
/-- one turn of Euclid -/
theorem euclid_step {o t n i : Nat} (ht : 0 < t) (h : i = 0 ∧ o * t ≤ n ∨ (1 ≤ i ∧ t < o ∧ o * t * 2 ^ (i - 1) ≤ n)) (ho : i = 0 → o * t ≤ n) : o % t < t ∧ t * (o % t) * 2 ^ i ≤ n := by
  have h1 : o % t < t := Nat.mod_lt _ ht
  refine ⟨h1, ?_⟩
  rcases h with ⟨rfl, h2⟩ | ⟨hi, hlt, h3⟩
  · rw [Nat.pow_zero, Nat.mul_one]
    refine Nat.le_trans ?_ h2
    rw [Nat.mul_comm t]
    exact Nat.mul_le_mul_right t (Nat.mod_le o t)
  · have hq : 1 ≤ o / t := (Nat.le_div_iff_mul_le ht).mpr (by omega)
    have hd := Nat.div_add_mod o t
    have h4 : t + o % t ≤ o := by
      have : t * 1 ≤ t * (o / t) := Nat.mul_le_mul_left t hq
      omega
    have h5 : t * (o % t) * 2 ≤ o * t := by
      have : t * (o % t * 2) ≤ t * o := Nat.mul_le_mul_left t (by omega)
      rw [Nat.mul_assoc, Nat.mul_comm o t]
      exact this
    obtain ⟨m, rfl⟩ : ∃ m, i = m + 1 := ⟨i - 1, by omega⟩
    rw [Nat.add_sub_cancel] at h3
    calc t * (o % t) * 2 ^ (m + 1) = t * (o % t) * 2 * 2 ^ m := by rw [Nat.pow_succ, Nat.mul_comm (2 ^ m) 2, ← Nat.mul_assoc]
      _ ≤ o * t * 2 ^ m := Nat.mul_le_mul_right _ h5
      _ ≤ n := h3
theorem ok_ldiv (B : Bi K mg) (F : FnP K "_law_divisor" st_l_divisor f fd) : FnOk P w K mg base CX0 1 f fd ["nums"] (spLDiv K) := by
  refine F.ok sc_l_divisor (fun vs H Q E h => ?_) (fun cdv A outer s H vs Q E hr h => ?_)
  · obtain ⟨p, ns, rfl, _⟩ := h
    rfl
  · obtain ⟨p, ns, rfl, hS, hb, k⟩ := h
    have G := B
    refine ⟨_, PSs.nox ((pss_cons (ps_set (i := 1) sc_l_divisor.nd rfl (Or.inl rfl) pe_int)
      (pss_cons (ps_for PassesOwn.never rfl (pi_list (pv 0)) (pg_name (i := 2) sc_l_divisor.nd rfl (Or.inl rfl))
        (pss_cons (ps_set (i := 3) sc_l_divisor.nd rfl (Or.inl rfl) (pv 1))
        (pss_cons (ps_set (i := 4) sc_l_divisor.nd rfl (Or.inl rfl) (pe_callB callAbs (by rfl) G.abs (by decide +kernel) (pa_cons (pv 2) pa_nil)))
        (pss_cons (ps_for PassesOwn.never rfl (pi_range1 (by rfl) G.range (pa_cons pe_int pa_nil)) (pg_name (i := 5) sc_l_divisor.nd rfl (Or.inl rfl))
          (pss_cons (ps_if (pt_cmpR op_eq (pv 4) pe_int (nomark _))
            (pss_one ps_break)
            pss_nil)
          (pss_cons (ps_set (i := 6) sc_l_divisor.nd rfl (Or.inl rfl) (pe_op op_mod (pe_callTy call_intI (by rfl) G.int (by decide +kernel) (pa_cons (pv 3) pa_nil)) (pv 4)))
          (pss_cons (ps_set (i := 3) sc_l_divisor.nd rfl (Or.inl rfl) (pv 4))
          (pss_one (ps_set (i := 4) sc_l_divisor.nd rfl (Or.inl rfl) (pv 6)))))))
        (pss_one (ps_set (i := 1) sc_l_divisor.nd rfl (Or.inl rfl) (pv 3)))))))
      (pss_one (ps_ret (pv 1)))))), ?_⟩
    try dsimp only [cxOf]
    walk_at "go"
    refine w_forL hS (fun i σ H' => H' = H ∧ ∃ u v z t r : Option V, σ = [some (.ref p), some (.int (gcdZ (ns.take i) : Nat)), u, v, z, t, r]) ⟨rfl, none, none, none, none, none, rfl⟩ (fun i σ H' _ ⟨e, _⟩ => by rw [e]; exact hS) ?_ ?_
    · rintro i y σ H' hi ⟨rfl, u, v, z, t, r, rfl⟩
      obtain ⟨a, rfl, ha⟩ := int_at hi
      have eab : (if a < 0 then -a else a) = (a.natAbs : Int) := by
        by_cases h : a < 0
        · rw [if_pos h]; omega
        · rw [if_neg h]; omega
      have hg : gcdZ (ns.take i) ≤ 1267650600228229401496703205376 := gcdZ_le fun z hz => hb z (List.mem_of_mem_take hz)
      have hab : a.natAbs ≤ 1267650600228229401496703205376 := hb a (List.mem_of_getElem? ha)
      rw [gcdZ_take ha]
      generalize gcdZ (ns.take i) = g at hg ⊢
      generalize hn : a.natAbs = m at *
      have hN : g * m ≤ 1267650600228229401496703205376 * 1267650600228229401496703205376 := Nat.mul_le_mul hg hab
      walk_at "go"
      rw [eab]
      walk_at "go"
      refine w_forR1 (by decide) (by decide) (fun j σ H'' => H'' = H' ∧ ∃ (o t : Nat) (u v : Option V), σ = [some (.ref p), some (.int (g : Nat)), some (.int a), some (.int (o : Nat)), some (.int (t : Nat)), u, v] ∧ Nat.gcd o t = Nat.gcd g m ∧ (j = 0 ∧ o * t ≤ g * m ∨ (1 ≤ j ∧ t < o ∧ o * t * 2 ^ (j - 1) ≤ g * m)))
        ⟨rfl, g, m, _, _, rfl, rfl, .inl ⟨rfl, Nat.le_refl _⟩⟩ ?_ ?_
      · rintro j σ H'' hj ⟨rfl, o, t, u, v, rfl, hgd, hinv⟩
        walk_at "go"
        refine x_iteD (fun ht => ?_) (fun ht => ?_)
        · have ht : t = 0 := by omega
          subst ht
          rw [Nat.gcd_zero_right] at hgd
          rw [hgd]
          walk_at "go"
          exact ⟨rfl, _, _, _, _, _, rfl⟩
        · have ht : 0 < t := by omega
          obtain ⟨h1, h2⟩ := euclid_step ht hinv (fun e => by rcases hinv with ⟨_, h⟩ | ⟨h, _⟩; exact h; omega)
          walk_at "go"
          have e1 : (o : Int) % (t : Int) = ((o % t : Nat) : Int) := rfl
          rw [e1]
          refine ⟨rfl, t, o % t, _, _, rfl, ?_, .inr ⟨by omega, h1, by rw [Nat.add_sub_cancel]; exact h2⟩⟩
          rw [← hgd, Nat.gcd_comm o t, Nat.gcd_rec t o, Nat.gcd_comm]
      · rintro σ H'' ⟨rfl, o, t, u, v, rfl, hgd, hinv⟩
        have e900 : ((900 : Int).toNat) = 900 := rfl
        rw [e900] at hinv
        rcases hinv with ⟨h, _⟩ | ⟨_, hlt, hle⟩
        · cases h
        · have ht : t = 0 := by
            rcases Nat.eq_zero_or_pos t with e | e
            · exact e
            · exfalso
              have h1 : 1 * 2 ^ (900 - 1) ≤ o * t * 2 ^ (900 - 1) := Nat.mul_le_mul_right _ (Nat.mul_pos (by omega) e)
              have h2 : (1 : Nat) * 2 ^ (900 - 1) ≤ 1267650600228229401496703205376 * 1267650600228229401496703205376 := Nat.le_trans h1 (Nat.le_trans hle hN)
              exact absurd h2 (by decide +kernel)
          subst ht
          rw [Nat.gcd_zero_right] at hgd
          rw [hgd]
          walk_at "go"
          exact ⟨rfl, _, _, _, _, _, rfl⟩
    · rintro σ H' ⟨rfl, u, v, z, t, r, rfl⟩
      rw [List.length_map, List.take_length]
      walk_at "go"
      exact k
def spArms : Sp := fun vs H Q _ => ∃ (b l : Addr), vs = [.ref b] ∧ BagAt H b l ∧ ∀ (arm mod : Nat) (p : Addr) H', 1 ≤ arm → arm ≤ 12 → mod ≠ 1 → mod ≤ 24 → H p = none → BagAt H' b l → Kp b H H' → H' p = some (.lst [.int arm, .int mod]) → Q (.ref p) H'
theorem ok_arms (B : Bi K mg) (c_l_draw : C8.Cal P w K mg base 1 "_law_draw" spDraw []) (F : FnP K "_law_arms" st_l_arms f fd) : FnOk P w K mg base CX0 2 f fd ["bag"] spArms := by
  refine F.ok sc_l_arms (fun vs H Q E h => ?_) (fun cdv A outer s H vs Q E hr h => ?_)
  · obtain ⟨b, l, rfl, _⟩ := h
    rfl
  · obtain ⟨b, l, rfl, hB, k⟩ := h
    have G := B
    refine ⟨_, PSs.nox ((C8.pss_cut (ps_set (i := 1) sc_l_arms.nd rfl (Or.inl rfl) (pe_op op_add pe_int (C8.pe_c c_l_draw hr (by decide) rfl (pa_cons (pv 0) (pa_cons (pe_ifExp (pt_cmpR op_eq (C8.pe_c c_l_draw hr (by decide) rfl (pa_cons (pv 0) (pa_cons pe_int pa_nil))) pe_int (nomark _)) pe_int pe_int) pa_nil)))))
      (pss_cons (ps_if (pt_cmpR op_eq (C8.pe_c c_l_draw hr (by decide) rfl (pa_cons (pv 0) (pa_cons pe_int pa_nil))) pe_int (nomark _))
        (pss_one (ps_ret (pe_lst (pa_cons (pv 1) (pa_cons pe_int pa_nil)))))
        pss_nil)
      (pss_one (ps_ret (pe_lst (pa_cons (pv 1) (pa_cons (pe_op op_add pe_int (C8.pe_c c_l_draw hr (by decide) rfl (pa_cons (pv 0) (pa_cons (pe_ifExp (pt_cmpR op_eq (C8.pe_c c_l_draw hr (by decide) rfl (pa_cons (pv 0) (pa_cons pe_int pa_nil))) pe_int (nomark _)) pe_int pe_int) pa_nil)))) pa_nil)))))))), ?_⟩
    try dsimp only [cxOf]
    refine x_cut (fun σ H1 => ∃ arm : Nat, σ = [some (.ref b), some (.int (arm : Nat))] ∧ 1 ≤ arm ∧ arm ≤ 12 ∧ BagAt H1 b l ∧ Kp b H H1) ?_ ?_
    · walk_at "go"
      refine ⟨b, l, 10, rfl, hB, by decide, by decide, fun r H1 h1 hB1 kp1 => ?_⟩
      walk_at "go"
      refine x_iteD (fun h => ?_) (fun h => ?_)
      · walk_at "go"
        refine ⟨b, l, 12, rfl, hB1, by decide, by decide, fun r2 H2 h2 hB2 kp2 => ?_⟩
        walk_at "go"
        exact ⟨1 + r2, by rw [Int.natCast_add]; rfl, by omega, by omega, hB2, Kp.trans kp1 kp2⟩
      · walk_at "go"
        refine ⟨b, l, 6, rfl, hB1, by decide, by decide, fun r2 H2 h2 hB2 kp2 => ?_⟩
        walk_at "go"
        exact ⟨1 + r2, by rw [Int.natCast_add]; rfl, by omega, by omega, hB2, Kp.trans kp1 kp2⟩
    · rintro σ H1 ⟨arm, rfl, a1, a2, hB1, kp1⟩
      walk_at "go"
      refine ⟨b, l, 2, rfl, hB1, by decide, by decide, fun r H2 h2 hB2 kp2 => ?_⟩
      walk_at "go"
      have kp12 := Kp.trans kp1 kp2
      refine x_iteD (fun h => ?_) (fun h => ?_)
      · walk_at "go"
        refine ⟨by show 2 ≤ sizeLine; decide, fun p hp => ?_⟩
        have npb : p ≠ b := fun e => hB2.b_some (by rw [← e]; exact hp)
        exact k arm 0 p _ a1 a2 (by decide) (by decide) (Kp.free kp12 npb hp) (hB2.new hp) (Kp.trans kp12 (Kp.of (Same.new hp))) upd_same
      · walk_at "go"
        refine ⟨b, l, 10, rfl, hB2, by decide, by decide, fun r3 H3 h3 hB3 kp3 => ?_⟩
        walk_at "go"
        have kp123 := Kp.trans kp12 kp3
        refine x_iteD (fun h => ?_) (fun h => ?_)
        · walk_at "go"
          refine ⟨b, l, 23, rfl, hB3, by decide, by decide, fun r4 H4 h4 hB4 kp4 => ?_⟩
          walk_at "go"
          refine ⟨by show 2 ≤ sizeLine; decide, fun p hp => ?_⟩
          have npb : p ≠ b := fun e => hB4.b_some (by rw [← e]; exact hp)
          exact k arm (2 + r4) p _ a1 a2 (by omega) (by omega) (Kp.free (Kp.trans kp123 kp4) npb hp) (hB4.new hp) (Kp.trans (Kp.trans kp123 kp4) (Kp.of (Same.new hp))) (by rw [upd_same, Int.natCast_add]; rfl)
        · walk_at "go"
          refine ⟨b, l, 7, rfl, hB3, by decide, by decide, fun r4 H4 h4 hB4 kp4 => ?_⟩
          walk_at "go"
          refine ⟨by show 2 ≤ sizeLine; decide, fun p hp => ?_⟩
          have npb : p ≠ b := fun e => hB4.b_some (by rw [← e]; exact hp)
          exact k arm (2 + r4) p _ a1 a2 (by omega) (by omega) (Kp.free (Kp.trans kp123 kp4) npb hp) (hB4.new hp) (Kp.trans (Kp.trans kp123 kp4) (Kp.of (Same.new hp))) (by rw [upd_same, Int.natCast_add]; rfl)
def spDivsD : Sp := fun vs H Q _ => ∃ (n : Nat), vs = [.int n] ∧ 1 ≤ n ∧ n ≤ 1000 ∧ ∀ p H', H p = none → Same H H' → (∃ ds : List Nat, H' p = some (.lst (ds.map fun d : Nat => V.int (d : Nat))) ∧ 1 ∈ ds ∧ (∀ d ∈ ds, 1 ≤ d ∧ d ≤ n ∧ d ∣ n) ∧ ds.length ≤ n) → Q (.ref p) H'
theorem ok_divsD (B : Bi K mg) (F : FnP K "_law_divisors" st_l_divisors f fd) : FnOk P w K mg base CX0 1 f fd ["num"] spDivsD := by
  refine F.ok sc_l_divisors (fun vs H Q E h => ?_) (fun cdv A outer s H vs Q E hr h => ?_)
  · obtain ⟨n, rfl, _⟩ := h
    rfl
  · obtain ⟨n, rfl, h1, h2, k⟩ := h
    have G := B
    refine ⟨_, PSs.nox ((pss_one (ps_ret (pe_lc (own := [("k", 1)]) rfl sc_l_divisors.nd (pi_range2 (by rfl) G.range (pa_cons pe_int (pa_cons (pe_op op_add (pv 0) pe_int) pa_nil))) (blkOk_by (own := [("k", 1)]) (N := ["num", "k"]) (sc := defScope st_l_divisors) (by decide +kernel)) (fun _ _ _ _ _ => (pg_name (i := 1) sc_l_divisors.nd rfl (Or.inl rfl))) (fun _ _ _ _ _ => (pts_one (pt_cmpR op_eq (pe_op op_mod (pe_callTy call_intI (by rfl) G.int (by decide +kernel) (pa_cons (pv 0) pa_nil)) (pv 1)) pe_int (nomark _)))) (fun _ _ _ _ _ => (pv 1)))))), ?_⟩
    try dsimp only [cxOf]
    walk_at "go"
    have en : ((n : Int) + 1 - 1).toNat = n := by omega
    refine w_lcR2 (by omega) (by rw [en]; exact Nat.lt_of_le_of_lt h2 (by decide)) (fun i acc => ∃ ds : List Nat, acc = ds.map (fun d : Nat => V.int (d : Nat)) ∧ (1 ≤ i → 1 ∈ ds) ∧ (∀ d ∈ ds, 1 ≤ d ∧ d ≤ i ∧ d ∣ n) ∧ ds.length ≤ i) ⟨[], rfl, fun h => absurd h (by decide), (fun d hd => by simp at hd), Nat.le_refl _⟩ ?_ ?_
    · rintro i H' acc hi s' ⟨ds, rfl, d1, d2, d3⟩ hai R S hR hS
      have e1 : (1 : Int) + (i : Int) = ((i + 1 : Nat) : Int) := by omega
      walk_at "go"
      refine ⟨rfl, ?_⟩
      rw [e1]
      walk_at "go"
      refine x_iteD (fun h => ?_) (fun h => ?_)
      · walk_at "go"
        refine hR _ _ (Same.refl _) ⟨ds ++ [i + 1], by rw [List.map_append]; rfl, fun _ => ?_, fun d hd => ?_, by rw [List.length_append, List.length_singleton]; omega⟩
        · rcases Nat.eq_zero_or_pos i with e | e
          · subst e; exact List.mem_append_right _ (List.mem_singleton.mpr rfl)
          · exact List.mem_append_left _ (d1 e)
        · rcases List.mem_append.mp hd with q | q
          · exact ⟨(d2 d q).1, by have := (d2 d q).2.1; omega, (d2 d q).2.2⟩
          · have e9 := List.mem_singleton.mp q
            subst e9
            exact ⟨by omega, by omega, Int.natCast_dvd_natCast.mp (Int.dvd_of_emod_eq_zero h)⟩
      · refine hS _ (Same.refl _) ⟨ds, rfl, fun _ => ?_, fun d hd => ⟨(d2 d hd).1, by have := (d2 d hd).2.1; omega, (d2 d hd).2.2⟩, by omega⟩
        rcases Nat.eq_zero_or_pos i with e | e
        · subst e
          exact absurd (by have : (n : Int) % ((0 + 1 : Nat) : Int) = 0 := Int.emod_one _; exact this) h
        · exact d1 e
    · rintro p H' acc hp s' hp' ⟨ds, rfl, d1, d2, d3⟩
      rw [en] at d1 d2 d3
      exact k p H' hp s' ⟨ds, hp', d1 h1, d2, d3⟩
theorem has_num {S : Own} (k : S.Ok) {n : Str} (h : n ∈ S.feet) : ∃ z, aGet S.nums n = some z := by
  obtain ⟨z, hz, _⟩ := aGet_of_mem (k.fk n h)
  exact ⟨z, hz⟩
theorem bag_own {H : Hp} {b l o fa na : Addr} {S : Own} (hB : BagAt H b l) (hO : OwnAt H o fa na S) : o ≠ b ∧ fa ≠ b ∧ na ≠ b ∧ o ≠ l := by
  obtain ⟨ns, i, g, e, x, c, h1, h2, _⟩ := hB.ex
  refine ⟨ne_of_some hO.o_ h1 (by intro z; injection z with z; injection z with z _; cases z), ne_of_some hO.f_ h1 ?_, ne_of_some hO.n_ h1 (by intro z; cases z), ne_of_some hO.o_ h2 ?_⟩
  · intro z
    injection z with z
    cases e : S.feet with
    | nil => rw [e] at z; cases z
    | cons a l => rw [e] at z; cases z
  · intro z
    injection z with z
    match ns, z with
    | [], z => cases z
    | [_], z => cases z
    | [_, _], z => cases z
    | _ :: _ :: _ :: _, z => cases z
/-! ### texts of moves; comparisons with [] -/
theorem isname_ok {x : Str} (h : IsName x) : PyData.canLay0 (.str x) = true := by
  obtain ⟨c, ds, rfl, h1, h2, h3, h4⟩ := h
  show PyData.strOk (SX.S (c :: ds)) = true
  unfold PyData.strOk
  rw [show (SX.S (c :: ds)).cps = (c :: ds).toArray from rfl, List.all_toArray]
  rw [List.all_eq_true]
  intro d hd
  refine decide_eq_true ?_
  rcases List.mem_cons.mp hd with e | hd
  · omega
  · have := h4 d hd
    omega
theorem canLay_strs : ∀ {l : List Str}, (∀ x ∈ l, IsName x) → PyData.canLayAll0 (l.map PyData.str) = true
  | [], _ => by simp only [List.map_nil, PyData.canLayAll0]
  | x :: l, h => by
    simp only [List.map_cons, PyData.canLayAll0, Bool.and_eq_true]
    exact ⟨isname_ok (h x (List.mem_cons_self ..)), canLay_strs fun y hy => h y (List.mem_cons_of_mem _ hy)⟩
theorem depth_strs : ∀ (l : List Str), PyData.depthAll (l.map PyData.str) ≤ 63
  | [] => by simp [PyData.depthAll]
  | x :: l => by
    have := depth_strs l
    simp only [List.map_cons, PyData.depthAll]
    have : PyData.depth (.str x) ≤ 63 := by simp [PyData.depth]
    omega
theorem shaped_strs {l : List Str} (h : ∀ x ∈ l, IsName x) : SeqAt.shaped (.list (l.map PyData.str)) = true := by
  unfold SeqAt.shaped
  have h1 : PyData.canLay0 (.list (l.map PyData.str)) = true := by
    simp only [PyData.canLay0]
    exact canLay_strs h
  have h2 := depth_strs l
  have h3 : PyData.depth (.list (l.map PyData.str)) ≤ 64 := by
    simp only [PyData.depth]
    omega
  rw [h1, Bool.true_and]
  exact decide_eq_true h3
theorem dp_strs {K : PySem.W.Frag} {H : Hp} : ∀ l : List Str, DpAll K H (l.map V.str) (l.map PyData.str)
  | [] => .nil
  | x :: l => .cons (.str x) (dp_strs l)
theorem eqv_nil (l : List Str) : PyData.eqv (.list (l.map PyData.str)) (.list []) = decide (l = []) := by
  cases l with
  | nil => simp [PyData.eqv, PyData.eqvAll]
  | cons x l => simp [PyData.eqv, PyData.eqvAll]
theorem x_eqNil {K : PySem.W.Frag} {H : Hp} {Q : VK} {p q : Addr} {l : List Str} (hp : SqL K H p (l.map V.str)) (hq : SqL K H q []) (h : ∀ x ∈ l, IsName x) (k : Q (.bl (decide (l = []))) H) : rEqD K (.ref p) (.ref q) H Q :=
  ⟨.list (l.map PyData.str), .list [], .lst hp (dp_strs l), .lst hq .nil, shaped_strs h, shaped_strs (l := []) (fun x hx => by cases hx), by rw [eqv_nil]; exact k⟩
theorem x_neNil {K : PySem.W.Frag} {H : Hp} {Q : VK} {p q : Addr} {l : List Str} (hp : SqL K H p (l.map V.str)) (hq : SqL K H q []) (h : ∀ x ∈ l, IsName x) (k : Q (.bl (!decide (l = []))) H) : rNeD K (.ref p) (.ref q) H Q :=
  ⟨.list (l.map PyData.str), .list [], .lst hp (dp_strs l), .lst hq .nil, shaped_strs h, shaped_strs (l := []) (fun x hx => by cases hx), by rw [eqv_nil]; exact k⟩
def slideL (p : Nat) (plus : Bool) : List Nat := [115, 108, 105, 100, 101, 32] ++ TL.numL p ++ [32] ++ [if plus = true then 43 else 45]
def slideT (p : Nat) (plus : Bool) : Str := SX.S (slideL p plus)
theorem slide_split (p : Nat) (plus : Bool) : Txt.split (slideT p plus) (SX.S [32]) = [SX.S [115, 108, 105, 100, 101], SX.S (TL.numL p), SX.S [if plus = true then 43 else 45]] := by
  unfold slideT
  rw [SX.split_S (by decide) (by decide)]
  have e : slideL p plus = TL.joinL [32] [[115, 108, 105, 100, 101], TL.numL p, [if plus = true then 43 else 45]] := by
    unfold slideL
    show _ = [115, 108, 105, 100, 101] ++ ([32] ++ (TL.numL p ++ ([32] ++ [if plus = true then 43 else 45])))
    simp
  rw [e, SX.spl_join (List.cons_ne_nil _ _)]
  · rfl
  · intro q hq
    rcases List.mem_cons.mp hq with e | hq
    · rw [e]; decide
    · rcases List.mem_cons.mp hq with e | hq
      · rw [e]; exact TL.numL_free (by omega)
      · rw [List.mem_singleton.mp hq]
        cases plus <;> decide
/-- a text that moves S to S' -/
inductive Cmd (S : Own) : Str → Own → Prop where
  | turn (n : Str) (z : Int) (r : List Str) (e : S.feet = n :: r) (g : aGet S.nums n = some z) : Cmd S "turn" (turnS S n z (r ++ [n]))
  | unturn (n : Str) (z : Int) (r : List Str) (e : S.feet = r ++ [n]) (g : aGet S.nums n = some z) : Cmd S "unturn" (turnS S n z (n :: r))
  | slide (p : Nat) (plus : Bool) (x y : Str) (nx ny : Int) (hx : S.feet[p]? = some x) (hy : S.feet[nb p plus]? = some y) (h1 : plus = false → 1 ≤ p) (hn : x ≠ y) (gx : aGet S.nums x = some nx) (gy : aGet S.nums y = some ny) : Cmd S (slideT p plus) (slideS S p plus x y nx ny)
theorem Cmd.step {S S' : Own} {t : Str} (h : Cmd S t S') : Step S S' := by
  cases h with
  | turn n z r e g => exact .turn n z r e g rfl
  | unturn n z r e g => exact .unturn n z r e g rfl
  | slide p plus x y nx ny hx hy h1 hn gx gy => exact .slide ⟨p, plus, x, y, nx, ny, hx, hy, h1, hn, gx, gy, rfl⟩
theorem flat_strs (l : List Str) : (l.map V.str).all flatV = true := by
  rw [List.all_eq_true]
  intro y hy
  obtain ⟨z, _, rfl⟩ := List.mem_map.mp hy
  rfl
theorem eqV_str (a b : Str) : eqV (.str a) (.str b) = decide (a = b) := by
  show (a == b) = decide (a = b)
  by_cases e : a = b
  · subst e; simp
  · rw [decide_eq_false e]
    simpa using e
theorem x_indexS {K : PySem.W.Frag} {H : Hp} {Q : VK} {p : Addr} {l : List Str} {x : Str} (s : SqL K H p (l.map V.str)) (hx : x ∈ l) (h : Q (.int (ix l x : Nat)) H) : rIndex K (.ref p) [.str x] H Q := by
  obtain ⟨h1, h2⟩ := ix_spec hx
  refine x_index (z := .str x) s rfl (flat_strs l) (by rw [List.getElem?_map, h1]; rfl) (by rw [eqV_str, decide_eq_true rfl]) (fun m z hm hz => ?_) h
  obtain ⟨y, rfl, hy⟩ := str_at hz
  rw [eqV_str]
  exact decide_eq_false fun e => h2 m hm (by rw [hy, e])
theorem x_indexFS {K : PySem.W.Frag} {H : Hp} {Q : VK} {p : Addr} {l : List Str} {x : Str} {i : Nat} (s : SqL K H p (l.map V.str)) (hx : x ∈ l.drop i) (h : Q (.int ((i + ix (l.drop i) x : Nat) : Int)) H) : rIndexFrom K (.ref p) [.str x, .int (i : Nat)] H Q := by
  obtain ⟨h1, h2⟩ := ix_spec hx
  rw [List.getElem?_drop] at h1
  refine x_indexF (z := .str x) s rfl (flat_strs l) (Nat.le_add_right _ _) (by rw [List.getElem?_map, h1]; rfl) (by rw [eqV_str, decide_eq_true rfl]) (fun m z hi hm hz => ?_) h
  obtain ⟨y, rfl, hy⟩ := str_at hz
  rw [eqV_str]
  refine decide_eq_false fun e => ?_
  obtain ⟨m', rfl⟩ : ∃ m', m = i + m' := ⟨m - i, by omega⟩
  exact h2 m' (by omega) (by rw [List.getElem?_drop, hy, e])
theorem cut_to {l : List Str} {k : Nat} {i : Int} (e : i = (k : Nat)) : cutV (l.map V.str) none (some i) = (l.take k).map V.str := by
  subst e
  unfold cutV
  rw [HT.sIx_nat, List.length_map]
  show ((l.map V.str).drop 0).take (min k l.length - 0) = _
  rw [List.drop_zero, Nat.sub_zero, ← List.map_take]
  congr 1
  rcases Nat.le_total k l.length with h | h
  · rw [Nat.min_eq_left h]
  · rw [Nat.min_eq_right h, List.take_of_length_le (Nat.le_refl _), List.take_of_length_le h]
theorem cut_from {l : List Str} {k : Nat} {i : Int} (e : i = (k : Nat)) : cutV (l.map V.str) (some i) none = (l.drop k).map V.str := by
  subst e
  unfold cutV
  rw [HT.sIx_nat, List.length_map]
  show ((l.map V.str).drop (min k l.length)).take (l.length - min k l.length) = _
  rw [List.take_of_length_le (by rw [List.length_drop, List.length_map]; exact Nat.le_refl _), ← List.map_drop]
  congr 1
  rcases Nat.le_total k l.length with h | h
  · rw [Nat.min_eq_left h]
  · rw [Nat.min_eq_right h, List.drop_of_length_le (Nat.le_refl _), List.drop_of_length_le h]
/-- y's other place is there -/
theorem far_ok {l : List Str} {y : Str} {a : Nat} (h2 : l.count y = 2) (ha : l[a]? = some y) (he : ix l y = a) : y ∈ l.drop (a + 1) := by
  have hp := List.getElem?_eq_some_iff.mp ha
  have e1 : l = l.take a ++ y :: l.drop (a + 1) := by
    have := List.take_append_drop a l
    rw [List.drop_eq_getElem_cons hp.1, hp.2] at this
    exact this.symm
  have hnot : y ∉ l.take a := by
    intro hm
    obtain ⟨j, hj⟩ := List.getElem?_of_mem hm
    rw [List.getElem?_take] at hj
    split at hj
    · rename_i hja
      have hyl : y ∈ l := List.mem_of_getElem? ha
      exact (ix_spec hyl).2 j (by omega) hj
    · cases hj
  rw [e1, List.count_append, List.count_cons_self, List.count_eq_zero_of_not_mem hnot] at h2
  exact List.count_pos_iff.mp (by omega)
theorem count_left {S : Own} {p : Nat} {x y : Str} (hw : IsWord S.feet) (hx : S.feet[p]? = some x) (hy : y ∈ S.feet) (hn : x ≠ y) : (sl_left S p).count y = 2 := by
  have hp := List.getElem?_eq_some_iff.mp hx
  have e1 : S.feet = S.feet.take p ++ x :: S.feet.drop (p + 1) := by
    have := List.take_append_drop p S.feet
    rw [List.drop_eq_getElem_cons hp.1, hp.2] at this
    exact this.symm
  have h2 := hw.two y hy
  rw [e1, List.count_append, List.count_cons_of_ne hn] at h2
  unfold sl_left
  rw [List.count_append]
  exact h2
theorem left_at {S : Own} {p : Nat} {plus : Bool} {x y : Str} (hx : S.feet[p]? = some x) (hy : S.feet[nb p plus]? = some y) (h1 : plus = false → 1 ≤ p) : (sl_left S p)[sl_at p plus]? = some y := by
  have hp := (List.getElem?_eq_some_iff.mp hx).1
  unfold sl_left sl_at nb at *
  cases plus with
  | true =>
    simp only [if_true] at hy ⊢
    rw [List.getElem?_append_right (by rw [List.length_take]; omega), List.length_take, List.getElem?_drop]
    rw [show p + 1 + (p - min p S.feet.length) = p + 1 by omega]
    exact hy
  | false =>
    have := h1 rfl
    simp only [Bool.false_eq_true, if_false] at hy ⊢
    rw [List.getElem?_append_left (by rw [List.length_take]; omega), List.getElem?_take, if_pos (by omega)]
    exact hy
theorem spot_le {S : Own} {p : Nat} {plus : Bool} {x y : Str} (hw : IsWord S.feet) (hx : S.feet[p]? = some x) (hy : S.feet[nb p plus]? = some y) (h1 : plus = false → 1 ≤ p) (hn : x ≠ y) : farOf (sl_left S p) y (sl_at p plus) < (sl_left S p).length := by
  have hc := count_left hw hx (List.mem_of_getElem? hy) hn
  have ha := left_at hx hy h1
  have hm : y ∈ sl_left S p := List.mem_of_getElem? ha
  unfold farOf
  split
  · rename_i he
    have := (ix_spec (far_ok hc ha he)).1
    rw [List.getElem?_drop] at this
    exact (List.getElem?_eq_some_iff.mp this).1
  · exact (List.getElem?_eq_some_iff.mp (ix_spec hm).1).1
theorem slideT_ne (p : Nat) (plus : Bool) : slideT p plus ≠ "turn" ∧ slideT p plus ≠ "unturn" ∧ slideT p plus ≠ "" := by
  have e1 : ("turn" : Str) = SX.S [116, 117, 114, 110] := by decide +kernel
  have e2 : ("unturn" : Str) = SX.S [117, 110, 116, 117, 114, 110] := by decide +kernel
  have e3 : ("" : Str) = SX.S [] := by decide +kernel
  have key : ∀ l : List Nat, slideT p plus = SX.S l → l.head? = some 115 := fun l h => by
    have := SX.S_inj h
    rw [← this]
    rfl
  refine ⟨fun h => ?_, fun h => ?_, fun h => ?_⟩
  · rw [e1] at h; exact absurd (key _ h) (by decide)
  · rw [e2] at h; exact absurd (key _ h) (by decide)
  · rw [e3] at h; exact absurd (key _ h) (by decide)
theorem slideT_len {p : Nat} {plus : Bool} (h : p < 1000000) : (slideT p plus).length ≤ 20 := by
  unfold slideT slideL
  have := TL.numL_len (n := p) (k := 6) (by decide) h
  rw [SX.S_len, List.length_append, List.length_append, List.length_append]
  show 6 + (TL.numL p).length + 1 + 1 ≤ 20
  omega
theorem num_int {p : Nat} (h : p < 1000000) : PySem.intText? (SX.S (TL.numL p)) = some (p : Int) := by
  have hl := TL.numL_len (n := p) (k := 6) (by decide) h
  rw [← SX.num_S]
  exact TL.int_num (by omega)
/-! ### the law's words: moves keep the rank -/
theorem wd_of {w : List Str} (h : IsWord w) : Rk.Wd w (bandsOf w) := ⟨nodup_bandsOf w, fun a => (mem_bandsOf w a).symm, h.two⟩
def KerW (w : List Str) : Int := Rk.kerN (Rk.cr w) (bandsOf w)
/-- the rank of a word's crossings -/
def Rank (w : List Str) (R : Nat) : Prop := KerW w * 2 ^ R = 2 ^ (bandsOf w).length
theorem bands_perm {w w' : List Str} (h : w.Perm w') : (bandsOf w).Perm (bandsOf w') :=
  (List.perm_ext_iff_of_nodup (nodup_bandsOf w) (nodup_bandsOf w')).mpr fun a => by rw [mem_bandsOf, mem_bandsOf, h.mem_iff]
theorem Wd_perm {w w' B : List Str} (h : Rk.Wd w B) (p : w.Perm w') : Rk.Wd w' B :=
  ⟨h.nd, fun a => by rw [← p.mem_iff]; exact h.mem a, fun a ha => by rw [← p.count_eq]; exact h.two a (p.mem_iff.mpr ha)⟩
theorem ix_cut {X R : List Str} {y : Str} (h : y ∉ X) : ix (X ++ y :: R) y = X.length := by
  unfold ix
  rw [List.findIdx_append]
  have : ¬(X.findIdx fun z => decide (z = y)) < X.length := fun z => by
    have := List.findIdx_getElem (w := z)
    exact h (by rw [← of_decide_eq_true this]; exact List.getElem_mem z)
  rw [if_neg this]
  simp [List.findIdx_cons]
theorem far_cut {X Y Z : List Str} {y : Str} (hX : y ∉ X) (hY : y ∉ Y) : farOf (X ++ y :: (Y ++ y :: Z)) y X.length = X.length + 1 + Y.length ∧ farOf (X ++ y :: (Y ++ y :: Z)) y (X.length + 1 + Y.length) = X.length := by
  unfold farOf
  rw [ix_cut hX, if_pos rfl, if_neg (by omega)]
  refine ⟨?_, rfl⟩
  have : (X ++ y :: (Y ++ y :: Z)).drop (X.length + 1) = Y ++ y :: Z := by
    rw [List.drop_append, List.drop_of_length_le (by omega), show X.length + 1 - X.length = 1 by omega]; rfl
  rw [this, ix_cut hY]
theorem slide_form {S : Own} {p : Nat} {plus : Bool} {x y : Str} (hw : IsWord S.feet) (hx : S.feet[p]? = some x) (hy : S.feet[nb p plus]? = some y) (h1 : plus = false → 1 ≤ p) (hn : x ≠ y) :
    ∃ P M R, ((S.feet = P ++ x :: (M ++ R) ∧ sl_feet S p plus x y = P ++ (M ++ x :: R)) ∨ (sl_feet S p plus x y = P ++ x :: (M ++ R) ∧ S.feet = P ++ (M ++ x :: R))) ∧ ∀ z, z ≠ x → Rk.cp M z = Rk.cr S.feet y z := by
  have hp := List.getElem?_eq_some_iff.mp hx
  have e1 : S.feet = S.feet.take p ++ x :: S.feet.drop (p + 1) := by
    have := List.take_append_drop p S.feet
    rw [List.drop_eq_getElem_cons hp.1, hp.2] at this
    exact this.symm
  have hc : (sl_left S p).count y = 2 := count_left hw hx (List.mem_of_getElem? hy) hn
  obtain ⟨X, Y, Z, eL, hX, hY, hZ⟩ := Rk.cut_two hc
  have hp1 := hp.1
  have ltk : (S.feet.take p).length = p := by rw [List.length_take]; omega
  have eT : (sl_left S p).take p = S.feet.take p := by unfold sl_left; rw [List.take_append, ltk, Nat.sub_self, List.take_zero, List.append_nil, List.take_of_length_le (by omega)]
  have eD : (sl_left S p).drop p = S.feet.drop (p + 1) := by unfold sl_left; rw [List.drop_append, ltk, Nat.sub_self, List.drop_zero, List.drop_of_length_le (by omega), List.nil_append]
  have e2 : S.feet = (sl_left S p).take p ++ x :: (sl_left S p).drop p := by rw [eT, eD]; exact e1
  -- y's neighbour place in what is left
  have hat : (sl_left S p)[sl_at p plus]? = some y := by
    unfold sl_left sl_at
    cases plus with
    | true =>
      rw [if_pos rfl, List.getElem?_append_right (by omega), ltk, Nat.sub_self, List.getElem?_drop]
      exact hy
    | false =>
      have := h1 rfl
      rw [if_neg (by decide), List.getElem?_append_left (by omega), List.getElem?_take_of_lt (by omega)]
      exact hy
  have hpl : sl_at p plus = X.length ∨ sl_at p plus = X.length + 1 + Y.length := by
    have hm : ∀ a, a ∈ sl_left S p ↔ a ∈ bandsOf (sl_left S p) := fun a => (mem_bandsOf _ a).symm
    rw [eL] at hat
    rcases Nat.lt_trichotomy (sl_at p plus) X.length with l | l | l
    · rw [List.getElem?_append_left l] at hat
      exact (hX (List.mem_of_getElem? hat)).elim
    · exact .inl l
    · rw [List.getElem?_append_right (by omega)] at hat
      obtain ⟨q, hq⟩ : ∃ q, sl_at p plus - X.length = q + 1 := ⟨sl_at p plus - X.length - 1, by omega⟩
      rw [hq, List.getElem?_cons_succ] at hat
      rcases Nat.lt_trichotomy q Y.length with k | k | k
      · rw [List.getElem?_append_left k] at hat
        exact (hY (List.mem_of_getElem? hat)).elim
      · exact .inr (by omega)
      · rw [List.getElem?_append_right (by omega)] at hat
        obtain ⟨r, hr⟩ : ∃ r, q - Y.length = r + 1 := ⟨q - Y.length - 1, by omega⟩
        rw [hr, List.getElem?_cons_succ] at hat
        exact (hZ (List.mem_of_getElem? hat)).elim
  obtain ⟨f1, f2⟩ := far_cut (Z := Z) hX hY
  have cut : ∀ (A C : List Str) (k : Nat), A.length = k → (A ++ C).take k = A ∧ (A ++ C).drop k = C := fun A C k e => by
    subst e; exact ⟨List.take_left, List.drop_left⟩
  have c0 := cut X (y :: (Y ++ y :: Z)) X.length rfl
  have c1 := cut (X ++ [y]) (Y ++ y :: Z) (X.length + 1) (by simp)
  have c2 := cut (X ++ y :: Y) (y :: Z) (X.length + 1 + Y.length) (by simp; omega)
  have c3 := cut (X ++ y :: Y ++ [y]) Z (X.length + 1 + Y.length + 1) (by simp; omega)
  have q1 : X ++ [y] ++ (Y ++ y :: Z) = X ++ y :: (Y ++ y :: Z) := by simp
  have q2 : X ++ y :: Y ++ (y :: Z) = X ++ y :: (Y ++ y :: Z) := by simp
  have q3 : X ++ y :: Y ++ [y] ++ Z = X ++ y :: (Y ++ y :: Z) := by simp
  rw [q1] at c1
  rw [q2] at c2
  rw [q3] at c3
  have hcy : ∀ z, Rk.cp (y :: (Y ++ [y])) z = Rk.cp Y z := fun z => by
    rw [Rk.cp_cons, Rk.cp_append, Rk.cp_cons]
    show xor (decide (y = z)) (xor (Rk.cp Y z) (xor (decide (y = z)) false)) = _
    cases decide (y = z) <;> cases Rk.cp Y z <;> rfl
  have hYx : ∀ z, z ≠ x → Rk.cp (Y ++ [x]) z = Rk.cp Y z := fun z hz => by
    rw [Rk.cp_append, Rk.cp_cons, decide_eq_false (Ne.symm hz)]
    show xor (Rk.cp Y z) (xor false false) = _
    cases Rk.cp Y z <;> rfl
  have hxX : y ∉ X ++ [x] := fun z => (List.mem_append.mp z).elim hX fun z => hn (List.mem_singleton.mp z).symm
  have hxZ : y ∉ x :: Z := fun z => (List.mem_cons.mp z).elim (fun z => hn z.symm) hZ
  have hxY : y ∉ Y ++ [x] := fun z => (List.mem_append.mp z).elim hY fun z => hn (List.mem_singleton.mp z).symm
  have hxY2 : y ∉ x :: Y := fun z => (List.mem_cons.mp z).elim (fun z => hn z.symm) hY
  unfold sl_feet ins
  cases plus with
  | true =>
    unfold sl_spot
    rw [if_pos rfl]
    have ha : sl_at p true = p := rfl
    rw [ha] at hpl ⊢
    rcases hpl with hpl | hpl
    · rw [eL, hpl, c0.1, c0.2] at e2
      rw [eL, hpl, f1, c3.1, c3.2, e2]
      refine ⟨X, y :: (Y ++ [y]), Z, .inl ⟨by simp, by simp⟩, fun z _ => ?_⟩
      have := Rk.cr_between (Z := Z) hxX hY hZ z
      rw [hcy, ← this]; simp
    · rw [eL, hpl, c2.1, c2.2] at e2
      rw [eL, hpl, f2, c1.1, c1.2, e2]
      refine ⟨X ++ [y], Y, y :: Z, .inr ⟨by simp, by simp⟩, fun z hz => ?_⟩
      have := Rk.cr_between (Z := Z) hX hxY hZ z
      rw [← hYx z hz, ← this]; simp
  | false =>
    unfold sl_spot
    rw [if_neg (by decide)]
    have ha : sl_at p false = p - 1 := rfl
    have h1 := h1 rfl
    rw [ha] at hpl ⊢
    rcases hpl with hpl | hpl
    · have ep : p = X.length + 1 := by omega
      rw [eL, ep, c1.1, c1.2] at e2
      rw [eL, hpl, f1, c2.1, c2.2, e2]
      refine ⟨X ++ [y], Y, y :: Z, .inl ⟨by simp, by simp⟩, fun z hz => ?_⟩
      have := Rk.cr_between (Z := Z) hX hxY2 hZ z
      rw [show Rk.cp Y z = Rk.cp (x :: Y) z by rw [Rk.cp_cons, decide_eq_false (Ne.symm hz), Bool.false_xor], ← this]; simp
    · have ep : p = X.length + 1 + Y.length + 1 := by omega
      rw [eL, ep, c3.1, c3.2] at e2
      rw [eL, hpl, f2, c0.1, c0.2, e2]
      refine ⟨X, y :: (Y ++ [y]), Z, .inr ⟨by simp, by simp⟩, fun z _ => ?_⟩
      have := Rk.cr_between (Z := x :: Z) hX hY hxZ z
      rw [hcy, ← this]; simp
theorem Step.ker {S S' : Own} (h : Step S S') (hw : IsWord S.feet) : KerW S'.feet = KerW S.feet := by
  have p := h.perm
  have w1 := wd_of hw
  have w2 := Wd_perm w1 p
  have ek : KerW S'.feet = Rk.kerN (Rk.cr S'.feet) (bandsOf S.feet) := (Rk.kerN_perm (bands_perm p)).symm
  rw [ek]
  clear ek
  cases h with
  | slide h =>
    obtain ⟨q, plus, x, y, nx, ny, hx, hy, h1, hn, _, _, rfl⟩ := h.ex
    obtain ⟨P, M, R, e1, e2⟩ := slide_form hw hx hy h1 hn
    exact Rk.kerN_slide (nodup_bandsOf _) ((mem_bandsOf _ _).mpr (List.mem_of_getElem? hx)) ((mem_bandsOf _ _).mpr (List.mem_of_getElem? hy)) hn (w1.diag y) fun b _ z _ => Rk.cr_move w1 w2 hn e1 e2 b z
  | turn n z r e g h =>
    subst h
    have w2' : Rk.Wd (r ++ [n]) (bandsOf S.feet) := w2
    show Rk.kerN (Rk.cr (r ++ [n])) (bandsOf S.feet) = Rk.kerN (Rk.cr S.feet) (bandsOf S.feet)
    rw [e] at w1 w2' ⊢
    refine Rk.kerN_congr fun b _ z _ => ?_
    exact Rk.cr_turn w1 w2' b z
  | unturn n z r e g h =>
    subst h
    have w2' : Rk.Wd (n :: r) (bandsOf S.feet) := w2
    show Rk.kerN (Rk.cr (n :: r)) (bandsOf S.feet) = Rk.kerN (Rk.cr S.feet) (bandsOf S.feet)
    rw [e] at w1 w2' ⊢
    refine Rk.kerN_congr fun b _ z _ => ?_
    exact (Rk.cr_turn w2' w1 b z).symm
theorem Step.rank {S S' : Own} (h : Step S S') (hw : IsWord S.feet) {R : Nat} : Rank S'.feet R ↔ Rank S.feet R := by
  unfold Rank
  rw [h.ker hw, (bands_perm h.perm).length_eq]
theorem rank_uniq {w : List Str} (h : IsWord w) {R R' : Nat} (h1 : Rank w R) (h2 : Rank w R') : R = R' := by
  have wd := wd_of h
  obtain ⟨_, a, b⟩ := Rk.rank_of wd.nd (fun a _ b _ => wd.sym a b) (fun a _ => wd.diag a) h1
  obtain ⟨_, a', b'⟩ := Rk.rank_of wd.nd (fun a _ b _ => wd.sym a b) (fun a _ => wd.diag a) h2
  rw [b] at b'
  have : (2 : Nat) ^ ((bandsOf w).length - R) = 2 ^ ((bandsOf w).length - R') := by
    have e : (((2 : Nat) ^ ((bandsOf w).length - R) : Nat) : Int) = ((2 ^ ((bandsOf w).length - R') : Nat) : Int) := by rw [Int.natCast_pow, Int.natCast_pow]; exact b'
    exact Int.ofNat.inj e
  have := Rk.pow_inj2 this
  omega
/-! partners of places -/
def mtW (w : List Str) (p : Nat) : Nat := match w[p]? with
  | some b => farOf w b p
  | none => 0
theorem mt_ok {w : List Str} (h : IsWord w) : Rk.Mate w (mtW w) := by
  have wd := wd_of h
  have ha : ∀ X b Y Z, w = X ++ b :: (Y ++ b :: Z) → b ∉ X → b ∉ Y → b ∉ Z → mtW w X.length = X.length + 1 + Y.length ∧ mtW w (X.length + 1 + Y.length) = X.length := fun X b Y Z e hX hY hZ => by
    obtain ⟨f1, f2⟩ := far_cut (Z := Z) hX hY
    have g1 : w[X.length]? = some b := by rw [e, List.getElem?_append_right (Nat.le_refl _), Nat.sub_self]; rfl
    have g2 : w[X.length + 1 + Y.length]? = some b := by
      rw [e, List.getElem?_append_right (by omega), show X.length + 1 + Y.length - X.length = Y.length + 1 by omega, List.getElem?_cons_succ, List.getElem?_append_right (Nat.le_refl _), Nat.sub_self]; rfl
    unfold mtW
    rw [g1, g2]
    show farOf w b _ = _ ∧ farOf w b _ = _
    rw [e]
    exact ⟨f1, f2⟩
  refine ⟨fun p hp => ?_, ha⟩
  obtain ⟨X, Y, Z, e, hX, hY, hZ, hpp⟩ := Rk.place_cut wd (List.getElem?_eq_getElem hp)
  obtain ⟨m1, m2⟩ := ha X _ Y Z e hX hY hZ
  have hl := congrArg List.length e
  simp only [List.length_append, List.length_cons] at hl
  rcases hpp with z | z
  · rw [z, m1]; omega
  · rw [z, m2]; omega
/-- the number of rims -/
def Rims (w : List Str) (k : Nat) : Prop := (w = [] ∧ k = 1) ∨ (w ≠ [] ∧ ∃ U, Rk.Cyc (fun p => Rk.prv w.length (mtW w p)) w.length U k ∧ ∀ p, p < w.length → p ∈ U)
theorem rims_law {w : List Str} (h : IsWord w) {k R : Nat} (h1 : Rims w k) (h2 : Rank w R) : R % 2 = 0 ∧ R + k = (bandsOf w).length + 1 := by
  have wd := wd_of h
  rcases h1 with ⟨e, ek⟩ | ⟨e, U, hU, ha⟩
  · subst e ek
    have hk : KerW [] = 1 := rfl
    unfold Rank at h2
    rw [hk, Int.one_mul] at h2
    have : R = 0 := by
      cases R with
      | zero => rfl
      | succ R =>
        exfalso
        have h2 : (2 : Int) ^ (R + 1) = 1 := h2
        rw [Int.pow_succ] at h2
        omega
    subst this
    exact ⟨rfl, rfl⟩
  · exact Rk.rims_rank wd (mt_ok h) (List.length_pos_iff.mpr e) hU ha h2
/-- what a place's partner is -/
theorem mt_facts {w : List Str} (h : IsWord w) {p : Nat} (hp : p < w.length) : mtW w p < w.length ∧ mtW w p ≠ p ∧ w[mtW w p]? = w[p]? ∧ mtW w (mtW w p) = p ∧ ∀ q, w[q]? = w[p]? → q = p ∨ q = mtW w p := by
  have wd := wd_of h
  have hm := mt_ok h
  obtain ⟨X, Y, Z, e, hX, hY, hZ, hpp⟩ := Rk.place_cut wd (List.getElem?_eq_getElem hp)
  have hb : w[p]? = some w[p] := List.getElem?_eq_getElem hp
  generalize w[p] = b at e hX hY hZ hb
  obtain ⟨m1, m2⟩ := hm.at_ X b Y Z e hX hY hZ
  have g1 : w[X.length]? = some b := by rw [e, List.getElem?_append_right (Nat.le_refl _), Nat.sub_self]; rfl
  have g2 : w[X.length + 1 + Y.length]? = some b := by
    rw [e, List.getElem?_append_right (by omega), show X.length + 1 + Y.length - X.length = Y.length + 1 by omega, List.getElem?_cons_succ, List.getElem?_append_right (Nat.le_refl _), Nat.sub_self]; rfl
  have un : ∀ q, w[q]? = some b → q = X.length ∨ q = X.length + 1 + Y.length := fun q hq => by
    obtain ⟨X', Y', Z', e', hX', hY', hZ', hqq⟩ := Rk.place_cut wd hq
    have hc : ix w b = X.length := by rw [e]; exact ix_cut hX
    have hc' : ix w b = X'.length := by rw [e']; exact ix_cut hX'
    have m1' := (hm.at_ X' b Y' Z' e' hX' hY' hZ').1
    rw [show X'.length = X.length by omega] at m1' hqq
    omega
  refine ⟨hm.lt p hp, ?_, ?_, hm.inv wd hp, fun q hq => ?_⟩
  · rcases hpp with z | z
    · rw [z, m1]; omega
    · rw [z, m2]; omega
  · rw [hb]
    rcases hpp with z | z
    · rw [z, m1]; exact g2
    · rw [z, m2]; exact g1
  · rw [hb] at hq
    have h1 := un q hq
    rcases hpp with z | z
    · rw [z, m1]; omega
    · rw [z, m2]; omega
theorem mt_pl {w : List Str} (h : IsWord w) {p : Nat} {b : Str} (hb : w[p]? = some b) (hl : p < mtW w p) : PlOf w b p (mtW w p) := by
  have hp := (List.getElem?_eq_some_iff.mp hb).1
  obtain ⟨f1, f2, f3, f4, f5⟩ := mt_facts h hp
  refine ⟨hb, by rw [f3]; exact hb, fun k hk => ?_⟩
  rcases f5 k (hk.trans hb.symm) with e | e <;> omega
theorem pl_mt {w : List Str} (h : IsWord w) {b : Str} {i j : Nat} (hp : PlOf w b i j) : i < j ∧ mtW w i = j := by
  obtain ⟨h1, h2, h3⟩ := hp
  have hi := (List.getElem?_eq_some_iff.mp h1).1
  obtain ⟨f1, f2, f3, f4, f5⟩ := mt_facts h hi
  have k1 := h3 (mtW w i) (f3.trans h1)
  rcases f5 j (h2.trans h1.symm) with e | e <;> omega
theorem pl_new {w : List Str} (h : IsWord w) {i : Nat} {b : Str} (hb : w[i]? = some b) : (i < mtW w i) ↔ b ∉ w.take i := by
  have hi := (List.getElem?_eq_some_iff.mp hb).1
  obtain ⟨f1, f2, f3, f4, f5⟩ := mt_facts h hi
  constructor
  · intro hl hm
    obtain ⟨q, hq⟩ := List.getElem?_of_mem hm
    rw [List.getElem?_take] at hq
    split at hq
    · rcases f5 q (hq.trans hb.symm) with e | e <;> omega
    · cases hq
  · intro hm
    rcases Nat.lt_trichotomy i (mtW w i) with l | l | l
    · exact l
    · exact (f2 l.symm).elim
    · refine (hm ?_).elim
      refine List.mem_of_getElem? (i := mtW w i) ?_
      rw [List.getElem?_take, if_pos l, f3]
      exact hb
def leftsW (w : List Str) (n : Nat) : List Nat := (List.range n).filter fun k => decide (k < mtW w k)
theorem leftsW_succ (w : List Str) (n : Nat) : leftsW w (n + 1) = if n < mtW w n then leftsW w n ++ [n] else leftsW w n := by
  unfold leftsW
  rw [List.range_succ, List.filter_append]
  by_cases e : n < mtW w n
  · rw [if_pos e]; simp [e]
  · rw [if_neg e]; simp [e]
theorem lefts_bands {w : List Str} (h : IsWord w) : ∀ n, n ≤ w.length → (leftsW w n).map (fun k => w.getD k "") = bandsOf (w.take n)
  | 0, _ => rfl
  | n + 1, hn => by
    have hb : w[n]? = some w[n] := List.getElem?_eq_getElem hn
    have ih := lefts_bands h n (by omega)
    rw [leftsW_succ, take_snoc hb, bandsOf_snoc]
    have := pl_new h hb
    by_cases e : n < mtW w n
    · rw [if_pos e, if_neg fun z => this.mp e ((mem_bandsOf _ _).mp z), List.map_append, ih]
      congr 1
      show [w.getD n ""] = _
      rw [List.getD_eq_getElem?_getD, hb]; rfl
    · rw [if_neg e, if_pos ((mem_bandsOf _ _).mpr (Classical.byContradiction fun z => e (this.mpr z))), ih]
theorem lefts_at {w : List Str} (h : IsWord w) {i k : Nat} (hk : (leftsW w w.length)[i]? = some k) : k < w.length ∧ k < mtW w k ∧ (bandsOf w)[i]? = w[k]? := by
  have hm := List.mem_filter.mp (List.mem_of_getElem? hk)
  have hkl := List.mem_range.mp hm.1
  refine ⟨hkl, of_decide_eq_true hm.2, ?_⟩
  have := lefts_bands h w.length (Nat.le_refl _)
  rw [List.take_length] at this
  rw [← this, List.getElem?_map, hk]
  show some (w.getD k "") = _
  rw [List.getD_eq_getElem?_getD, List.getElem?_eq_getElem hkl]; rfl
theorem lefts_len {w : List Str} (h : IsWord w) : (leftsW w w.length).length = (bandsOf w).length := by
  have := congrArg List.length (lefts_bands h w.length (Nat.le_refl _))
  rwa [List.length_map, List.take_length] at this
/-- how often a letter stood ahead of p, oddly -/
theorem cp_take {w : List Str} (h : IsWord w) {m : Str} {k l : Nat} (hp : PlOf w m k l) (p : Nat) : Rk.cp (w.take p) m = xor (decide (k < p)) (decide (l < p)) := by
  obtain ⟨h1, h2⟩ := pl_mt h hp
  have hk := (List.getElem?_eq_some_iff.mp hp.1).1
  have hl := (List.getElem?_eq_some_iff.mp hp.2.1).1
  induction p with
  | zero => rfl
  | succ p ih =>
    by_cases hpl : p < w.length
    · have hb : w[p]? = some w[p] := List.getElem?_eq_getElem hpl
      rw [take_snoc hb, Rk.cp_append, ih, Rk.cp_cons]
      show xor _ (xor (decide (w[p] = m)) false) = _
      rw [Bool.xor_false]
      by_cases e : w[p] = m
      · have : p = k ∨ p = l := by
          obtain ⟨_, _, _, _, f5⟩ := mt_facts h hk
          rw [h2] at f5
          exact f5 p (by rw [hb, e, hp.1])
        rw [decide_eq_true e]
        rcases this with z | z
        · rw [decide_eq_false (show ¬k < p by omega), decide_eq_false (show ¬l < p by omega), decide_eq_true (show k < p + 1 by omega), decide_eq_false (show ¬l < p + 1 by omega)]; rfl
        · rw [decide_eq_true (show k < p by omega), decide_eq_false (show ¬l < p by omega), decide_eq_true (show k < p + 1 by omega), decide_eq_true (show l < p + 1 by omega)]; rfl
      · have n1 : p ≠ k := fun z => e (Option.some.inj (hb.symm.trans (by rw [z]; exact hp.1)))
        have n2 : p ≠ l := fun z => e (Option.some.inj (hb.symm.trans (by rw [z]; exact hp.2.1)))
        rw [decide_eq_false e, Bool.xor_false, show decide (k < p + 1) = decide (k < p) from decide_eq_decide.mpr (by omega), show decide (l < p + 1) = decide (l < p) from decide_eq_decide.mpr (by omega)]
    · rw [List.take_of_length_le (by omega)]
      rw [List.take_of_length_le (by omega)] at ih
      rw [ih, decide_eq_true (show k < p by omega), decide_eq_true (show l < p by omega), decide_eq_true (show k < p + 1 by omega), decide_eq_true (show l < p + 1 by omega)]
theorem cross_dec {w : List Str} (h : IsWord w) {n m : Str} {i j k l : Nat} (h1 : PlOf w n i j) (h2 : PlOf w m k l) : Rk.cr w n m = decide ((i < k ∧ k < j ∧ j < l) ∨ (k < i ∧ i < l ∧ l < j)) := by
  have wd := wd_of h
  obtain ⟨a1, a2⟩ := pl_mt h h1
  obtain ⟨b1, b2⟩ := pl_mt h h2
  by_cases e : n = m
  · subst e
    have c1 := h1.2.2 k h2.1
    have c2 := h1.2.2 l h2.2.1
    have c3 := h2.2.2 i h1.1
    have c4 := h2.2.2 j h1.2.1
    rw [wd.diag, decide_eq_false (by omega)]
  · have ne : ∀ {p q : Nat}, w[p]? = some n → w[q]? = some m → p ≠ q := fun h1 h2 z => e (Option.some.inj (h1.symm.trans (by rw [z]; exact h2)))
    obtain ⟨X, Y, Z, ew, hX, hY, hZ, hpp⟩ := Rk.place_cut wd h1.1
    obtain ⟨m1, m2⟩ := (mt_ok h).at_ X n Y Z ew hX hY hZ
    have hi : i = X.length := by
      rcases hpp with z | z
      · exact z
      · rw [z, m2] at a2; omega
    have hj : j = X.length + 1 + Y.length := by rw [← a2, hi, m1]
    obtain ⟨s1, s2, s3, s4⟩ := Rk.sv_cut (X := X) (Y := Y) (Z := Z) (b := n) fun y => decide (y = m)
    rw [← ew] at s2 s3
    have t1 : Rk.cp (w.take (i + 1)) m = xor (Rk.px X fun y => decide (y = m)) (decide (n = m)) := by rw [hi]; exact s2
    have t2 : Rk.cp (w.take j) m = xor (xor (Rk.px X fun y => decide (y = m)) (decide (n = m))) (Rk.cp Y m) := by rw [hj]; exact s3
    have t3 : Rk.cr w n m = Rk.cp Y m := by rw [ew]; exact Rk.cr_between hX hY hZ m
    rw [cp_take h h2] at t1 t2
    rw [← t1] at t2
    have n1 := ne h1.1 h2.1
    have n2 := ne h1.1 h2.2.1
    have n3 := ne h1.2.1 h2.1
    have n4 := ne h1.2.1 h2.2.1
    have t4 : Rk.cr w n m = xor (xor (decide (k < i + 1)) (decide (l < i + 1))) (xor (decide (k < j)) (decide (l < j))) := by
      rw [t3, t2]
      cases decide (k < i + 1) <;> cases decide (l < i + 1) <;> cases Rk.cp Y m <;> rfl
    rw [t4]
    have ev : ∀ (b1 b2 b3 b4 : Bool), decide (k < i + 1) = b1 → decide (l < i + 1) = b2 → decide (k < j) = b3 → decide (l < j) = b4 → xor (xor (decide (k < i + 1)) (decide (l < i + 1))) (xor (decide (k < j)) (decide (l < j))) = xor (xor b1 b2) (xor b3 b4) := fun _ _ _ _ z1 z2 z3 z4 => by rw [z1, z2, z3, z4]
    by_cases hp : (i < k ∧ k < j ∧ j < l) ∨ (k < i ∧ i < l ∧ l < j)
    · rw [decide_eq_true hp]
      rcases hp with ⟨u1, u2, u3⟩ | ⟨u1, u2, u3⟩
      · exact ev _ _ _ _ (decide_eq_false (by omega)) (decide_eq_false (by omega)) (decide_eq_true (by omega)) (decide_eq_false (by omega))
      · exact ev _ _ _ _ (decide_eq_true (by omega)) (decide_eq_false (by omega)) (decide_eq_true (by omega)) (decide_eq_true (by omega))
    · rw [decide_eq_false hp]
      have h4 : l < i ∨ (i < k ∧ l < j) ∨ (k < i ∧ j < l) ∨ j < k := by omega
      rcases h4 with u | ⟨u1, u2⟩ | ⟨u1, u2⟩ | u
      · exact ev _ _ _ _ (decide_eq_true (by omega)) (decide_eq_true (by omega)) (decide_eq_true (by omega)) (decide_eq_true (by omega))
      · exact ev _ _ _ _ (decide_eq_false (by omega)) (decide_eq_false (by omega)) (decide_eq_true (by omega)) (decide_eq_true (by omega))
      · exact ev _ _ _ _ (decide_eq_true (by omega)) (decide_eq_false (by omega)) (decide_eq_true (by omega)) (decide_eq_false (by omega))
      · exact ev _ _ _ _ (decide_eq_false (by omega)) (decide_eq_false (by omega)) (decide_eq_false (by omega)) (decide_eq_false (by omega))
/-- the mates' list behind the first i places -/
def MtAt (w : List Str) (i : Nat) (M : List Nat) : Prop := M.length = w.length ∧ ∀ q, q < w.length → M[q]? = some (if q < i ∧ mtW w q < i then mtW w q else 0)
theorem MtAt.zero (w : List Str) : MtAt w 0 (List.replicate w.length 0) := ⟨List.length_replicate, fun q hq => by
  rw [if_neg (by omega), List.getElem?_replicate, if_pos hq]⟩
theorem MtAt.old {w : List Str} (h : IsWord w) {i : Nat} {M : List Nat} (hM : MtAt w i M) {b : Str} (hb : w[i]? = some b) (hn : b ∉ w.take i) : MtAt w (i + 1) M := by
  have hl := (pl_new h hb).mpr hn
  refine ⟨hM.1, fun q hq => ?_⟩
  rw [hM.2 q hq]
  obtain ⟨f1, f2, f3, f4, f5⟩ := mt_facts h hq
  by_cases e1 : q = i
  · rw [if_neg (by omega), if_neg (by rw [e1]; omega)]
  · by_cases e2 : mtW w q = i
    · have : q = mtW w i := by rw [← e2, f4]
      rw [if_neg (by omega), if_neg (by omega)]
    · congr 1
      by_cases c : q < i ∧ mtW w q < i
      · rw [if_pos c, if_pos (by omega)]
      · rw [if_neg c, if_neg (by omega)]
theorem MtAt.new {w : List Str} (h : IsWord w) {i j : Nat} {M : List Nat} (hM : MtAt w i M) {b : Str} (hb : w[i]? = some b) (hj : w[j]? = some b) (hji : j < i) : MtAt w (i + 1) ((M.set i j).set j i) := by
  have hi := (List.getElem?_eq_some_iff.mp hb).1
  obtain ⟨f1, f2, f3, f4, f5⟩ := mt_facts h hi
  have ej : j = mtW w i := (f5 j (hj.trans hb.symm)).resolve_left (by omega)
  refine ⟨by rw [List.length_set, List.length_set]; exact hM.1, fun q hq => ?_⟩
  rw [List.getElem?_set, List.length_set, hM.1]
  by_cases e1 : j = q
  · rw [if_pos e1, if_pos (by omega), ← e1, ej, f4, if_pos (by omega)]
  · rw [if_neg e1, List.getElem?_set, hM.1]
    by_cases e2 : i = q
    · rw [if_pos e2, if_pos (by omega), ← e2, ← ej, if_pos (by omega)]
    · rw [if_neg e2, hM.2 q hq]
      obtain ⟨g1, g2, g3, g4, g5⟩ := mt_facts h hq
      have e3 : mtW w q ≠ i := fun z => e1 (by rw [ej, ← z, g4])
      congr 1
      by_cases c : q < i ∧ mtW w q < i
      · rw [if_pos c, if_pos (by omega)]
      · rw [if_neg c, if_neg (by omega)]
theorem MtAt.full {w : List Str} (h : IsWord w) {M : List Nat} (hM : MtAt w w.length M) : M.length = w.length ∧ ∀ q, q < w.length → M[q]? = some (mtW w q) := ⟨hM.1, fun q hq => by
  rw [hM.2 q hq, if_pos ⟨hq, (mt_facts h hq).1⟩]⟩
theorem pi_listK {X : Cx} {K : PySem.W.Frag} {tg : Expr} {l : Expr} {tl : TE} (hK : X.K = K) (hl : PE X l tl) : PI X tg l (iList K tl) := by
  subst hK
  exact pi_list hl
def retE : Stmt → Expr
  | .Return (some e) _ => e
  | _ => .Constant .none 0 ⟨0, 0, 0, 0⟩
def lcSc : Expr → Scope → Scope
  | .ListComp _ _ sc _, _ => sc
  | _, sc => sc
def lcRel (e : Expr) (sc : Scope) : Scope := relabel (lcSc e sc) (envOfC "" sc 0 0 .none)
def bV (b : Bool) : V := .int ((b.toNat : Nat) : Int)
theorem bV_at {bs : List Bool} {i : Nat} {y : V} (h : (bs.map bV)[i]? = some y) : ∃ b, y = bV b ∧ bs[i]? = some b := by
  rw [List.getElem?_map] at h
  cases e : bs[i]? with
  | none => rw [e] at h; cases h
  | some z => rw [e] at h; exact ⟨z, (Option.some.inj h).symm, rfl⟩
structure TblAt (K : PySem.W.Frag) (H : Hp) (t : Addr) (T : List (List Bool)) : Prop where
  ex : ∃ rs : List Addr, H t = some (.lst (rs.map V.ref)) ∧ rs.length = T.length ∧ ∀ (i : Nat) (r : Addr) (row : List Bool), rs[i]? = some r → T[i]? = some row → H r = some (.lst (row.map bV))
theorem TblAt.same {K : PySem.W.Frag} {H H' : Hp} {t : Addr} {T : List (List Bool)} (h : TblAt K H t T) (s : Same H H') : TblAt K H' t T := by
  obtain ⟨rs, h1, h2, h3⟩ := h.ex
  exact ⟨rs, s _ _ h1, h2, fun i r row e1 e2 => s _ _ (h3 i r row e1 e2)⟩
/-- the table of a word's crossings -/
def tabW (w : List Str) : List (List Bool) := (bandsOf w).map (Rk.rowB (Rk.cr w) (bandsOf w))
theorem ech_low {w : List Str} (h : IsWord w) {ks : List Nat} (e : Rk.Ech ks ((tabW w).map fun row => Rk.mk row.reverse)) : Rank w ks.length := by
  have wd := wd_of h
  have := e.cnt
  unfold tabW at this
  rw [List.map_map, List.length_map] at this
  unfold Rank KerW
  rw [Rk.kerN_low wd.nd fun a _ b _ => wd.sym a b]
  have e2 := congrArg (fun n : Nat => (n : Int)) this
  simp only [Int.natCast_mul, Int.natCast_pow] at e2
  exact e2
theorem ech_high {w : List Str} (h : IsWord w) {ks : List Nat} (e : Rk.Ech ks ((tabW w).map Rk.mk)) : Rank w ks.length := by
  have wd := wd_of h
  have := e.cnt
  unfold tabW at this
  rw [List.map_map, List.length_map] at this
  unfold Rank KerW
  rw [Rk.kerN_high wd.nd fun a _ b _ => wd.sym a b]
  have e2 := congrArg (fun n : Nat => (n : Int)) this
  simp only [Int.natCast_mul, Int.natCast_pow] at e2
  exact e2
theorem tabW_len (w : List Str) : (tabW w).length = (bandsOf w).length := List.length_map _
theorem pl_all {w : List Str} (h : IsWord w) {b : Str} (hb : b ∈ w) : ∃ i j, PlOf w b i j := by
  obtain ⟨X, Y, Z, e, hX, hY, hZ⟩ := Rk.cut_two (h.two b hb)
  obtain ⟨m1, m2⟩ := (mt_ok h).at_ X b Y Z e hX hY hZ
  have g1 : w[X.length]? = some b := by rw [e, List.getElem?_append_right (Nat.le_refl _), Nat.sub_self]; rfl
  exact ⟨_, _, mt_pl h g1 (by rw [m1]; omega)⟩
def spMates (K : PySem.W.Frag) : Sp := fun vs H Q _ => ∃ (p : Addr) (feet : List Str), vs = [.ref p] ∧ H p = some (.lst (feet.map V.str)) ∧ IsWord feet ∧ feet.length ≤ 1000 ∧ ∀ (q : Addr) (M : List Nat) H', H q = none → Same H H' → H' q = some (.lst (M.map fun m : Nat => V.int (m : Nat))) → M.length = feet.length → (∀ q, q < feet.length → M[q]? = some (mtW feet q)) → Q (.ref q) H'
theorem rep_one {α : Type} (n : Nat) (x : α) : (List.replicate n [x]).flatten = List.replicate n x := by
  induction n with
  | zero => rfl
  | succ n ih => rw [List.replicate_succ, List.flatten_cons, ih]; rfl
theorem ok_mates (B : Bi K mg) (F : FnP K "_law_mates" st_l_mates f fd) : FnOk P w K mg base CX0 1 f fd ["feet"] (spMates K) := by
  refine F.ok sc_l_mates (fun vs H Q E h => ?_) (fun cdv A outer s H vs Q E hr h => ?_)
  · obtain ⟨p, feet, rfl, _⟩ := h
    rfl
  · obtain ⟨p, feet, rfl, hp, hW, hl, k⟩ := h
    have G := B
    refine ⟨_, PSs.nox ((pss_cons (ps_set (i := 1) sc_l_mates.nd rfl (Or.inl rfl) pe_dnewK)
      (pss_cons (ps_set (i := 2) sc_l_mates.nd rfl (Or.inl rfl) (pe_op op_rep (pe_lst (pa_cons pe_int pa_nil)) (pe_callB callLenS (by rfl) G.len PySem.boot_len (pa_cons (pv 0) pa_nil))))
      (pss_cons (ps_for PassesOwn.never rfl (pi_range1 (by rfl) G.range (pa_cons (pe_callB callLenS (by rfl) G.len PySem.boot_len (pa_cons (pv 0) pa_nil)) pa_nil)) (pg_name (i := 3) sc_l_mates.nd rfl (Or.inl rfl))
        (pss_cons (ps_if (pt_cmp (pc_din (hu_of hr) (pe_ix ix_list (pv 0) (pv 3) (fun _ _ => rfl)) (pv 1)))
          (pss_cons (ps_asg (pe_dget (hu_of hr) (pv 1) (pe_ix ix_list (pv 0) (pv 3) (fun _ _ => rfl)) (fun _ _ => rfl)) (pg_sub (pv 2) (pv 3) set_list))
          (pss_one (ps_asg (pv 3) (pg_sub (pv 2) (pe_dget (hu_of hr) (pv 1) (pe_ix ix_list (pv 0) (pv 3) (fun _ _ => rfl)) (fun _ _ => rfl)) set_list))))
          pss_nil)
        (pss_one (ps_dput (hu_of hr) (pv 1) (pe_ix ix_list (pv 0) (pv 3) (fun _ _ => rfl)) (pv 3) rfl))))
      (pss_one (ps_ret (pv 2))))))), ?_⟩
    try dsimp only [cxOf]
    walk_at "go"
    intro sd hsd
    walk_at "go"
    refine ⟨by show 1 ≤ sizeLine; decide, fun q0 hq0 => ?_⟩
    walk_at "go"
    rw [List.length_map]
    refine x_rep (xs := [V.int 0]) upd_same (by omega) (by omega) (by show 1 * _ ≤ _; exact Nat.le_trans (show _ ≤ 1000 by omega) (by decide)) fun mt hmt => ?_
    rw [rep_one, show ((feet.length : Nat) : Int).toNat = feet.length from Int.toNat_natCast _]
    have hp0 := upd_old (o := HO.dK []) hsd hp
    have hp1 := upd_old (o := HO.lst [V.int 0]) hq0 hp0
    have hp2 := upd_old (o := HO.lst (List.replicate feet.length (V.int 0))) hmt hp1
    have hsd1 : (upd (upd (upd H sd (.dK [])) q0 (.lst [V.int 0])) mt (.lst (List.replicate feet.length (V.int 0)))) sd = some (.dK []) := upd_old hmt (upd_old hq0 upd_same)
    have s3 : Same H (upd (upd (upd H sd (.dK [])) q0 (.lst [V.int 0])) mt (.lst (List.replicate feet.length (V.int 0)))) := Same.trans (Same.new hsd) (Same.trans (Same.new hq0) (Same.new hmt))
    have hmt0 : H mt = none := Same.free (Same.trans (Same.new (o := .dK []) hsd) (Same.new (o := .lst [V.int 0]) hq0)) hmt
    have nsm : sd ≠ mt := ne_of_none (upd_old hq0 upd_same) hmt
    have hM0 : (upd (upd (upd H sd (.dK [])) q0 (.lst [V.int 0])) mt (.lst (List.replicate feet.length (V.int 0)))) mt = some (.lst ((List.replicate feet.length 0).map fun m : Nat => V.int (m : Nat))) := by
      rw [upd_same, List.map_replicate]
      rfl
    revert hsd1 s3 hM0 hp2
    generalize (upd (upd (upd H sd (.dK [])) q0 (.lst [V.int 0])) mt (.lst (List.replicate feet.length (V.int 0)))) = H3
    intro hp2 hsd1 s3 hM0
    walk_at "go"
    rw [List.length_map]
    refine w_forR1 (by omega) (by omega) (fun i σ H' => Same H H' ∧ ∃ (Sn : List (Str × Nat)) (M : List Nat) (u : Option V), σ = [some (.ref p), some (.ref sd), some (.ref mt), u] ∧ H' sd = some (.dK (dD (fun n : Nat => V.int (n : Nat)) Sn)) ∧ H' mt = some (.lst (M.map fun m : Nat => V.int (m : Nat))) ∧ MtAt feet i M ∧ Sn.length ≤ i ∧ (∀ n j, aGet Sn n = some j → j < i ∧ feet[j]? = some n) ∧ ∀ n, aGet Sn n = none → n ∉ feet.take i)
      ⟨s3, [], _, none, rfl, hsd1, hM0, MtAt.zero feet, Nat.le_refl _, fun n j e => (by cases e), fun n _ => List.not_mem_nil⟩ ?_ ?_
    · rintro i σ H' hi ⟨s', Sn, M, u, rfl, hS, hM, hMt, hSl, hSb, hSn⟩
      have hMl := hMt.1
      have hi : i < feet.length := by omega
      obtain ⟨n, hn⟩ : ∃ n, feet[i]? = some n := ⟨feet[i]'hi, List.getElem?_eq_getElem hi⟩
      have hp' := s' _ _ hp
      have an : atI (feet.map V.str) (0 + (i : Int)) = some (.str n) := atI_of (k := i) (by omega) (by rw [List.getElem?_map, hn]; rfl)
      have ez : (0 : Int) + (i : Int) = ((i : Nat) : Int) := by omega
      have fin : ∀ (M' : List Nat) (H2 : Hp) (σ2 : L2.St) (D : Ends), Same H H2 → H2 sd = some (.dK (dD (fun n : Nat => V.int (n : Nat)) Sn)) → H2 mt = some (.lst (M'.map fun m : Nat => V.int (m : Nat))) → MtAt feet (i + 1) M' → σ2 = [some (.ref p), some (.ref sd), some (.ref mt), some (.int (0 + (i : Int)))] → D.nx = (fun σ H' => Same H H' ∧ ∃ (Sn : List (Str × Nat)) (M : List Nat) (u : Option V), σ = [some (.ref p), some (.ref sd), some (.ref mt), u] ∧ H' sd = some (.dK (dD (fun n : Nat => V.int (n : Nat)) Sn)) ∧ H' mt = some (.lst (M.map fun m : Nat => V.int (m : Nat))) ∧ MtAt feet (i + 1) M ∧ Sn.length ≤ i + 1 ∧ (∀ n j, aGet Sn n = some j → j < i + 1 ∧ feet[j]? = some n) ∧ ∀ n, aGet Sn n = none → n ∉ feet.take (i + 1)) →
          rDPut D σ2 (.int (0 + (i : Int))) (.ref sd) (.str n) H2 := by
        intro M' H2 σ2 D s2 hS2 hM2 hl2 e2 hD
        refine x_dputS hS2 (by rw [dD_len]; exact Nat.lt_of_le_of_lt (show _ ≤ 1000 by omega) (by decide)) ?_
        rw [hD, e2]
        have hsd0 : H sd = none := hsd
        refine ⟨Same.mut s2 hsd0, aPut Sn n i, M', _, rfl, ?_, ?_, hl2, Nat.le_trans (len_put _ _ _) (by omega), fun n' j e => ?_, fun n' e => ?_⟩
        · rw [upd_same, ez, ← putK_dD (fun n : Nat => V.int (n : Nat))]
        · rw [upd_ne (Ne.symm nsm)]
          exact hM2
        · rw [aGet_put] at e
          split at e
          · rename_i en
            cases e
            exact ⟨by omega, by rw [hn, en]⟩
          · have := hSb n' j e
            exact ⟨by omega, this.2⟩
        · rw [aGet_put] at e
          split at e
          · cases e
          · rename_i en
            rw [take_snoc hn]
            exact fun z => (List.mem_append.mp z).elim (hSn n' e) fun z => en (List.mem_singleton.mp z)
      walk_at "go"
      refine x_dinS (o := (aGet Sn n).map fun n : Nat => V.int (n : Nat)) (.inl hS) (valV_dD _ _ _) ?_
      rw [Option.isSome_map]
      cases hg : aGet Sn n with
      | none =>
        walk_at "go"
        exact fin M H' _ _ s' hS hM (hMt.old hW hn (hSn n hg)) rfl rfl
      | some j =>
        obtain ⟨hj, hjn⟩ := hSb n j hg
        walk_at "go"
        refine x_dgetS (v := .int (j : Nat)) (.inl hS) (by rw [valV_dD, hg]; rfl) ?_
        walk_at "go"
        refine x_setL (k := i) hM (ixN_of (by omega) (by rw [List.length_map, hMl]; exact hi)) ?_
        have hM2 : upd H' mt (.lst ((M.map fun m : Nat => V.int (m : Nat)).set i (V.int (j : Nat)))) mt = some (.lst ((M.set i j).map fun m : Nat => V.int (m : Nat))) := by rw [upd_same, List.map_set]
        have hS2 : upd H' mt (.lst ((M.map fun m : Nat => V.int (m : Nat)).set i (V.int (j : Nat)))) sd = some (.dK (dD (fun n : Nat => V.int (n : Nat)) Sn)) := by rw [upd_ne nsm]; exact hS
        have s2 : Same H (upd H' mt (.lst ((M.map fun m : Nat => V.int (m : Nat)).set i (V.int (j : Nat))))) := Same.mut s' hmt0
        revert hM2 hS2 s2
        generalize (upd H' mt (.lst ((M.map fun m : Nat => V.int (m : Nat)).set i (V.int (j : Nat))))) = H2
        intro hM2 hS2 s2
        have hp2' := s2 _ _ hp
        walk_at "go"
        refine x_dgetS (v := .int (j : Nat)) (.inl hS2) (by rw [valV_dD, hg]; rfl) ?_
        refine x_setL (k := j) hM2 (ixN_of rfl (by rw [List.length_map, List.length_set, hMl]; omega)) ?_
        have hM3 : upd H2 mt (.lst (((M.set i j).map fun m : Nat => V.int (m : Nat)).set j (V.int (0 + (i : Int))))) mt = some (.lst (((M.set i j).set j i).map fun m : Nat => V.int (m : Nat))) := by rw [upd_same, ez, ← List.map_set]
        have hS3 : upd H2 mt (.lst (((M.set i j).map fun m : Nat => V.int (m : Nat)).set j (V.int (0 + (i : Int))))) sd = some (.dK (dD (fun n : Nat => V.int (n : Nat)) Sn)) := by rw [upd_ne nsm]; exact hS2
        have s3 : Same H (upd H2 mt (.lst (((M.set i j).map fun m : Nat => V.int (m : Nat)).set j (V.int (0 + (i : Int)))))) := Same.mut s2 hmt0
        revert hM3 hS3 s3
        generalize (upd H2 mt (.lst (((M.set i j).map fun m : Nat => V.int (m : Nat)).set j (V.int (0 + (i : Int)))))) = H3
        intro hM3 hS3 s3
        have hp3' := s3 _ _ hp
        walk_at "go"
        exact fin _ H3 _ _ s3 hS3 hM3 (hMt.new hW hn hjn hj) rfl rfl
    · rintro σ H' ⟨s', Sn, M, u, rfl, hS, hM, hMt, hSl, hSb, hSn⟩
      rw [Int.toNat_natCast] at hMt
      walk_at "go"
      exact k mt M H' hmt0 s' hM hMt.1 (hMt.full hW).2
def spBands (K : PySem.W.Frag) : Sp := fun vs H Q _ => ∃ (p : Addr) (feet : List Str), vs = [.ref p] ∧ H p = some (.lst (feet.map V.str)) ∧ IsWord feet ∧ feet.length ≤ 1000 ∧ ∀ (q : Addr) H', H q = none → Same H H' → H' q = some (.lst ((bandsOf feet).map V.str)) → Q (.ref q) H'
theorem ok_bands (B : Bi K mg) (c_l_mates : C8.Cal P w K mg base 1 "_law_mates" (spMates K) []) (F : FnP K "_law_bands" st_l_bands f fd) : FnOk P w K mg base CX0 2 f fd ["feet"] (spBands K) := by
  refine F.ok sc_l_bands (fun vs H Q E h => ?_) (fun cdv A outer s H vs Q E hr h => ?_)
  · obtain ⟨p, feet, rfl, _⟩ := h
    rfl
  · obtain ⟨p, feet, rfl, hp, hW, hl, k⟩ := h
    have G := B
    refine ⟨_, PSs.nox ((pss_cons (ps_set (i := 1) sc_l_bands.nd rfl (Or.inr rfl) (C8.pe_c c_l_mates hr (by decide) rfl (pa_cons (pv 0) pa_nil)))
      (pss_one (ps_ret (pe_lc (own := [("k", 2)]) rfl sc_l_bands.nd (pi_range1 (by rfl) G.range (pa_cons (pe_callB callLenS (by rfl) G.len PySem.boot_len (pa_cons (pv 0) pa_nil)) pa_nil)) (blkOk_by (own := [("k", 2)]) (N := ["feet", "mates", "k"]) (sc := defScope st_l_bands) (by decide +kernel)) (fun _ _ _ _ _ => (pg_name (i := 2) sc_l_bands.nd rfl (Or.inl rfl))) (fun _ _ _ _ _ => (pts_one (pt_cmpR op_gt (pe_ix (ix_listK (K := K) rfl) (pv 1) (pv 2) (fun _ _ => rfl)) (pv 2) (nomark _)))) (fun _ _ _ _ _ => (pe_ix (ix_listK (K := K) rfl) (pv 0) (pv 2) (fun _ _ => rfl)))))))), ?_⟩
    try dsimp only [cxOf]
    walk_at "go"
    refine ⟨p, feet, rfl, hp, hW, hl, fun q M H1 hq0 s1 hq hMl hMt => ?_⟩
    have hp1 := s1 _ _ hp
    walk_at "go"
    rw [List.length_map]
    refine w_lcR1 (by omega) (by omega) (by rw [Int.toNat_natCast]; exact Nat.lt_of_le_of_lt hl (by decide)) (fun i acc => acc = (bandsOf (feet.take i)).map V.str) rfl ?_ ?_
    · rintro i H' acc hi s' rfl hai R S2 hR hS2
      have hi : i < feet.length := by omega
      have hp' := s' _ _ hp1
      have hq' := s' _ _ hq
      have hb : feet[i]? = some feet[i] := List.getElem?_eq_getElem hi
      generalize feet[i] = b at hb
      have hn := pl_new hW hb
      have an : atI (feet.map V.str) (0 + (i : Int)) = some (.str b) := atI_of (k := i) (by omega) (by rw [List.getElem?_map, hb]; rfl)
      have am : atI (M.map fun m : Nat => V.int (m : Nat)) (0 + (i : Int)) = some (.int (mtW feet i : Nat)) := atI_of (k := i) (by omega) (by rw [List.getElem?_map, hMt i hi]; rfl)
      walk_at "go"
      refine ⟨rfl, ?_⟩
      walk_at "go"
      refine x_iteD (fun h => ?_) (fun h => ?_)
      · walk_at "go"
        refine hR _ _ (Same.refl _) ?_
        rw [take_snoc hb, bandsOf_snoc, if_neg fun z => hn.mp (by omega) ((mem_bandsOf _ _).mp z), List.map_append]
        rfl
      · refine hS2 _ (Same.refl _) ?_
        rw [take_snoc hb, bandsOf_snoc, if_pos ((mem_bandsOf _ _).mpr (Classical.byContradiction fun z => h (by have := hn.mpr z; omega)))]
    · rintro r H' acc hr s' hr' rfl
      rw [Int.toNat_natCast, List.take_length] at hr'
      exact k r H' (Same.free s1 hr) (Same.trans s1 s') hr'
def spLTable (K : PySem.W.Frag) : Sp := fun vs H Q _ => ∃ (p : Addr) (feet : List Str), vs = [.ref p] ∧ H p = some (.lst (feet.map V.str)) ∧ IsWord feet ∧ feet.length ≤ 1000 ∧ ∀ t H', H t = none → Same H H' → TblAt K H' t (tabW feet) → Q (.ref t) H'
theorem ok_ltable (B : Bi K mg) (c_l_mates : C8.Cal P w K mg base 1 "_law_mates" (spMates K) []) (F : FnP K "_law_table" st_l_table f fd) : FnOk P w K mg base CX0 2 f fd ["feet"] (spLTable K) := by
  refine F.ok sc_l_table (fun vs H Q E h => ?_) (fun cdv A outer s H vs Q E hr h => ?_)
  · obtain ⟨p, feet, rfl, _⟩ := h
    rfl
  · obtain ⟨p, feet, rfl, hp, hW, hl, k⟩ := h
    have G := B
    refine ⟨_, PSs.nox ((pss_cons (ps_set (i := 1) sc_l_table.nd rfl (Or.inr rfl) (C8.pe_c c_l_mates hr (by decide) rfl (pa_cons (pv 0) pa_nil)))
      (pss_cons (ps_setLc (i := 2) (own := [("k", 5)]) rfl sc_l_table.nd rfl rfl (sw_true rfl rfl rfl (by decide +kernel)) (pi_range1 (by rfl) G.range (pa_cons (pe_callB callLenS (by rfl) G.len PySem.boot_len (pa_cons (pv 0) pa_nil)) pa_nil)) (blkOk_by (own := [("k", 5)]) (N := ["feet", "mates", "lefts", "found", "a", "k", "b"]) (sc := defScope st_l_table) (by decide +kernel)) (fun _ _ _ _ _ => (pg_name (i := 5) sc_l_table.nd rfl (Or.inl rfl))) (fun _ _ _ _ _ => (pts_one (pt_cmpR op_gt (pe_ix (ix_listK (K := K) rfl) (pv 1) (pv 5) (fun _ _ => rfl)) (pv 5) (nomark _)))) (fun _ _ _ _ _ => (pv 5)))
      (pss_cons (ps_set (i := 3) sc_l_table.nd rfl (Or.inl rfl) (pe_lst pa_nil))
      (pss_cons (ps_for PassesOwn.never rfl (pi_list (pv 2)) (pg_name (i := 4) sc_l_table.nd rfl (Or.inr rfl))
        (pss_one (ps_expr (pe_bm PySem.F.plainAttrs_list PySem.F.slot_list_append PySem.F.type_list_append mt_append (pv 3) (pa_cons (pe_lc (own := [("b", 6)]) rfl sc_l_table.nd (pi_list (pv 2)) (blkOk_by (own := [("b", 6)]) (N := ["feet", "mates", "lefts", "found", "a", "k", "b"]) (sc := defScope st_l_table) (by decide +kernel)) (fun _ _ _ _ _ => (pg_name (i := 6) sc_l_table.nd rfl (Or.inl rfl))) (fun _ _ _ _ _ => pts_nil) (fun _ _ _ _ _ => (pe_callTy call_intB (by rfl) G.int (by decide +kernel) (pa_cons (pe_or (pe_chain3 op_lt op_lt op_lt (pv 4) (pv 6) (pe_ix (ix_listK (K := K) rfl) (pv 1) (pv 4) (fun _ _ => rfl)) (pe_ix (ix_listK (K := K) rfl) (pv 1) (pv 6) (fun _ _ => rfl))) (pe_one (pe_chain3 op_lt op_lt op_lt (pv 6) (pv 4) (pe_ix (ix_listK (K := K) rfl) (pv 1) (pv 6) (fun _ _ => rfl)) (pe_ix (ix_listK (K := K) rfl) (pv 1) (pv 4) (fun _ _ => rfl))))) pa_nil)))) pa_nil)))))
      (pss_one (ps_ret (pv 3)))))))), ?_⟩
    try dsimp only [cxOf]
    walk_at "go"
    refine ⟨p, feet, rfl, hp, hW, hl, fun q M H1 hq0 s1 hq hMl hMt => ?_⟩
    have hp1 := s1 _ _ hp
    have am : ∀ {k : Nat} {z : Int}, z = (k : Nat) → k < feet.length → atI (M.map fun m : Nat => V.int (m : Nat)) z = some (.int (mtW feet k : Nat)) := fun {k z} e hk => atI_of e (by rw [List.getElem?_map, hMt k hk]; rfl)
    walk_at "go"
    rw [List.length_map]
    refine w_lcR1 (by omega) (by omega) (by rw [Int.toNat_natCast]; exact Nat.lt_of_le_of_lt hl (by decide)) (fun i acc => acc = (leftsW feet i).map fun m : Nat => V.int (m : Nat)) rfl ?_ ?_
    · rintro i H' acc hi s' rfl hai R S2 hR hS2
      have hi : i < feet.length := by omega
      have hq' := s' _ _ hq
      have a1 := am (k := i) (z := 0 + (i : Int)) (by omega) hi
      walk_at "go"
      refine ⟨rfl, ?_⟩
      walk_at "go"
      refine x_iteD (fun h => ?_) (fun h => ?_)
      · walk_at "go"
        refine hR _ _ (Same.refl _) ?_
        rw [leftsW_succ, if_pos (by omega), List.map_append]
        congr 3
        omega
      · refine hS2 _ (Same.refl _) ?_
        rw [leftsW_succ, if_neg (by omega)]
    · rintro lf H2 acc hlf s2 hlf2 rfl
      rw [Int.toNat_natCast] at hlf2
      have hbl : (bandsOf feet).length ≤ 1000 := Nat.le_trans (bandsOf_len _) hl
      have hll := lefts_len hW
      have s12 := Same.trans s1 s2
      walk_at "go"
      refine ⟨Nat.zero_le _, fun t ht => ?_⟩
      have ht0 : H t = none := Same.free s12 ht
      have s3 := Same.trans s12 (Same.new (o := HO.lst []) ht)
      have hq3 := upd_old (o := HO.lst []) ht (s2 _ _ hq)
      have hlf3 := upd_old (o := HO.lst []) ht hlf2
      have nlt : lf ≠ t := ne_of_none hlf2 ht
      have nqt : q ≠ t := ne_of_none (s2 _ _ hq) ht
      walk_at "go"
      refine w_forL (xs := (leftsW feet feet.length).map fun m : Nat => V.int (m : Nat)) (SqL.of hlf3) (fun i σ H' => Kp t (upd H2 t (.lst [])) H' ∧ Same H H' ∧ ∃ (ts : List Addr) (u : Option V), H' t = some (.lst (ts.map V.ref)) ∧ ts.length = i ∧ (∀ (j : Nat) (r : Addr) (row : List Bool), ts[j]? = some r → (tabW feet)[j]? = some row → r ≠ t ∧ H' r = some (.lst (row.map bV))) ∧ σ = [some (.ref p), some (.ref q), some (.ref lf), some (.ref t), u, none, none])
        ⟨(fun _ _ _ e => e), s3, [], none, upd_same, rfl, fun j r row e => (by cases e), rfl⟩ (fun i σ H' _ ⟨kp, _⟩ => SqL.of (kp _ _ nlt hlf3)) ?_ ?_
      · rintro i x σ H' hi ⟨kp, s', ts, u, hT, hti, hts, rfl⟩
        obtain ⟨a, rfl, ha⟩ := nat_at hi
        obtain ⟨hal, ham, hab⟩ := lefts_at hW ha
        have hb : feet[a]? = some feet[a] := List.getElem?_eq_getElem hal
        rw [hb] at hab
        generalize feet[a] = b at hb hab
        have hpa := mt_pl hW hb ham
        have hlf' := kp _ _ nlt hlf3
        have hq' := kp _ _ nqt hq3
        have hil : i < (leftsW feet feet.length).length := (List.getElem?_eq_some_iff.mp ha).1
        walk_at "go"
        refine w_lcL (xs := (leftsW feet feet.length).map fun m : Nat => V.int (m : Nat)) (SqL.of hlf') (by rw [List.length_map, hll]; exact Nat.lt_of_le_of_lt hbl (by decide)) (fun m acc => acc = ((Rk.rowB (Rk.cr feet) (bandsOf feet) b).map bV).take m) rfl ?_ ?_
        · rintro m y H3 acc hy s3 rfl ham2 R2 S3 hR2 hS3
          obtain ⟨c, rfl, hc⟩ := nat_at hy
          obtain ⟨hcl, hcm, hcb⟩ := lefts_at hW hc
          have hz : feet[c]? = some feet[c] := List.getElem?_eq_getElem hcl
          rw [hz] at hcb
          generalize feet[c] = z at hz hcb
          have hpc := mt_pl hW hz hcm
          have hq3' := s3 _ _ hq'
          have a1 := am (k := a) (z := (a : Int)) rfl hal
          have a2 := am (k := c) (z := (c : Int)) rfl hcl
          have fin : ∀ b2 : Bool, b2 = decide ((a < c ∧ c < mtW feet a ∧ mtW feet a < mtW feet c) ∨ (c < a ∧ a < mtW feet c ∧ mtW feet c < mtW feet a)) → rIntB [.bl b2] H3 R2 := fun b2 e => by
            refine x_intB ?_
            refine hR2 _ _ (Same.refl _) ?_
            rw [e, ← cross_dec hW hpa hpc]
            have : ((Rk.rowB (Rk.cr feet) (bandsOf feet) b).map bV)[m]? = some (bV (Rk.cr feet b z)) := by
              unfold Rk.rowB
              rw [List.getElem?_map, List.getElem?_map, hcb]; rfl
            rw [take_snoc this]
            congr 2
            cases Rk.cr feet b z <;> rfl
          walk_at "go"
          refine ⟨rfl, ?_⟩
          walk_at "go"
          repeat' (refine x_iteD (fun _ => ?_) (fun _ => ?_) <;> walk_at "go")
          all_goals exact fin _ (by first | (symm; apply decide_eq_true; omega) | (symm; apply decide_eq_false; omega) | (apply decide_eq_decide.mpr; omega))
        · rintro r H3 acc hr s4 hr4 rfl
          rw [List.length_map, hll, List.take_of_length_le (by rw [List.length_map]; unfold Rk.rowB; rw [List.length_map]; exact Nat.le_refl _)] at hr4
          have hT3 := s4 _ _ hT
          walk_at "go"
          refine x_append hT3 (by rw [List.length_map, hti]; exact Nat.lt_of_le_of_lt (show _ ≤ 1000 by omega) (by decide)) ?_
          have nrt : r ≠ t := Ne.symm (ne_of_none hT hr)
          refine ⟨?_, Same.mut (Same.trans s' s4) ht0, ts ++ [r], _, by rw [upd_same, List.map_append]; rfl, by rw [List.length_append, hti]; rfl, fun j r' row q1 q2 => ?_, rfl⟩
          · intro x o n e
            rw [upd_ne n]
            exact s4 _ _ (kp _ _ n e)
          · rcases Nat.lt_trichotomy j ts.length with e | e | e
            · rw [List.getElem?_append_left e] at q1
              obtain ⟨n, g1⟩ := hts j r' row q1 q2
              exact ⟨n, by rw [upd_ne n]; exact s4 _ _ g1⟩
            · rw [e, List.getElem?_append_right (Nat.le_refl _), Nat.sub_self] at q1
              have e1 : r = r' := Option.some.inj q1
              have e2 : (tabW feet)[i]? = some (Rk.rowB (Rk.cr feet) (bandsOf feet) b) := by unfold tabW; rw [List.getElem?_map, hab]; rfl
              rw [e, hti, e2] at q2
              have e3 := Option.some.inj q2
              subst e1 e3
              exact ⟨nrt, by rw [upd_ne nrt]; exact hr4⟩
            · rw [List.getElem?_append_right (by omega)] at q1
              obtain ⟨m, hm⟩ : ∃ m, j - ts.length = m + 1 := ⟨j - ts.length - 1, by omega⟩
              rw [hm] at q1; cases q1
      · rintro σ H' ⟨kp, s', ts, u, hT, hti, hts, rfl⟩
        walk_at "go"
        rw [List.length_map] at hti
        exact k t H' ht0 s' ⟨ts, hT, by rw [hti, hll, tabW_len], fun i r row q1 q2 => (hts i r row q1 q2).2⟩
theorem Kq.free {b c x : Addr} {H H' : Hp} {u v : HO} (k : Kq b c H H') (hb : H' b = some u) (hc : H' c = some v) (hx : H' x = none) : H x = none := by
  cases e : H x with
  | none => rfl
  | some o =>
    have := k x o (fun z => by rw [z, hb] at hx; cases hx) (fun z => by rw [z, hc] at hx; cases hx) e
    rw [hx] at this; cases this
theorem Kq.mutn {b c x : Addr} {H H' : Hp} {o : HO} (k : Kq b c H H') (hx : H x = none) : Kq b c H (upd H' x o) := fun a u n1 n2 e => by
  rw [upd_ne (ne_of_none e hx)]
  exact k a u n1 n2 e
theorem Kp.sqt_l {H H' : Hp} {b x : Addr} {ys xs : List V} (k : Kp b H H') (hb : H b = some (.lst ys)) (h : SqT K H x xs) : SqT K H' x xs := by
  rcases h with (h | ⟨o, h⟩) | h
  · exact .inl (.inl (k _ _ (fun e => by rw [e, hb] at h; cases h) h))
  · exact .inl (.inr ⟨o, k _ _ (fun e => by rw [e, hb] at h; cases h) h⟩)
  · exact .inr h
theorem SheetAt.kp {H H' : Hp} {a b l : Addr} {arm mod : Nat} {feet : List Str} {told : List (Str × Int)} (h : SheetAt K H a arm mod feet told) (hB : BagAt H b l) (k : Kp b H H') : SheetAt K H' a arm mod feet told := by
  obtain ⟨ns, i, g, e, x, c, hb, _⟩ := hB.ex
  obtain ⟨dx, bk, wd, ft, bs, td, h1, ⟨dxb, h2⟩, h3, ⟨L, g1, g2, g3⟩, h5, h6⟩ := h.ex
  exact ⟨⟨dx, bk, wd, ft, bs, td, k _ _ (ne_of_some h1 hb (by intro z; cases z)) h1, ⟨dxb, k _ _ (ne_of_some h2 hb (by intro z; cases z)) h2⟩, k.sqt_l hb h3, ⟨L, k _ _ (ne_of_some g1 hb (by intro z; cases z)) g1, g2, fun p hp => let ⟨i, j, e1, e2⟩ := g3 p hp; ⟨i, j, k _ _ (ne_of_some e1 hb (by intro z; cases z)) e1, e2⟩⟩, k.sqt_l hb h5, k _ _ (ne_of_some h6 hb (by intro z; cases z)) h6⟩, h.tk⟩
theorem OwnAt.kp {H H' : Hp} {b l o fa na : Addr} {S : Own} (h : OwnAt H o fa na S) (hB : BagAt H b l) (k : Kp b H H') : OwnAt H' o fa na S := by
  obtain ⟨nob, nfb, nnb, _⟩ := bag_own hB h
  exact ⟨k _ _ nob h.o_, k _ _ nfb h.f_, k _ _ nnb h.n_⟩
theorem bands_two {w : List Str} (h : IsWord w) : 2 * (bandsOf w).length = w.length := by
  have hp : w.Perm (bandsOf w ++ bandsOf w) := by
    rw [List.perm_iff_count]
    intro a
    rw [List.count_append]
    by_cases ha : a ∈ w
    · rw [h.two a ha, ((nodup_bandsOf w).count), if_pos ((mem_bandsOf _ _).mpr ha)]
    · rw [List.count_eq_zero_of_not_mem ha, List.count_eq_zero_of_not_mem fun z => ha ((mem_bandsOf _ _).mp z)]
  have := hp.length_eq
  rw [List.length_append] at this
  omega
/-! ### rims with their numbers -/
def numAt (S : Own) (p : Nat) : Int := match S.feet[p]? with
  | some b => (aGet S.nums b).getD 0
  | none => 0
def woN (S : Own) (p : Nat) : Int := if p < mtW S.feet p then numAt S p else -numAt S p
def haN (w : List Str) (p : Nat) : Int := (if p < mtW w p then -1 else 1) + (if mtW w p = 0 then 1 else -1)
def rWo (S : Own) (C : List Nat) : Int := (C.map (woN S)).sum
def rHa (w : List Str) (C : List Nat) : Int := (C.map (haN w)).sum
def rOu (w : List Str) (C : List Nat) : Bool := C.any fun p => decide (mtW w p = 0)
def rNum (S : Own) (C : List Nat) : Int := redN S.mod ((S.arm : Int) * (rHa S.feet C / 2) + rWo S C)
def psW (w : List Str) (p : Nat) : Str := match w[p]? with
  | some b => if p < mtW w p then b else "-" ++ b
  | none => ""
abbrev nxW (w : List Str) (p : Nat) : Nat := Rk.prv w.length (mtW w p)
/-- a closed way along nx -/
structure Clo (w : List Str) (C : List Nat) : Prop where
  ne : C ≠ []
  lt : ∀ p ∈ C, p < w.length
  chain : ∀ i p, C[i]? = some p → (C ++ [C.headD 0])[i + 1]? = some (nxW w p)
/-- all rims of a word, as lists of places -/
structure Cycs (w : List Str) (Cs : List (List Nat)) : Prop where
  clo : ∀ C ∈ Cs, Clo w C
  nd : Cs.flatten.Nodup
  all : ∀ p, p < w.length → p ∈ Cs.flatten
  rims : Rims w Cs.length
/-- what is told of each rim -/
def RimsL (S : Own) (es : List (Int × List Str × Bool)) : Prop := (S.feet = [] ∧ es = [(redN S.mod (S.arm : Int), [], true)]) ∨ (S.feet ≠ [] ∧ ∃ Cs, Cycs S.feet Cs ∧ es = Cs.map fun C => (rNum S C, C.map (psW S.feet), rOu S.feet C))
theorem rWo_snoc (S : Own) (C : List Nat) (p : Nat) : rWo S (C ++ [p]) = rWo S C + woN S p := by
  unfold rWo
  rw [List.map_append, List.sum_append, List.map_singleton, List.sum_singleton]
theorem rHa_snoc (w : List Str) (C : List Nat) (p : Nat) : rHa w (C ++ [p]) = rHa w C + haN w p := by
  unfold rHa
  rw [List.map_append, List.sum_append, List.map_singleton, List.sum_singleton]
theorem rOu_snoc (w : List Str) (C : List Nat) (p : Nat) : rOu w (C ++ [p]) = (rOu w C || decide (mtW w p = 0)) := by
  unfold rOu
  rw [List.any_append, List.any_cons, List.any_nil, Bool.or_false]
theorem rHa_even (w : List Str) (C : List Nat) : rHa w C % 2 = 0 := by
  induction C with
  | nil => rfl
  | cons p C ih =>
    unfold rHa at ih ⊢
    rw [List.map_cons, List.sum_cons]
    have : haN w p % 2 = 0 := by
      unfold haN
      split <;> split <;> rfl
    omega
theorem red_sub (mod : Nat) (x : Int) : (mod : Int) ∣ redN mod x - x := by
  unfold redN
  split
  · rename_i h
    rw [h, Int.sub_self]
    exact Int.dvd_zero _
  · have := Int.mul_ediv_add_emod x mod
    refine ⟨-(x / mod), ?_⟩
    rw [Int.mul_neg]
    omega
/-! sums over all places -/
theorem sum_perm {l m : List Int} (h : l.Perm m) : l.sum = m.sum := by
  induction h with
  | nil => rfl
  | cons x _ ih => rw [List.sum_cons, List.sum_cons, ih]
  | swap x y l => rw [List.sum_cons, List.sum_cons, List.sum_cons, List.sum_cons]; omega
  | trans _ _ a b => rw [a, b]
theorem mt_perm {w : List Str} (h : IsWord w) : ((List.range w.length).map (mtW w)).Perm (List.range w.length) := by
  have nd : ((List.range w.length).map (mtW w)).Nodup := Rk.nd_map List.nodup_range fun x hx y hy e => by
    have hx := List.mem_range.mp hx
    have hy := List.mem_range.mp hy
    rw [← (mt_facts h hx).2.2.2.1, ← (mt_facts h hy).2.2.2.1, e]
  refine (List.perm_ext_iff_of_nodup nd List.nodup_range).mpr fun a => ?_
  constructor
  · intro ha
    obtain ⟨p, hp, rfl⟩ := List.mem_map.mp ha
    exact List.mem_range.mpr (mt_facts h (List.mem_range.mp hp)).1
  · intro ha
    have ha := List.mem_range.mp ha
    exact List.mem_map.mpr ⟨mtW w a, List.mem_range.mpr (mt_facts h ha).1, (mt_facts h ha).2.2.2.1⟩
theorem sum_anti {w : List Str} (h : IsWord w) (f : Nat → Int) (hf : ∀ p, p < w.length → f (mtW w p) = -f p) : ((List.range w.length).map f).sum = 0 := by
  have h1 := sum_perm ((mt_perm h).map f)
  rw [List.map_map] at h1
  have h2 : ∀ (l : List Nat), (∀ p ∈ l, f (mtW w p) = -f p) → (l.map (f ∘ mtW w)).sum = -(l.map f).sum := fun l hl => by
    induction l with
    | nil => rfl
    | cons a l ih =>
      rw [List.map_cons, List.map_cons, List.sum_cons, List.sum_cons, ih fun p hp => hl p (List.mem_cons_of_mem _ hp)]
      have := hl a (List.mem_cons_self ..)
      show f (mtW w a) + _ = _
      omega
  have h3 := h2 (List.range w.length) fun p hp => hf p (List.mem_range.mp hp)
  omega
theorem wo_anti {S : Own} (h : IsWord S.feet) {p : Nat} (hp : p < S.feet.length) : woN S (mtW S.feet p) = -woN S p := by
  obtain ⟨f1, f2, f3, f4, f5⟩ := mt_facts h hp
  have e : numAt S (mtW S.feet p) = numAt S p := by unfold numAt; rw [f3]
  unfold woN
  rw [f4, e]
  by_cases l : p < mtW S.feet p
  · rw [if_pos l, if_neg (by omega)]
  · rw [if_neg l, if_pos (by omega), Int.neg_neg]
theorem sum_add {l : List Nat} (f g : Nat → Int) : (l.map fun p => f p + g p).sum = (l.map f).sum + (l.map g).sum := by
  induction l with
  | nil => rfl
  | cons a l ih => rw [List.map_cons, List.map_cons, List.map_cons, List.sum_cons, List.sum_cons, List.sum_cons, ih]; omega
theorem sum_zeroAt (n : Nat) (hn : 0 < n) : ((List.range n).map fun q => if q = 0 then (1 : Int) else -1).sum = 2 - n := by
  induction n with
  | zero => omega
  | succ n ih =>
    rw [List.range_succ, List.map_append, List.sum_append, List.map_singleton, List.sum_singleton]
    by_cases e : n = 0
    · subst e; rfl
    · rw [ih (by omega), if_neg e]; omega
theorem ha_sum {w : List Str} (h : IsWord w) (hn : w ≠ []) : rHa w (List.range w.length) = 2 - (w.length : Int) := by
  have e : rHa w (List.range w.length) = ((List.range w.length).map fun p => if p < mtW w p then (-1 : Int) else 1).sum + ((List.range w.length).map fun p => if mtW w p = 0 then (1 : Int) else -1).sum := sum_add _ _
  have e1 := sum_anti h (fun p => if p < mtW w p then (-1 : Int) else 1) fun p hp => by
    obtain ⟨f1, f2, f3, f4, f5⟩ := mt_facts h hp
    show (if mtW w p < mtW w (mtW w p) then (-1 : Int) else 1) = -(if p < mtW w p then (-1 : Int) else 1)
    rw [f4]
    by_cases l : p < mtW w p
    · rw [if_pos l, if_neg (by omega)]; rfl
    · rw [if_neg l, if_pos (by omega)]
  have e2 := sum_perm ((mt_perm h).map fun q => if q = 0 then (1 : Int) else -1)
  rw [List.map_map] at e2
  rw [e, e1]
  have e3 := sum_zeroAt w.length (List.length_pos_iff.mpr hn)
  rw [e3] at e2
  have : ((List.range w.length).map fun p => if mtW w p = 0 then (1 : Int) else -1).sum = 2 - (w.length : Int) := e2
  omega
theorem Cycs.perm {w : List Str} {Cs : List (List Nat)} (h : Cycs w Cs) : Cs.flatten.Perm (List.range w.length) := by
  refine (List.perm_ext_iff_of_nodup h.nd List.nodup_range).mpr fun a => ?_
  rw [List.mem_range]
  constructor
  · intro ha
    obtain ⟨C, hC, h2⟩ := List.mem_flatten.mp ha
    exact (h.clo C hC).lt a h2
  · exact h.all a
/-- the rims' numbers add up -/
theorem rims_sum {S : Own} (h : IsWord S.feet) {es : List (Int × List Str × Bool)} (hr : RimsL S es) : (S.mod : Int) ∣ (es.map (·.1)).sum - (S.arm : Int) * (1 - ((bandsOf S.feet).length : Int)) := by
  rcases hr with ⟨e, rfl⟩ | ⟨hn, Cs, hC, rfl⟩
  · rw [e]
    have := red_sub S.mod (S.arm : Int)
    show (S.mod : Int) ∣ redN S.mod (S.arm : Int) + 0 - (S.arm : Int) * (1 - 0)
    rw [Int.add_zero, Int.sub_zero, Int.mul_one]
    exact this
  · rw [List.map_map]
    have key : ∀ Cs : List (List Nat), ∃ k : Int, (Cs.map fun C => rNum S C).sum = (S.arm : Int) * (rHa S.feet Cs.flatten / 2) + rWo S Cs.flatten + (S.mod : Int) * k := fun Cs => by
      induction Cs with
      | nil => exact ⟨0, by show (0 : Int) = (S.arm : Int) * (0 / 2) + 0 + (S.mod : Int) * 0; simp⟩
      | cons C Cs ih =>
        obtain ⟨k, hk⟩ := ih
        obtain ⟨k', hk'⟩ := red_sub S.mod ((S.arm : Int) * (rHa S.feet C / 2) + rWo S C)
        refine ⟨k' + k, ?_⟩
        rw [List.map_cons, List.sum_cons, hk, List.flatten_cons]
        have e1 : rHa S.feet (C ++ Cs.flatten) = rHa S.feet C + rHa S.feet Cs.flatten := by unfold rHa; rw [List.map_append, List.sum_append]
        have e2 : rWo S (C ++ Cs.flatten) = rWo S C + rWo S Cs.flatten := by unfold rWo; rw [List.map_append, List.sum_append]
        have a1 := rHa_even S.feet C
        have a2 := rHa_even S.feet Cs.flatten
        rw [e1, e2, show (rHa S.feet C + rHa S.feet Cs.flatten) / 2 = rHa S.feet C / 2 + rHa S.feet Cs.flatten / 2 by omega, Int.mul_add, Int.mul_add]
        have : rNum S C = redN S.mod ((S.arm : Int) * (rHa S.feet C / 2) + rWo S C) := rfl
        rw [this]
        omega
    obtain ⟨k, hk⟩ := key Cs
    have e1 : rHa S.feet Cs.flatten = 2 - (S.feet.length : Int) := by
      rw [← ha_sum h hn]
      exact sum_perm (hC.perm.map _)
    have e2 : rWo S Cs.flatten = 0 := by
      rw [← sum_anti h (woN S) fun p hp => wo_anti h hp]
      exact sum_perm (hC.perm.map _)
    have e3 : S.feet.length = 2 * (bandsOf S.feet).length := (bands_two h).symm
    rw [e1, e2, e3] at hk
    refine ⟨k, ?_⟩
    have : (Cs.map ((fun x : Int × List Str × Bool => x.1) ∘ fun C => (rNum S C, C.map (psW S.feet), rOu S.feet C))).sum = (Cs.map fun C => rNum S C).sum := rfl
    rw [this, hk, show (2 - ((2 * (bandsOf S.feet).length : Nat) : Int)) / 2 = 1 - ((bandsOf S.feet).length : Int) by omega]
    omega
theorem rims_many {S : Own} {es : List (Int × List Str × Bool)} (hr : RimsL S es) : Rims S.feet es.length := by
  rcases hr with ⟨e, rfl⟩ | ⟨hn, Cs, hC, rfl⟩
  · exact .inl ⟨e, rfl⟩
  · rw [List.length_map]
    exact hC.rims
theorem nd_ne {l : List Nat} : l.Nodup → ∀ i j, i < j → j < l.length → l[i]? ≠ l[j]? := by
  induction l with
  | nil => intro _ i j _ h; exact absurd h (Nat.not_lt_zero _)
  | cons a l ih =>
    intro nd i j hij hj e
    obtain ⟨n1, n2⟩ := List.nodup_cons.mp nd
    obtain ⟨j, rfl⟩ : ∃ j', j = j' + 1 := ⟨j - 1, by omega⟩
    rw [List.getElem?_cons_succ] at e
    have hj' : j < l.length := by rw [List.length_cons] at hj; omega
    cases i with
    | zero =>
      rw [List.getElem?_eq_getElem hj'] at e
      exact n1 (Option.some.inj (show some a = some l[j] from e) ▸ List.getElem_mem hj')
    | succ i =>
      rw [List.getElem?_cons_succ] at e
      exact ih n2 i j (by omega) hj' e
/-- a way that comes back is closed -/
theorem clo_of {w : List Str} {C U : List Nat} {i q k : Nat} (hW : IsWord w) (h : Rk.Pth (fun p => Rk.prv w.length (mtW w p)) w.length U C i q) (hU : Rk.Cyc (fun p => Rk.prv w.length (mtW w p)) w.length U k) (hC : C ≠ []) (hq : q ∈ C ++ U) : Clo w C := by
  have inj : ∀ a b, a < w.length → b < w.length → nxW w a = nxW w b → a = b := fun a b ha hb e => Rk.Mate.inj (wd_of hW) (mt_ok hW) a b ha hb e
  have hdis : ∀ p ∈ C, p ∉ U := fun p hp hu => (List.nodup_append.mp h.nd).2.2 p hp p hu rfl
  have ndC := (List.nodup_append.mp h.nd).1
  have hback : ∀ p, p < w.length → nxW w p ∈ U → p ∈ U := fun p hp hu => by
    have hs := Rk.sub_all (L := U.map (nxW w)) (M := U) (Rk.nd_map hU.nd fun x hx y hy e => inj x y (hU.lt x hx) (hU.lt y hy) e) (fun x hx => by
      obtain ⟨y, hy, rfl⟩ := List.mem_map.mp hx
      exact hU.cl y hy) (by rw [List.length_map]; exact Nat.le_refl _) _ hu
    obtain ⟨y, hy, e⟩ := List.mem_map.mp hs
    exact inj y p (hU.lt y hy) hp e ▸ hy
  have hnx : ∀ p ∈ C, nxW w p ∈ C := fun p hp => by
    obtain ⟨i, hi⟩ := List.getElem?_of_mem hp
    have h1 := h.chain i p hi
    have h2 := List.mem_of_getElem? h1
    have h3 : nxW w p ∈ C ++ U := by
      rcases List.mem_append.mp h2 with z | z
      · exact List.mem_append_left _ z
      · have e : nxW w p = q := List.mem_singleton.mp z
        rw [e]; exact hq
    rcases List.mem_append.mp h3 with z | z
    · exact z
    · exact (hdis p hp (hback p (h.lt p hp) z)).elim
  have h0 : 0 < C.length := List.length_pos_iff.mpr hC
  have c0 : C[0]? = some (C.headD 0) := by
    cases C with
    | nil => exact absurd rfl hC
    | cons c C => rfl
  have hs := Rk.sub_all (L := C.map (nxW w)) (M := C) (Rk.nd_map ndC fun x hx y hy e => inj x y (h.lt x hx) (h.lt y hy) e) (fun x hx => by
      obtain ⟨y, hy, rfl⟩ := List.mem_map.mp hx
      exact hnx y hy) (by rw [List.length_map]; exact Nat.le_refl _) _ (List.mem_of_getElem? c0)
  obtain ⟨p, hp, e⟩ := List.mem_map.mp hs
  obtain ⟨j, hj⟩ := List.getElem?_of_mem hp
  have h1 := h.chain j p hj
  have hjl := (List.getElem?_eq_some_iff.mp hj).1
  have e : Rk.prv w.length (mtW w p) = C.headD 0 := e
  have h1 : (C ++ [q])[j + 1]? = some (Rk.prv w.length (mtW w p)) := h1
  rw [e] at h1
  have eq : q = C.headD 0 := by
    rcases Nat.lt_or_ge (j + 1) C.length with l | l
    · rw [List.getElem?_append_left l] at h1
      have := nd_ne ndC 0 (j + 1) (by omega) l
      rw [c0, h1] at this
      exact absurd rfl this
    · have : j + 1 = C.length := by omega
      rw [this, List.getElem?_append_right (Nat.le_refl _), Nat.sub_self] at h1
      exact Option.some.inj h1
  refine ⟨hC, h.lt, fun i p hp => ?_⟩
  rw [← eq]
  exact h.chain i p hp
theorem Pth_start {w : List Str} {C U : List Nat} {i q : Nat} (h : Rk.Pth (fun p => Rk.prv w.length (mtW w p)) w.length U C i q) (hC : C ≠ []) : C.headD 0 = i := by
  have := h.start
  cases C with
  | nil => exact absurd rfl hC
  | cons c C => exact Option.some.inj this
/-! fixed points and ends of the others -/
theorem Clo.nx {w : List Str} {C : List Nat} (h : Clo w C) : ∀ p ∈ C, nxW w p ∈ C := fun p hp => by
  obtain ⟨i, hi⟩ := List.getElem?_of_mem hp
  have h1 := List.mem_of_getElem? (h.chain i p hi)
  rcases List.mem_append.mp h1 with z | z
  · exact z
  · rw [List.mem_singleton.mp z]
    cases C with
    | nil => exact absurd rfl h.ne
    | cons c C => exact List.mem_cons_self ..
theorem Clo.fix {w : List Str} {C : List Nat} (h : Clo w C) (nd : C.Nodup) {p : Nat} (hp : p ∈ C) (e : nxW w p = p) : C = [p] := by
  obtain ⟨i, hi⟩ := List.getElem?_of_mem hp
  have hil := (List.getElem?_eq_some_iff.mp hi).1
  have h1 := h.chain i p hi
  rw [e] at h1
  have hl : i + 1 = C.length := by
    rcases Nat.lt_or_ge (i + 1) C.length with l | l
    · rw [List.getElem?_append_left l] at h1
      have := nd_ne nd i (i + 1) (by omega) l
      rw [hi, h1] at this
      exact absurd rfl this
    · omega
  rw [hl, List.getElem?_append_right (Nat.le_refl _), Nat.sub_self] at h1
  have h2 : C.headD 0 = p := Option.some.inj h1
  cases C with
  | nil => exact absurd rfl h.ne
  | cons c C =>
    have h2 : c = p := h2
    subst h2
    cases i with
    | zero =>
      have : C.length = 0 := by rw [List.length_cons] at hl; omega
      rw [List.eq_nil_of_length_eq_zero this]
    | succ i =>
      exfalso
      have := nd_ne nd 0 (i + 1) (by omega) hil
      rw [hi] at this
      exact this rfl
theorem x_neNilT {K : PySem.W.Frag} {H : Hp} {Q : VK} {p q : Addr} {l : List Str} (hp : SqL K H p (l.map V.str)) (hq : SqL K H q []) (h : ∀ x ∈ l, PyData.canLay0 (.str x) = true) (k : Q (.bl (!decide (l = []))) H) : rNeD K (.ref p) (.ref q) H Q := by
  have h1 : ∀ l : List Str, (∀ x ∈ l, PyData.canLay0 (.str x) = true) → PyData.canLayAll0 (l.map PyData.str) = true := fun l => by
    induction l with
    | nil => intro _; simp only [List.map_nil, PyData.canLayAll0]
    | cons x l ih =>
      intro h
      simp only [List.map_cons, PyData.canLayAll0, Bool.and_eq_true]
      exact ⟨h x (List.mem_cons_self ..), ih fun y hy => h y (List.mem_cons_of_mem _ hy)⟩
  have h2 : ∀ l : List Str, (∀ x ∈ l, PyData.canLay0 (.str x) = true) → SeqAt.shaped (.list (l.map PyData.str)) = true := fun l h => by
    unfold SeqAt.shaped
    have g1 : PyData.canLay0 (.list (l.map PyData.str)) = true := by
      simp only [PyData.canLay0]
      exact h1 l h
    have g2 := depth_strs l
    have g3 : PyData.depth (.list (l.map PyData.str)) ≤ 64 := by
      simp only [PyData.depth]
      omega
    rw [g1, Bool.true_and]
    exact decide_eq_true g3
  exact ⟨.list (l.map PyData.str), .list [], .lst hp (dp_strs l), .lst hq .nil, h2 l h, h2 [] (fun x hx => by cases hx), by rw [eqv_nil]; exact k⟩
theorem minus_ok {x : Str} (h : IsName x) : ("-" : Str) ++ x = SX.S (45 :: x.cps.toList) ∧ PyData.canLay0 (.str (("-" : Str) ++ x)) = true := by
  obtain ⟨c, ds, rfl, h1, h2, h3, h4⟩ := h
  have e : ("-" : Str) ++ SX.S (c :: ds) = SX.S (45 :: c :: ds) := by
    show (⟨#[45] ++ (c :: ds).toArray⟩ : Str) = ⟨(45 :: c :: ds).toArray⟩
    congr 1
    simp
  refine ⟨e, ?_⟩
  rw [e]
  show PyData.strOk (SX.S (45 :: c :: ds)) = true
  unfold PyData.strOk
  rw [show (SX.S (45 :: c :: ds)).cps = (45 :: c :: ds).toArray from rfl, List.all_toArray]
  rw [List.all_eq_true]
  intro d hd
  refine decide_eq_true ?_
  rcases List.mem_cons.mp hd with e | hd
  · omega
  · rcases List.mem_cons.mp hd with e | hd
    · omega
    · have := h4 d hd
      omega
theorem sub_range {C : List Nat} {n : Nat} (nd : C.Nodup) (h : ∀ p ∈ C, p < n) (l : n ≤ C.length) : ∀ p, p < n → p ∈ C := fun p hp => by
  refine Rk.sub_all (L := C) (M := List.range n) nd (fun x hx => List.mem_range.mpr (h x hx)) (by rw [List.length_range]; exact l) p (List.mem_range.mpr hp)
/-- the told rims on the heap, off two lists -/
def EntsAt (H : Hp) (P : Addr → Prop) (xs : List V) (es : List (Int × List Str × Bool)) : Prop := xs.length = es.length ∧ ∀ (i : Nat) (v : V) (e : Int × List Str × Bool), xs[i]? = some v → es[i]? = some e → ∃ q r : Addr, v = .ref q ∧ P q ∧ P r ∧ H q = some (.lst [.int e.1, .ref r, .bl e.2.2]) ∧ H r = some (.lst (e.2.1.map V.str))
theorem EntsAt.kq {H H' : Hp} {u f : Addr} {xs : List V} {es : List (Int × List Str × Bool)} (h : EntsAt H (fun a => a ≠ u ∧ a ≠ f) xs es) (k : Kq u f H H') : EntsAt H' (fun a => a ≠ u ∧ a ≠ f) xs es :=
  ⟨h.1, fun i v e h1 h2 => let ⟨q, r, e1, n1, n2, g1, g2⟩ := h.2 i v e h1 h2; ⟨q, r, e1, n1, n2, k _ _ n1.1 n1.2 g1, k _ _ n2.1 n2.2 g2⟩⟩
theorem EntsAt.same {H H' : Hp} {P : Addr → Prop} {xs : List V} {es : List (Int × List Str × Bool)} (h : EntsAt H P xs es) (k : Same H H') : EntsAt H' P xs es :=
  ⟨h.1, fun i v e h1 h2 => let ⟨q, r, e1, n1, n2, g1, g2⟩ := h.2 i v e h1 h2; ⟨q, r, e1, n1, n2, k _ _ g1, k _ _ g2⟩⟩
theorem EntsAt.snoc {H : Hp} {P : Addr → Prop} {xs : List V} {es : List (Int × List Str × Bool)} (h : EntsAt H P xs es) {q r : Addr} {e : Int × List Str × Bool} (n1 : P q) (n2 : P r) (g1 : H q = some (.lst [.int e.1, .ref r, .bl e.2.2])) (g2 : H r = some (.lst (e.2.1.map V.str))) : EntsAt H P (xs ++ [.ref q]) (es ++ [e]) := by
  refine ⟨by rw [List.length_append, List.length_append, h.1]; rfl, fun i v e' h1 h2 => ?_⟩
  rcases Nat.lt_or_ge i xs.length with l | l
  · rw [List.getElem?_append_left l] at h1
    rw [List.getElem?_append_left (by rw [← h.1]; exact l)] at h2
    exact h.2 i v e' h1 h2
  · rw [List.getElem?_append_right l] at h1
    rw [List.getElem?_append_right (by rw [← h.1]; exact l), ← h.1] at h2
    cases hk : i - xs.length with
    | zero =>
      rw [hk] at h1 h2
      cases h1; cases h2
      exact ⟨q, r, rfl, n1, n2, g1, g2⟩
    | succ k => rw [hk] at h1; cases h1
def entW (S : Own) (C : List Nat) : Int × List Str × Bool := (rNum S C, C.map (psW S.feet), rOu S.feet C)
def RimsAt (H : Hp) (p : Addr) (es : List (Int × List Str × Bool)) : Prop := ∃ xs, H p = some (.lst xs) ∧ EntsAt H (fun _ => True) xs es
def spLRims : Sp := fun vs H Q _ => ∃ (o fa na : Addr) (S : Own), vs = [.ref o] ∧ OwnAt H o fa na S ∧ S.Ok ∧ ∀ (p : Addr) (es : List (Int × List Str × Bool)) H', H p = none → Same H H' → RimsAt H' p es → RimsL S es → Q (.ref p) H'
theorem ok_lrims (B : Bi K mg) (c_l_red : C8.Cal P w K mg base 1 "_law_red" spRed []) (c_l_mates : C8.Cal P w K mg base 1 "_law_mates" (spMates K) []) (F : FnP K "_law_rims" st_l_rims f fd) : FnOk P w K mg base CX0 2 f fd ["own"] spLRims := by
  refine F.ok sc_l_rims (fun vs H Q E h => ?_) (fun cdv A outer s H vs Q E hr h => ?_)
  · obtain ⟨o, fa, na, S, rfl, _⟩ := h
    rfl
  · obtain ⟨o, fa, na, S, rfl, hO, hK, k⟩ := h
    have G := B
    have hln := hK.ln
    have ha1 := hK.a1
    have ha2 := hK.a2
    have hm2 := hK.m2
    have hO1 := hO.o_
    have hO2 := hO.f_
    refine ⟨_, PSs.nox ((pss_cons (ps_asg (pv 0) (pg_unl rfl (pgs_cons (pg_name (i := 1) sc_l_rims.nd rfl (Or.inl rfl)) (pgs_cons (pg_name (i := 2) sc_l_rims.nd rfl (Or.inl rfl)) (pgs_cons (pg_name (i := 3) sc_l_rims.nd rfl (Or.inl rfl)) (pgs_cons (pg_name (i := 4) sc_l_rims.nd rfl (Or.inl rfl)) pgs_nil))))))
      (pss_cons (ps_if (pt_cmpR (op_eqD hr.units) (pv 3) (pe_lst pa_nil) (nomark _))
        (pss_one (ps_ret (pe_lst (pa_cons (pe_lst (pa_cons (C8.pe_c c_l_red hr (by decide) rfl (pa_cons (pv 2) (pa_cons (pv 1) pa_nil))) (pa_cons (pe_lst pa_nil) (pa_cons pe_bl pa_nil)))) pa_nil))))
        pss_nil)
      (pss_cons (ps_set (i := 5) sc_l_rims.nd rfl (Or.inl rfl) (C8.pe_c c_l_mates hr (by decide) rfl (pa_cons (pv 3) pa_nil)))
      (pss_cons (ps_set (i := 6) sc_l_rims.nd rfl (Or.inl rfl) (pe_op op_rep (pe_lst (pa_cons pe_bl pa_nil)) (pe_callB callLenS (by rfl) G.len PySem.boot_len (pa_cons (pv 3) pa_nil))))
      (pss_cons (ps_set (i := 7) sc_l_rims.nd rfl (Or.inl rfl) (pe_lst pa_nil))
      (pss_cons (ps_for PassesOwn.never rfl (pi_range1 (by rfl) G.range (pa_cons (pe_callB callLenS (by rfl) G.len PySem.boot_len (pa_cons (pv 3) pa_nil)) pa_nil)) (pg_name (i := 8) sc_l_rims.nd rfl (Or.inl rfl))
        (pss_cons (ps_set (i := 9) sc_l_rims.nd rfl (Or.inl rfl) (pv 8))
        (pss_cons (ps_set (i := 10) sc_l_rims.nd rfl (Or.inl rfl) pe_int)
        (pss_cons (ps_set (i := 11) sc_l_rims.nd rfl (Or.inl rfl) pe_int)
        (pss_cons (ps_set (i := 12) sc_l_rims.nd rfl (Or.inl rfl) (pe_lst pa_nil))
        (pss_cons (ps_set (i := 13) sc_l_rims.nd rfl (Or.inl rfl) pe_bl)
        (C8.pss_cut (ps_for PassesOwn.never rfl (pi_range1 (by rfl) G.range (pa_cons (pe_callB callLenS (by rfl) G.len PySem.boot_len (pa_cons (pv 3) pa_nil)) pa_nil)) (pg_name (i := 14) sc_l_rims.nd rfl (Or.inl rfl))
          (pss_cons (ps_if (pt_val (pe_ix ix_list (pv 6) (pv 9) (fun _ _ => rfl)))
            (pss_one ps_break)
            pss_nil)
          (pss_cons (ps_asg pe_bl (pg_sub (pv 6) (pv 9) set_list))
          (pss_cons (ps_set (i := 15) sc_l_rims.nd rfl (Or.inl rfl) (pe_ix ix_list (pv 5) (pv 9) (fun _ _ => rfl)))
          (pss_cons (ps_set (i := 16) sc_l_rims.nd rfl (Or.inl rfl) (pe_cmpR op_lt (pv 9) (pv 15) (nomark _)))
          (pss_cons (ps_expr (pe_bm PySem.F.plainAttrs_list PySem.F.slot_list_append PySem.F.type_list_append mt_append (pv 12) (pa_cons (pe_ifExp (pt_val (pv 16)) (pe_ix ix_list (pv 3) (pv 9) (fun _ _ => rfl)) (pe_op op_addS pe_str (pe_ix ix_list (pv 3) (pv 9) (fun _ _ => rfl)))) pa_nil)))
          (pss_cons (ps_set (i := 11) sc_l_rims.nd rfl (Or.inl rfl) (pe_op op_add (pv 11) (pe_ifExp (pt_val (pv 16)) (pe_dget (hu_of hr) (pv 4) (pe_ix ix_list (pv 3) (pv 9) (fun _ _ => rfl)) (fun _ _ => rfl)) (pe_un un_neg (pe_dget (hu_of hr) (pv 4) (pe_ix ix_list (pv 3) (pv 9) (fun _ _ => rfl)) (fun _ _ => rfl))))))
          (pss_cons (ps_set (i := 10) sc_l_rims.nd rfl (Or.inl rfl) (pe_op op_add (pe_op op_add (pv 10) (pe_ifExp (pt_val (pv 16)) (pe_un un_neg pe_int) pe_int)) (pe_ifExp (pt_cmpR op_eq (pv 15) pe_int (nomark _)) pe_int (pe_un un_neg pe_int))))
          (pss_cons (ps_set (i := 13) sc_l_rims.nd rfl (Or.inl rfl) (pe_or (pv 13) (pe_one (pe_cmpR op_eq (pv 15) pe_int (nomark _)))))
          (pss_one (ps_set (i := 9) sc_l_rims.nd rfl (Or.inl rfl) (pe_ifExp (pt_cmpR op_gt (pv 15) pe_int (nomark _)) (pe_op op_sub (pv 15) pe_int) (pe_op op_sub (pe_callB callLenS (by rfl) G.len PySem.boot_len (pa_cons (pv 3) pa_nil)) pe_int)))))))))))))
        (pss_one (ps_if (pt_cmpR (op_neD hr.units) (pv 12) (pe_lst pa_nil) (nomark _))
          (pss_one (ps_expr (pe_bm PySem.F.plainAttrs_list PySem.F.slot_list_append PySem.F.type_list_append mt_append (pv 7) (pa_cons (pe_lst (pa_cons (C8.pe_c c_l_red hr (by decide) rfl (pa_cons (pv 2) (pa_cons (pe_op op_add (pe_op op_mul (pv 1) (pe_op op_fdiv (pv 10) pe_int)) (pv 11)) pa_nil))) (pa_cons (pv 12) (pa_cons (pv 13) pa_nil)))) pa_nil))))
          pss_nil)))))))))
      (pss_one (ps_ret (pv 7)))))))))), ?_⟩
    try dsimp only [cxOf]
    walk_at "go"
    refine ⟨Nat.zero_le _, fun q0 hq0 => ?_⟩
    walk_at "go"
    refine x_eqNil (l := S.feet) (SqL.of (upd_old hq0 hO2)) (SqL.of upd_same) hK.wd.nm ?_
    walk_at "go"
    have sA : Same H (upd H q0 (.lst [])) := Same.new hq0
    revert sA
    generalize upd H q0 (.lst []) = HA
    intro sA
    refine x_iteD (fun he => ?_) (fun he => ?_)
    · walk_at "go"
      refine ⟨S.mod, (S.arm : Int), rfl, by omega, ?_⟩
      walk_at "go"
      refine ⟨Nat.zero_le _, fun q1 hq1 => ?_⟩
      walk_at "go"
      refine ⟨by show 3 ≤ sizeLine; decide, fun q2 hq2 => ?_⟩
      walk_at "go"
      refine ⟨by show 1 ≤ sizeLine; decide, fun q3 hq3 => ?_⟩
      have s3 := Same.trans sA (Same.trans (Same.new (o := HO.lst []) hq1) (Same.new (o := HO.lst [.int (redN S.mod (S.arm : Int)), .ref q1, .bl true]) hq2))
      have h1 : (upd (upd HA q1 (.lst [])) q2 (.lst [.int (redN S.mod (S.arm : Int)), .ref q1, .bl true])) q1 = some (.lst []) := upd_old hq2 upd_same
      exact k q3 _ _ (Same.free s3 hq3) (Same.trans s3 (Same.new hq3)) ⟨_, upd_same, rfl, fun i v e e1 e2 => by
        cases i with
        | zero => cases e1; cases e2; exact ⟨q2, q1, rfl, trivial, trivial, upd_old hq3 upd_same, upd_old hq3 h1⟩
        | succ i => cases e1⟩ (.inl ⟨he, rfl⟩)
    · walk_at "go"
      have hN : 0 < S.feet.length := List.length_pos_iff.mpr he
      refine ⟨fa, S.feet, rfl, sA _ _ hO2, hK.wd, by omega, fun q M H1 hq0' s1 hq hMl hMt => ?_⟩
      have s01 := Same.trans sA s1
      have hO21 := s01 _ _ hO2
      have am : ∀ {k : Nat} {z : Int}, z = (k : Nat) → k < S.feet.length → atI (M.map fun m : Nat => V.int (m : Nat)) z = some (.int (mtW S.feet k : Nat)) := fun {k z} e hk => atI_of e (by rw [List.getElem?_map, hMt k hk]; rfl)
      walk_at "go"
      refine ⟨by show 1 ≤ sizeLine; decide, fun q1 hq1 => ?_⟩
      walk_at "go"
      rw [List.length_map]
      refine x_rep (xs := [V.bl false]) upd_same (by omega) (by omega) (by show 1 * _ ≤ _; exact Nat.le_trans (show _ ≤ 400 by omega) (by decide)) fun ul hul => ?_
      rw [rep_one, show ((S.feet.length : Nat) : Int).toNat = S.feet.length from Int.toNat_natCast _]
      have s12 := Same.trans s01 (Same.trans (Same.new (o := HO.lst [V.bl false]) hq1) (Same.new (o := HO.lst (List.replicate S.feet.length (V.bl false))) hul))
      have hu2 : (upd (upd H1 q1 (.lst [V.bl false])) ul (.lst (List.replicate S.feet.length (V.bl false)))) ul = some (.lst ((List.replicate S.feet.length false).map V.bl)) := by rw [upd_same, List.map_replicate]
      have hul0 : H ul = none := Same.free (Same.trans s01 (Same.new (o := HO.lst [V.bl false]) hq1)) hul
      have hq2 : (upd (upd H1 q1 (.lst [V.bl false])) ul (.lst (List.replicate S.feet.length (V.bl false)))) q = _ := upd_old hul (upd_old hq1 hq)
      have nqu : q ≠ ul := ne_of_none (upd_old hq1 hq) hul
      revert s12 hu2 hq2
      generalize (upd (upd H1 q1 (.lst [V.bl false])) ul (.lst (List.replicate S.feet.length (V.bl false)))) = H2
      intro s12 hu2 hq2
      walk_at "go"
      refine ⟨Nat.zero_le _, fun fl hfl => ?_⟩
      have s13 := Same.trans s12 (Same.new (o := HO.lst []) hfl)
      have hfl0 : H fl = none := Same.free s12 hfl
      have nuf : ul ≠ fl := ne_of_none hu2 hfl
      have nqf : q ≠ fl := ne_of_none hq2 hfl
      have hu3 := upd_old (o := HO.lst []) hfl hu2
      have hq3 := upd_old (o := HO.lst []) hfl hq2
      have hf3 : (upd H2 fl (.lst [])) fl = some (.lst []) := upd_same
      have hO23 := s13 _ _ hO2
      have hO33 := s13 _ _ hO.n_
      have nfu : fa ≠ ul := ne_of_none hO2 hul0
      have nff : fa ≠ fl := ne_of_none hO2 hfl0
      have nnu : na ≠ ul := ne_of_none hO.n_ hul0
      have nnf : na ≠ fl := ne_of_none hO.n_ hfl0
      revert s13 hu3 hq3 hf3 hO23 hO33
      generalize (upd H2 fl (.lst [])) = H3
      intro s13 hu3 hq3 hf3 hO23 hO33
      walk_at "go"
      rw [List.length_map]
      refine w_forR1 (by omega) (by omega) (fun i σ H' => Kq ul fl H3 H' ∧ ∃ (U : List Nat) (Cs : List (List Nat)) (us : List Bool) (xs : List V) (u1 u2 u3 u4 u5 u6 u7 u8 u9 : Option V), H' ul = some (.lst (us.map V.bl)) ∧ us.length = S.feet.length ∧ (∀ p, p < S.feet.length → us[p]? = some (decide (p ∈ U))) ∧ H' fl = some (.lst xs) ∧ xs.length ≤ i ∧ EntsAt H' (fun a => a ≠ ul ∧ a ≠ fl) xs (Cs.map (entW S)) ∧ Cs.flatten.Perm U ∧ (∀ C ∈ Cs, Clo S.feet C) ∧
          Rk.Cyc (fun p => Rk.prv S.feet.length (mtW S.feet p)) S.feet.length U xs.length ∧ (∀ p, p < i → p ∈ U) ∧ σ = [some (.ref o), some (.int (S.arm : Nat)), some (.int (S.mod : Nat)), some (.ref fa), some (.ref na), some (.ref q), some (.ref ul), some (.ref fl), u1, u2, u3, u4, u5, u6, u7, u8, u9])
        ⟨Kq.refl, [], [], List.replicate S.feet.length false, [], none, none, none, none, none, none, none, none, none, hu3, List.length_replicate .., fun p hp => by rw [List.getElem?_replicate, if_pos hp]; rfl, hf3, Nat.le_refl _, ⟨rfl, fun i v e e1 _ => by cases e1⟩, List.Perm.refl _, fun C h => (by cases h), Rk.Cyc.nil _, fun p h => (by omega), rfl⟩ ?_ ?_
      · rintro i σ H' hi ⟨kq, U, Cs, us, xs, u1, u2, u3, u4, u5, u6, u7, u8, u9, hU1, hU2, hU3, hF1, hF2, hEn, hPm, hCl, hC, hcov, rfl⟩
        have hi : i < S.feet.length := by omega
        walk_at "go"
        refine ⟨Nat.zero_le _, fun pl hpl => ?_⟩
        have npu : ul ≠ pl := ne_of_none hU1 hpl
        have npf : fl ≠ pl := ne_of_none hF1 hpl
        have hpl3 : H3 pl = none := kq.free hU1 hF1 hpl
        have kq1 : Kq ul fl H' (upd H' pl (.lst [])) := Kq.mutn Kq.refl hpl
        have hU1' := upd_old (o := HO.lst []) hpl hU1
        have hF1' := upd_old (o := HO.lst []) hpl hF1
        have hP1 : (upd H' pl (.lst [])) pl = some (.lst (([] : List Str).map V.str)) := upd_same
        revert kq1 hU1' hF1' hP1
        generalize (upd H' pl (.lst [])) = H4
        intro kq1 hU1' hF1' hP1
        walk_at "go"
        refine x_cut (fun σ H5 => Kq ul fl H' H5 ∧ ∃ (C : List Nat) (us' : List Bool) (ps : List Str) (wo ha : Int) (ou : Bool) (u2 u7 u8 u9 : Option V), H5 ul = some (.lst (us'.map V.bl)) ∧ us'.length = S.feet.length ∧ (∀ p, p < S.feet.length → us'[p]? = some (decide (p ∈ C ++ U))) ∧ H5 fl = some (.lst xs) ∧ H5 pl = some (.lst (ps.map V.str)) ∧ ps = C.map (psW S.feet) ∧ (∀ x ∈ ps, PyData.canLay0 (.str x) = true) ∧ wo = rWo S C ∧ ha = rHa S.feet C ∧ ou = rOu S.feet C ∧
            ((C = [] ∧ i ∈ U) ∨ (C ≠ [] ∧ i ∈ C ∧ Clo S.feet C ∧ Rk.Cyc (fun p => Rk.prv S.feet.length (mtW S.feet p)) S.feet.length (C ++ U) (xs.length + 1))) ∧
            σ = [some (.ref o), some (.int (S.arm : Nat)), some (.int (S.mod : Nat)), some (.ref fa), some (.ref na), some (.ref q), some (.ref ul), some (.ref fl), some (.int (0 + (i : Int))), u2, some (.int ha), some (.int wo), some (.ref pl), some (.bl ou), u7, u8, u9]) ?_ ?_
        · walk_at "go"
          have hfa4 := kq1 _ _ nfu nff (kq _ _ nfu nff hO23)
          walk_at "go"
          rw [List.length_map]
          refine w_forR1 (by omega) (by omega) (fun t σ H5 => Kq ul fl H' H5 ∧ ∃ (C : List Nat) (pp : Nat) (us' : List Bool) (ps : List Str) (wo ha : Int) (ou : Bool) (u7 u8 u9 : Option V), H5 ul = some (.lst (us'.map V.bl)) ∧ us'.length = S.feet.length ∧ (∀ p, p < S.feet.length → us'[p]? = some (decide (p ∈ C ++ U))) ∧ H5 fl = some (.lst xs) ∧ H5 pl = some (.lst (ps.map V.str)) ∧ ps = C.map (psW S.feet) ∧ (∀ x ∈ ps, PyData.canLay0 (.str x) = true) ∧ wo = rWo S C ∧ ha = rHa S.feet C ∧ ou = rOu S.feet C ∧
              C.length = t ∧ Rk.Pth (fun p => Rk.prv S.feet.length (mtW S.feet p)) S.feet.length U C i pp ∧
              σ = [some (.ref o), some (.int (S.arm : Nat)), some (.int (S.mod : Nat)), some (.ref fa), some (.ref na), some (.ref q), some (.ref ul), some (.ref fl), some (.int (0 + (i : Int))), some (.int (pp : Nat)), some (.int ha), some (.int wo), some (.ref pl), some (.bl ou), u7, u8, u9])
            ⟨kq1, [], i, us, [], 0, 0, false, u7, u8, u9, hU1', hU2, hU3, hF1', hP1, rfl, fun x h => (by cases h), rfl, rfl, rfl, rfl, Rk.Pth.nil hC.nd hi, by rw [show (0 : Int) + (i : Int) = ((i : Nat) : Int) by omega]; rfl⟩ ?_ ?_
          · rintro t σ H5 ht ⟨kq5, C, pp, us', ps, wo, ha, ou, u7, u8, u9, g1, g2, g3, g4, g5, g6, g7, gw, gh, go, g8, g9, rfl⟩
            have hpp := g9.qlt
            have av : atI (us'.map V.bl) ((pp : Nat) : Int) = some (.bl (decide (pp ∈ C ++ U))) := atI_of (k := pp) rfl (by rw [List.getElem?_map, g3 pp hpp]; rfl)
            walk_at "go"
            refine x_iteD (fun hin => ?_) (fun hin => ?_)
            · walk_at "go"
              refine ⟨kq5, C, us', ps, wo, ha, ou, _, _, _, _, g1, g2, g3, g4, g5, g6, g7, gw, gh, go, ?_, rfl⟩
              cases C with
              | nil =>
                refine .inl ⟨rfl, ?_⟩
                have := Option.some.inj g9.start
                rw [← this]
                exact hin
              | cons c C =>
                refine .inr ⟨by simp, ?_, clo_of hK.wd g9 hC (by simp) hin, g9.close hC (fun a b ha hb e => Rk.Mate.inj (wd_of hK.wd) (mt_ok hK.wd) a b ha hb e) (by simp) hin⟩
                have := Option.some.inj g9.start
                rw [← this]
                exact List.mem_cons_self ..
            · have hnU : pp ∉ U := fun z => hin (List.mem_append_right _ z)
              have hnC : pp ∉ C := fun z => hin (List.mem_append_left _ z)
              obtain ⟨f1, f2, f3, f4, f5⟩ := mt_facts hK.wd hpp
              have hb : S.feet[pp]? = some S.feet[pp] := List.getElem?_eq_getElem hpp
              generalize S.feet[pp] = b at hb
              have hbm := List.mem_of_getElem? hb
              obtain ⟨z, gz⟩ := has_num hK hbm
              have an : atI (S.feet.map V.str) ((pp : Nat) : Int) = some (.str b) := atI_of (k := pp) rfl (by rw [List.getElem?_map, hb]; rfl)
              have a1 := am (k := pp) (z := ((pp : Nat) : Int)) rfl hpp
              have hq5 := kq5 _ _ nqu nqf (kq _ _ nqu nqf hq3)
              have hfa5 := kq5 _ _ nfu nff (kq _ _ nfu nff hO23)
              have hna5 := kq5 _ _ nnu nnf (kq _ _ nnu nnf hO33)
              walk_at "go"
              refine x_setL (k := pp) g1 (ixN_of rfl (by rw [List.length_map, g2]; exact hpp)) ?_
              have g1' : upd H5 ul (.lst ((us'.map V.bl).set pp (.bl true))) ul = some (.lst ((us'.set pp true).map V.bl)) := by rw [upd_same, List.map_set]
              have g4' : upd H5 ul (.lst ((us'.map V.bl).set pp (.bl true))) fl = some (.lst xs) := by rw [upd_ne (Ne.symm nuf)]; exact g4
              have g5' : upd H5 ul (.lst ((us'.map V.bl).set pp (.bl true))) pl = some (.lst (ps.map V.str)) := by rw [upd_ne (Ne.symm npu)]; exact g5
              have hq6 : upd H5 ul (.lst ((us'.map V.bl).set pp (.bl true))) q = some (.lst (M.map fun m : Nat => V.int (m : Nat))) := by rw [upd_ne nqu]; exact hq5
              have hfa6 : upd H5 ul (.lst ((us'.map V.bl).set pp (.bl true))) fa = some (.lst (S.feet.map V.str)) := by rw [upd_ne nfu]; exact hfa5
              have hna6 : upd H5 ul (.lst ((us'.map V.bl).set pp (.bl true))) na = some (.dK (dD V.int S.nums)) := by rw [upd_ne nnu]; exact hna5
              have kq6 : Kq ul fl H' (upd H5 ul (.lst ((us'.map V.bl).set pp (.bl true)))) := Kq.upd1 kq5
              revert g1' g4' g5' hq6 hfa6 hna6 kq6
              generalize upd H5 ul (.lst ((us'.map V.bl).set pp (.bl true))) = H6
              intro g1' g4' g5' hq6 hfa6 hna6 kq6
              walk_at "go"
              have hps : ps.length ≤ 400 := by
                have : C.length ≤ S.feet.length := by rw [g8]; omega
                rw [g6, List.length_map]; omega
              have fin : ∀ (y : Str), y = psW S.feet pp → PyData.canLay0 (.str y) = true → ∀ (H7 : Hp), H7 = upd H6 pl (.lst (ps.map V.str ++ [.str y])) → ∀ (wo1 ha1 : Int) (ou1 : Bool) (u8 u9 : Option V) (v : Int), wo1 = wo + woN S pp → ha1 = ha + haN S.feet pp → ou1 = (ou || decide (mtW S.feet pp = 0)) → v = (Rk.prv S.feet.length (mtW S.feet pp) : Nat) →
                  Kq ul fl H' H7 ∧ ∃ (C : List Nat) (pp : Nat) (us' : List Bool) (ps : List Str) (wo' ha' : Int) (ou' : Bool) (u7 u8' u9' : Option V), H7 ul = some (.lst (us'.map V.bl)) ∧ us'.length = S.feet.length ∧ (∀ p, p < S.feet.length → us'[p]? = some (decide (p ∈ C ++ U))) ∧ H7 fl = some (.lst xs) ∧ H7 pl = some (.lst (ps.map V.str)) ∧ ps = C.map (psW S.feet) ∧ (∀ x ∈ ps, PyData.canLay0 (.str x) = true) ∧ wo' = rWo S C ∧ ha' = rHa S.feet C ∧ ou' = rOu S.feet C ∧
                    C.length = t + 1 ∧ Rk.Pth (fun p => Rk.prv S.feet.length (mtW S.feet p)) S.feet.length U C i pp ∧
                    [some (.ref o), some (.int (S.arm : Nat)), some (.int (S.mod : Nat)), some (.ref fa), some (.ref na), some (.ref q), some (.ref ul), some (.ref fl), some (.int (0 + (i : Int))), some (.int v), some (.int ha1), some (.int wo1), some (.ref pl), some (.bl ou1), some (.int (0 + (t : Int))), u8, u9] = [some (.ref o), some (.int (S.arm : Nat)), some (.int (S.mod : Nat)), some (.ref fa), some (.ref na), some (.ref q), some (.ref ul), some (.ref fl), some (.int (0 + (i : Int))), some (.int (pp : Nat)), some (.int ha'), some (.int wo'), some (.ref pl), some (.bl ou'), u7, u8', u9'] := by
                rintro y hpy hy H7 rfl wo1 ha1 ou1 u8 u9 v ew eh eo rfl
                refine ⟨Kq.mutn kq6 hpl, C ++ [pp], Rk.prv S.feet.length (mtW S.feet pp), us'.set pp true, ps ++ [y], wo1, ha1, ou1, _, _, _, ?_, by rw [List.length_set]; exact g2, fun p hp => ?_, ?_, by rw [upd_same, List.map_append]; rfl, by rw [List.map_append, g6, hpy]; rfl, fun x hx => ?_, by rw [ew, gw, rWo_snoc], by rw [eh, gh, rHa_snoc], by rw [eo, go, rOu_snoc], by rw [List.length_append, g8]; rfl, g9.snoc hnU hnC (Rk.prv_lt f1), rfl⟩
                · rw [upd_ne npu]; exact g1'
                · rw [List.getElem?_set, g2]
                  by_cases e : pp = p
                  · rw [if_pos e, if_pos (by omega), ← e, decide_eq_true (by simp)]
                  · rw [if_neg e, g3 p hp]
                    congr 1
                    refine decide_eq_decide.mpr ?_
                    simp only [List.mem_append, List.mem_singleton]
                    constructor
                    · rintro (h | h)
                      · exact .inl (.inl h)
                      · exact .inr h
                    · rintro ((h | h) | h)
                      · exact .inl h
                      · exact (e h.symm).elim
                      · exact .inr h
                · rw [upd_ne npf]; exact g4'
                · rcases List.mem_append.mp hx with h | h
                  · exact g7 x h
                  · rw [List.mem_singleton.mp h]; exact hy
              have hb1 := isname_ok (hK.wd.nm b hbm)
              obtain ⟨hm1, hmk⟩ := minus_ok (hK.wd.nm b hbm)
              have hlb : b.length ≤ 3 := by
                obtain ⟨c, ds, e, _, _, h3, _⟩ := hK.wd.nm b hbm
                rw [e, SX.S_len, List.length_cons]; omega
              have hpv : ∀ v : Int, (if 0 < mtW S.feet pp then v = ((mtW S.feet pp : Nat) : Int) - 1 else v = ((S.feet.length : Nat) : Int) - 1) → v = (Rk.prv S.feet.length (mtW S.feet pp) : Nat) := fun v hv => by
                unfold Rk.prv
                by_cases e : mtW S.feet pp = 0
                · rw [if_neg (by omega)] at hv
                  rw [if_pos e]; omega
                · rw [if_pos (by omega)] at hv
                  rw [if_neg e]; omega
              have nfp : fa ≠ pl := ne_of_none (kq _ _ nfu nff hO23) hpl
              have nnp : na ≠ pl := ne_of_none (kq _ _ nnu nnf hO33) hpl
              have hlen : (ps.map V.str).length < sizeLine := by rw [List.length_map]; exact Nat.lt_of_le_of_lt (show _ ≤ 400 by omega) (by decide)
              have hna7 : ∀ {o : HO}, (upd H6 pl o) na = some (.dK (dD V.int S.nums)) := fun {o} => by rw [upd_ne nnp]; exact hna6
              have hfa7 : ∀ {o : HO}, (upd H6 pl o) fa = some (.lst (S.feet.map V.str)) := fun {o} => by rw [upd_ne nfp]; exact hfa6
              have hL : ((S.feet.map V.str).length : Int) - 1 = ((S.feet.length : Nat) : Int) - 1 := by rw [List.length_map]
              have hpsW : psW S.feet pp = if pp < mtW S.feet pp then b else "-" ++ b := by unfold psW; rw [hb]
              have hwoN : woN S pp = if pp < mtW S.feet pp then z else -z := by
                have : numAt S pp = z := by unfold numAt; rw [hb]; show (aGet S.nums b).getD 0 = z; rw [gz]; rfl
                unfold woN; rw [this]
              have hhaN : haN S.feet pp = (if pp < mtW S.feet pp then -1 else 1) + (if mtW S.feet pp = 0 then 1 else -1) := rfl
              cases ou
              all_goals
                refine x_iteD (fun hA => ?_) (fun hA => ?_)
                · walk_at "go"
                  refine x_append g5' hlen ?_
                  have hna8 := hna7 (o := .lst (ps.map V.str ++ [.str b]))
                  have hfa8 := hfa7 (o := .lst (ps.map V.str ++ [.str b]))
                  walk_at "go"
                  refine x_iteDT hA ?_
                  walk_at "go"
                  refine x_dgetS (v := .int z) (.inl hna8) (by rw [valV_dD, gz]; rfl) ?_
                  walk_at "go"
                  refine x_iteDT hA ?_
                  walk_at "go"
                  refine x_iteD (fun hZ => ?_) (fun hZ => ?_)
                  all_goals
                    walk_at "go"
                    refine x_iteD (fun hF => ?_) (fun hF => ?_)
                    · walk_at "go"
                      exact fin _ (by rw [hpsW, if_pos (by omega)]) hb1 _ rfl _ _ _ _ _ _ (by rw [hwoN, if_pos (by omega)] <;> omega) (by rw [hhaN] <;> omega) (by first | rfl | exact decide_eq_decide.mpr (by omega)) (hpv _ (by rw [if_pos (by omega)]))
                    · walk_at "go"
                      exact fin _ (by rw [hpsW, if_pos (by omega)]) hb1 _ rfl _ _ _ _ _ _ (by rw [hwoN, if_pos (by omega)] <;> omega) (by rw [hhaN] <;> omega) (by first | rfl | exact decide_eq_decide.mpr (by omega)) (hpv _ (by rw [if_neg (by omega)]; exact hL))
                · walk_at "go"
                  refine x_addS (by show 1 + _ ≤ _; exact Nat.le_trans (show _ ≤ 4 by omega) (by decide)) ?_
                  walk_at "go"
                  refine x_append g5' hlen ?_
                  have hna8 := hna7 (o := .lst (ps.map V.str ++ [.str ("-" ++ b)]))
                  have hfa8 := hfa7 (o := .lst (ps.map V.str ++ [.str ("-" ++ b)]))
                  walk_at "go"
                  refine x_iteDF hA ?_
                  walk_at "go"
                  refine x_dgetS (v := .int z) (.inl hna8) (by rw [valV_dD, gz]; rfl) ?_
                  walk_at "go"
                  refine x_iteDF hA ?_
                  walk_at "go"
                  refine x_iteD (fun hZ => ?_) (fun hZ => ?_)
                  all_goals
                    walk_at "go"
                    refine x_iteD (fun hF => ?_) (fun hF => ?_)
                    · walk_at "go"
                      exact fin _ (by rw [hpsW, if_neg (by omega)]) hmk _ rfl _ _ _ _ _ _ (by rw [hwoN, if_neg (by omega)] <;> omega) (by rw [hhaN] <;> omega) (by first | rfl | exact decide_eq_decide.mpr (by omega)) (hpv _ (by rw [if_pos (by omega)]))
                    · walk_at "go"
                      exact fin _ (by rw [hpsW, if_neg (by omega)]) hmk _ rfl _ _ _ _ _ _ (by rw [hwoN, if_neg (by omega)] <;> omega) (by rw [hhaN] <;> omega) (by first | rfl | exact decide_eq_decide.mpr (by omega)) (hpv _ (by rw [if_neg (by omega)]; exact hL))
          · rintro σ H5 ⟨kq5, C, pp, us', ps, wo, ha, ou, u7, u8, u9, g1, g2, g3, g4, g5, g6, g7, gw, gh, go, g8, g9, rfl⟩
            rw [Int.toNat_natCast] at g8
            have hpp := g9.qlt
            have hall : ∀ p, p < S.feet.length → p ∈ C := fun p hp => sub_range (List.nodup_append.mp g9.nd).1 g9.lt (by omega) p hp
            have hCn : C ≠ [] := fun e => by rw [e] at g8; exact absurd g8 (by show ¬(0 = _); omega)
            refine ⟨kq5, C, us', ps, wo, ha, ou, _, _, _, _, g1, g2, g3, g4, g5, g6, g7, gw, gh, go, .inr ⟨hCn, hall i hi, clo_of hK.wd g9 hC hCn (List.mem_append_left _ (hall pp hpp)), ?_⟩, rfl⟩
            exact g9.close hC (fun a b ha hb e => Rk.Mate.inj (wd_of hK.wd) (mt_ok hK.wd) a b ha hb e) hCn (List.mem_append_left _ (hall pp hpp))
        · rintro σ H5 ⟨kq5, C, us', ps, wo, ha, ou, u2, u7, u8, u9, g1, g2, g3, g4, g5, g6, g7, gw, gh, go, g8, rfl⟩
          walk_at "go"
          refine ⟨Nat.zero_le _, fun q5 hq5 => ?_⟩
          walk_at "go"
          refine x_neNilT (l := ps) (SqL.of (upd_old hq5 g5)) (SqL.of upd_same) g7 ?_
          walk_at "go"
          have h5 : H' q5 = none := kq5.free g1 g4 hq5
          have kq6 : Kq ul fl H' (upd H5 q5 (.lst [])) := Kq.mutn kq5 h5
          have g5' : (upd H5 q5 (.lst [])) pl = some (.lst (ps.map V.str)) := upd_old hq5 g5
          have g1' := upd_old (o := HO.lst []) hq5 g1
          have g4' := upd_old (o := HO.lst []) hq5 g4
          revert kq6 g1' g4' g5'
          generalize upd H5 q5 (.lst []) = H6
          intro kq6 g5' g1' g4'
          have cov : ∀ p, p < i + 1 → p ∈ C ++ U := fun p hp => by
            rcases Nat.lt_or_ge p i with l | l
            · exact List.mem_append_right _ (hcov p l)
            · have : p = i := by omega
              rw [this]
              rcases g8 with ⟨_, h⟩ | ⟨_, h, _, _⟩
              · exact List.mem_append_right _ h
              · exact List.mem_append_left _ h
          refine x_iteN (fun hne => ?_) (fun he2 => ?_)
          · walk_at "go"
            refine ⟨S.mod, _, rfl, by omega, ?_⟩
            walk_at "go"
            refine ⟨by show 3 ≤ sizeLine; decide, fun q6 hq6 => ?_⟩
            walk_at "go"
            have nf6 : fl ≠ q6 := ne_of_none g4' hq6
            have nu6 : ul ≠ q6 := ne_of_none g1' hq6
            have h6 : H' q6 = none := kq6.free g1' g4' hq6
            have np6 : pl ≠ q6 := ne_of_none g5' hq6
            refine x_append (xs := xs) (by rw [upd_ne nf6]; exact g4') (Nat.lt_of_le_of_lt (show _ ≤ 400 by omega) (by decide)) ?_
            have hC2 : C ≠ [] := fun e => hne (by rw [g6, e]; rfl)
            have hC3 : Rk.Cyc (fun p => Rk.prv S.feet.length (mtW S.feet p)) S.feet.length (C ++ U) (xs.length + 1) := (g8.resolve_left fun z => hC2 z.1).2.2.2
            have hC4 : Clo S.feet C := (g8.resolve_left fun z => hC2 z.1).2.2.1
            have kqF := Kq.upd2 (o := .lst (xs ++ [.ref q6])) (Kq.mutn (o := .lst [.int (redN S.mod ((S.arm : Int) * (ha / 2) + wo)), .ref pl, .bl ou]) kq6 h6)
            have eE : (⟨redN S.mod ((S.arm : Int) * (ha / 2) + wo), ps, ou⟩ : Int × List Str × Bool) = entW S C := by rw [gw, gh, go, g6]; rfl
            refine ⟨Kq.trans kq kqF, C ++ U, Cs ++ [C], us', _, _, _, _, _, _, _, _, _, _, ?_, g2, g3, upd_same, by rw [List.length_append, List.length_singleton]; omega, ?_, ?_, fun D hD => ?_, by rw [List.length_append, List.length_singleton]; exact hC3, cov, rfl⟩
            · rw [upd_ne nuf, upd_ne nu6]
              exact g1'
            · rw [List.map_append, List.map_singleton, ← eE]
              refine EntsAt.snoc (hEn.kq kqF) ⟨Ne.symm nu6, Ne.symm nf6⟩ ⟨Ne.symm npu, Ne.symm npf⟩ ?_ ?_
              · rw [upd_ne (Ne.symm nf6), upd_same]
              · rw [upd_ne (Ne.symm npf), upd_ne np6]
                exact g5'
            · rw [List.flatten_append, List.flatten_singleton]
              exact (List.perm_append_comm).trans (hPm.append_left C)
            · rcases List.mem_append.mp hD with h | h
              · exact hCl D h
              · rw [List.mem_singleton.mp h]; exact hC4
          · walk_at "go"
            have hC2 : C = [] := List.map_eq_nil_iff.mp (g6.symm.trans he2)
            subst hC2
            exact ⟨Kq.trans kq kq6, U, Cs, us', xs, _, _, _, _, _, _, _, _, _, g1', g2, g3, g4', by omega, hEn.kq kq6, hPm, hCl, hC, cov, rfl⟩
      · rintro σ H' ⟨kq, U, Cs, us, xs, u1, u2, u3, u4, u5, u6, u7, u8, u9, hU1, hU2, hU3, hF1, hF2, hEn, hPm, hCl, hC, hcov, rfl⟩
        rw [Int.toNat_natCast] at hcov
        walk_at "go"
        have hxl : xs.length = Cs.length := by rw [hEn.1, List.length_map]
        exact k fl (Cs.map (entW S)) H' hfl0 (kq.new s13 hul0 hfl0) ⟨xs, hF1, hEn.1, fun i v e e1 e2 => let ⟨q, r, e3, _, _, g1, g2⟩ := hEn.2 i v e e1 e2; ⟨q, r, e3, trivial, trivial, g1, g2⟩⟩ (.inr ⟨he, Cs, ⟨hCl, hPm.nodup_iff.mpr hC.nd, fun p hp => hPm.mem_iff.mpr (hcov p hp), .inr ⟨he, U, by rw [← hxl]; exact hC, hcov⟩⟩, rfl⟩)
/-! ### defs that let errors out -/
theorem fun_ofD {K : PySem.W.Frag} {x qual : Str} {st : Stmt} {f : Addr} {fd : FuncData} {kws : List (Str × V)} (F : FunD K x qual (defArgs st) (defBody st) (defScope st) [] kws f fd) : Fun K x qual st f fd := by
  obtain ⟨c1, c2, c3, c4, c5, c6, c7, c8, c9, c10, q1, q2, q3, q4, _⟩ := F.ex
  rcases q4 with ⟨_, z⟩ | ⟨z, _⟩
  · subst z
    exact ⟨⟨c1, c2, c4, c5, c6, c7, c8, c9, c10, q1, q2, q3⟩, F.kp⟩
  · exact absurd rfl z
theorem x_raise1 {C : Addr} {g : Str} {W : WX} {ta : TA} {D : Ends} {σ : L2.St} {H : Hp} (h : ta σ H fun vs H1 => ∃ v, vs = [v] ∧ ∀ d, H1 d = none → W (.ref C) (some d) σ (upd H1 d (.xd [(g, v)]))) : tRaise1 C g W ta D σ H := h
/-- a def that lets errors out; their context is None -/
theorem ok_outN {K : PySem.W.Frag} {x qual : Str} {st : Stmt} {f : Addr} {fd : FuncData} {N ps : List Str} {k : Nat} {sp : Sp} {mg : Str → Option Value} {base : Heap} {P : Program} {w : World} (F : Fun K x qual st f fd) (S : FnScope N ps (defScope st)) (ln : ∀ vs H Q E, sp vs H Q E → vs.length = ps.length)
    (hb : ∀ (cdv : Value) (A : Around) (outer : List Env) (s : Shared) (H : Hp) (vs : List V) (Q : VK) (E : XK), Room k (A.deeper (envOfC qual (defScope st) s.heap.objs.size f cdv)) → sp vs H Q E →
      ∃ t, PSs (cxOf (L2N.CX P w) P w K mg base N qual (defScope st) f cdv A outer s H E) (defBody st) t ∧ t { nx := fun _ H' => Q .non H', rt := Q } (L2.start N vs) H) : FnOk P w K mg base (L2N.CX P w) (k + 1) f fd ps sp := by
  obtain ⟨c1, c2, c3, c4, c5, c6, c7, c8, c9, rfl, q1, q2⟩ := F.ex
  exact fn_of q1 q2 S ln fun A outer s H vs Q E hr hsp => hb c7 A outer s H vs Q E hr hsp
theorem x_isNn2 {K : PySem.W.Frag} {H : Hp} {Q : VK} (h : Q (.bl false) H) : rIsi K [.non, .ty "int"] H Q := x_isTy .non (kit_ty (by decide +kernel)) h
theorem x_isNb {K : PySem.W.Frag} {H : Hp} {Q : VK} (h : Q (.bl false) H) : rIsi K [.non, .ty "bool"] H Q := x_isTy .non (kit_ty (by decide +kernel)) h
theorem x_isNl {K : PySem.W.Frag} {H : Hp} {Q : VK} (h : Q (.bl false) H) : rIsi K [.non, .ty "list"] H Q := x_isTy .non (kit_ty (by decide +kernel)) h
theorem x_isNt {K : PySem.W.Frag} {H : Hp} {Q : VK} (h : Q (.bl false) H) : rIsi K [.non, .ty "tuple"] H Q := x_isTy .non (kit_ty (by decide +kernel)) h
theorem x_isNd {K : PySem.W.Frag} {H : Hp} {Q : VK} (h : Q (.bl false) H) : rIsi K [.non, .ty "dict"] H Q := x_isTy .non (kit_ty (by decide +kernel)) h
def oV : Option Int → V
  | none => .non
  | some i => .int i
def spLikeO : Sp := fun vs H Q _ => ∃ i j : Option Int, vs = [oV i, oV j] ∧ Q (.bl (decide (i = j))) H
theorem ok_likeO (B : Bi K mg) (F : FnP K "_law_like" st_l_like f fd) : FnOk P w K mg base CX0 1 f fd ["told", "due"] spLikeO := by
  refine F.ok sc_l_like (fun vs H Q E h => ?_) (fun cdv A outer s H vs Q E hr h => ?_)
  · obtain ⟨i, j, rfl, _⟩ := h
    rfl
  · obtain ⟨i, j, rfl, k⟩ := h
    have G := B
    refine ⟨_, PSs.nox ((pss_cons (ps_if (PW.pt (pw_or (pt_val (pe_callB call_isi (by rfl) G.isinstance (by decide +kernel) (pa_cons (pv 1) (pa_cons (pe_bltn (v := .ty "list") (u := .type "list") (by rfl) G.list (by decide +kernel) rfl) pa_nil)))) (pw_or1 (pt_val (pe_callB call_isi (by rfl) G.isinstance (by decide +kernel) (pa_cons (pv 1) (pa_cons (pe_bltn (v := .ty "tuple") (u := .type "tuple") (by rfl) G.tuple (by decide +kernel) rfl) pa_nil)))))))
        (pss_cons ps_never
        (pss_one ps_never))
        pss_nil)
      (pss_cons (ps_if (pt_val (pe_callB call_isi (by rfl) G.isinstance (by decide +kernel) (pa_cons (pv 1) (pa_cons (pe_bltn (v := .ty "dict") (u := .type "dict") (by rfl) G.dict (by decide +kernel) rfl) pa_nil))))
        (pss_cons ps_never
        (pss_one ps_never))
        pss_nil)
      (pss_cons (ps_if (PW.pt (pw_or (pt_cmpR op_ne (pe_callB call_isi (by rfl) G.isinstance (by decide +kernel) (pa_cons (pv 0) (pa_cons (pe_bltn (v := .ty "bool") (u := .type "bool") (by rfl) G.bool (by decide +kernel) rfl) pa_nil))) (pe_callB call_isi (by rfl) G.isinstance (by decide +kernel) (pa_cons (pv 1) (pa_cons (pe_bltn (v := .ty "bool") (u := .type "bool") (by rfl) G.bool (by decide +kernel) rfl) pa_nil))) (nomark _)) (pw_or1 (pt_cmpR op_ne (pe_callB call_isi (by rfl) G.isinstance (by decide +kernel) (pa_cons (pv 0) (pa_cons (pe_bltn (v := .ty "int") (u := .type "int") (by rfl) G.int (by decide +kernel) rfl) pa_nil))) (pe_callB call_isi (by rfl) G.isinstance (by decide +kernel) (pa_cons (pv 1) (pa_cons (pe_bltn (v := .ty "int") (u := .type "int") (by rfl) G.int (by decide +kernel) rfl) pa_nil))) (nomark _)))))
        (pss_one (ps_ret pe_bl))
        pss_nil)
      (pss_one (ps_ret (pe_ifExp (pt_cmpR op_isNn (pv 1) pe_non (nomark _)) (pe_cmpR op_isNn (pv 0) pe_non (nomark _)) (pe_and (pe_cmpR op_eq (pe_callB call_isi (by rfl) G.isinstance (by decide +kernel) (pa_cons (pv 0) (pa_cons (pe_bltn (v := .ty "str") (u := .type "str") (by rfl) G.str (by decide +kernel) rfl) pa_nil))) (pe_callB call_isi (by rfl) G.isinstance (by decide +kernel) (pa_cons (pv 1) (pa_cons (pe_bltn (v := .ty "str") (u := .type "str") (by rfl) G.str (by decide +kernel) rfl) pa_nil))) (nomark _)) (pe_one (pe_cmpR op_eq (pv 0) (pv 1) (nomark _))))))))))), ?_⟩
    try dsimp only [cxOf]
    cases j with
    | none =>
      cases i with
      | none =>
        rw [decide_eq_true rfl] at k
        dsimp only [oV]
        walk_at "go"
        refine x_isNl ?_
        walk_at "go"
        refine x_isNt ?_
        walk_at "go"
        refine x_isNd ?_
        walk_at "go"
        refine x_isNb ?_
        walk_at "go"
        refine x_isNb ?_
        walk_at "go"
        rw [decide_eq_true rfl]
        walk_at "go"
        refine x_isNn2 ?_
        walk_at "go"
        refine x_isNn2 ?_
        walk_at "go"
        rw [decide_eq_true rfl]
        walk_at "go"
        rw [decide_eq_true rfl]
        walk_at "go"
        rw [decide_eq_true rfl]
        exact k
      | some i =>
        rw [decide_eq_false (show ¬((some i : Option Int) = none) from fun z => by cases z)] at k
        dsimp only [oV]
        walk_at "go"
        refine x_isNl ?_
        walk_at "go"
        refine x_isNt ?_
        walk_at "go"
        refine x_isNd ?_
        walk_at "go"
        refine x_isNb ?_
        walk_at "go"
        rw [decide_eq_true rfl]
        walk_at "go"
        refine x_isNn2 ?_
        walk_at "go"
        rw [decide_eq_false (show ¬(true = false) from fun z => by cases z)]
        walk_at "go"
        exact k
    | some j =>
      cases i with
      | none =>
        rw [decide_eq_false (show ¬((none : Option Int) = some j) from fun z => by cases z)] at k
        dsimp only [oV]
        walk_at "go"
        refine x_isNb ?_
        walk_at "go"
        rw [decide_eq_true rfl]
        walk_at "go"
        refine x_isNn2 ?_
        walk_at "go"
        rw [decide_eq_false (show ¬(false = true) from fun z => by cases z)]
        walk_at "go"
        exact k
      | some i =>
        have e : decide ((some i : Option Int) = some j) = decide (i = j) := decide_eq_decide.mpr ⟨fun z => Option.some.inj z, fun z => by rw [z]⟩
        rw [e] at k
        dsimp only [oV]
        walk_at "go"
        rw [decide_eq_true rfl]
        walk_at "go"
        rw [decide_eq_true rfl]
        walk_at "go"
        rw [decide_eq_false (fun z => by cases z)]
        walk_at "go"
        rw [decide_eq_true rfl]
        walk_at "go"
        exact k
theorem x_any {K : PySem.W.Frag} {H : Hp} {Q : VK} {a : Addr} {bs : List Bool} (s : SqL K H a (bs.map V.bl)) (h : Q (.bl (bs.any id)) H) : rAny K [.ref a] H Q := ⟨a, bs, rfl, s, h⟩
theorem tru_tup {K : PySem.W.Frag} {H : Hp} {r : Addr} {xs : List V} (h : SqT K H r xs) : TruV K (.ref r) H (!xs.isEmpty) := Or.inr (Or.inl ⟨xs, h, rfl⟩)
/-- a truth that says whether P -/
abbrev Tells (P : Prop) (k : Bool → Prop) : Prop := ∀ b : Bool, (b = true ↔ P) → k b
def spDivides : Sp := fun vs H Q _ => ∃ (p x : Int), vs = [.int p, .int x] ∧ 0 ≤ p ∧ p < 1073741824 ∧ Tells (p ∣ x) fun b => Q (.bl b) H
theorem ok_divides (B : Bi K mg) (F : FnP K "divides" st_divides f fd) : FnOk P w K mg base CX0 1 f fd ["part", "whole"] spDivides := by
  refine F.ok sc_divides (fun vs H Q E h => ?_) (fun cdv A outer s H vs Q E hr h => ?_)
  · obtain ⟨p, x, rfl, _⟩ := h
    rfl
  · obtain ⟨p, x, rfl, h1, h2, k⟩ := h
    have G := B
    refine ⟨_, PSs.nox ((pss_one (ps_ret (pe_ifExp (pt_cmpR op_eq (pv 0) pe_int (nomark _)) (pe_cmpR op_eq (pv 1) pe_int (nomark _)) (pe_cmpR op_eq (pe_op op_mod (pv 1) (pv 0)) pe_int (nomark _)))))), ?_⟩
    try dsimp only [cxOf]
    walk_at "go"
    refine x_iteD (fun h => ?_) (fun h => ?_)
    · walk_at "go"
      refine k _ ?_
      rw [h, decide_eq_true_iff]
      exact Int.zero_dvd.symm
    · walk_at "go"
      refine k _ ?_
      rw [decide_eq_true_iff]
      exact dvd_emod (by omega)
def spHasBal (K : PySem.W.Frag) : Sp := fun vs H Q _ => ∃ (a : Addr) (arm mod : Nat) (p : Int), vs = [.ref a, .int p] ∧ BookAt K H a arm mod ∧ 1 ≤ p ∧ p < 1073741824 ∧ Tells (HasBal arm mod p) fun b => Q (.bl b) H
theorem ok_hasbal (B : Bi K mg) (F : FnP K "has_balance" st_has_balance f fd) : FnOk P w K mg base CX0 1 f fd ["book", "share"] (spHasBal K) := by
  refine F.ok sc_has_balance (fun vs H Q E h => ?_) (fun cdv A outer s H vs Q E hr h => ?_)
  · obtain ⟨a, arm, mod, p, rfl, _⟩ := h
    rfl
  · obtain ⟨a, arm, mod, p, rfl, ⟨dx, hB⟩, h1, h2, k⟩ := h
    have G := B
    have cB := G.cls_Book
    have n1 := G.na_Book_arms
    have n2 := G.na_Book_modulus
    refine ⟨_, PSs.nox ((pss_one (ps_ret (pe_and (pe_cmpR op_eq (pe_op op_mod (pe_op op_fdiv (pe_fld (pv 0) (by rfl)) (pv 1)) pe_int) pe_int (nomark _)) (pe_one (pe_cmpR op_eq (pe_op op_mod (pe_op op_fdiv (pe_fld (pv 0) (by rfl)) (pv 1)) pe_int) pe_int (nomark _))))))), ?_⟩
    try dsimp only [cxOf]
    walk_at "go"
    by_cases c1 : (arm : Int) / p % 2 = 1
    · rw [decide_eq_true c1]
      walk_at "go"
      refine k _ ?_
      rw [decide_eq_true_iff]
      exact ⟨fun h => ⟨c1, h⟩, fun h => h.2⟩
    · rw [decide_eq_false c1]
      walk_at "go"
      refine k _ ?_
      exact ⟨fun h => (by cases h), fun h => absurd h.1 c1⟩
def spOddRim (K : PySem.W.Frag) : Sp := fun vs H Q _ => ∃ (a r : Addr) (arm mod : Nat) (es : List Int) (p : Int), vs = [.ref a, .ref r, .int p] ∧ BookAt K H a arm mod ∧ SqT K H r (es.map V.int) ∧ es.length ≤ 900 ∧ 1 ≤ p ∧ p < 1073741824 ∧ ∀ H', Same H H' → Tells (OddRim arm es p) fun b => Q (.bl b) H'
theorem ok_oddrim (B : Bi K mg) (F : FnP K "some_odd_rim" st_some_odd_rim f fd) : FnOk P w K mg base CX0 1 f fd ["book", "rims", "share"] (spOddRim K) := by
  refine F.ok sc_some_odd_rim (fun vs H Q E h => ?_) (fun cdv A outer s H vs Q E hr h => ?_)
  · obtain ⟨a, r, arm, mod, es, p, rfl, _⟩ := h
    rfl
  · obtain ⟨a, r, arm, mod, es, p, rfl, hB, hR, hl, h1, h2, k⟩ := h
    have G := B
    have cB := G.cls_Book
    have n1 := G.na_Book_arms
    refine ⟨_, PSs.nox ((pss_one (ps_ret (pe_callB (cr_any rfl) (by rfl) G.any (by decide +kernel) (pa_cons (pe_lc (own := [("rim", 3)]) rfl sc_some_odd_rim.nd (pi_tup (pv 1)) (blkOk_by (own := [("rim", 3)]) (N := ["book", "rims", "share", "rim"]) (sc := defScope st_some_odd_rim) (by decide +kernel)) (fun _ _ _ _ _ => (pg_name (i := 3) sc_some_odd_rim.nd rfl (Or.inl rfl))) (fun _ _ _ _ _ => pts_nil) (fun _ _ _ _ _ => (pe_cmpR op_eq (pe_op op_mod (pe_op op_fdiv (pe_op op_add (pv 3) (pe_fldK (K := K) rfl (pv 0) (by rfl))) (pv 2)) pe_int) pe_int (nomark _)))) pa_nil))))), ?_⟩
    try dsimp only [cxOf]
    walk_at "go"
    refine w_lcT (xs := es.map V.int) hR (by rw [List.length_map]; exact Nat.lt_of_le_of_lt hl (by decide)) (fun i acc => acc = ((es.map fun e => decide ((e + (arm : Int)) / p % 2 = 1)).map V.bl).take i) rfl ?_ ?_
    · rintro i x H' acc hi s' rfl hai R S2 hR2 hS2
      obtain ⟨e, rfl, he⟩ := int_at hi
      obtain ⟨dx, hB'⟩ := hB.same s'
      walk_at "go"
      refine ⟨rfl, ?_⟩
      walk_at "go"
      refine hR2 _ _ (Same.refl _) ?_
      rw [take_snoc (show ((es.map fun e => decide ((e + (arm : Int)) / p % 2 = 1)).map V.bl)[i]? = some (.bl (decide ((e + (arm : Int)) / p % 2 = 1))) by rw [List.getElem?_map, List.getElem?_map, he]; rfl)]
    · rintro q H' acc hq s' hq' rfl
      rw [List.length_map, List.take_of_length_le (by rw [List.length_map, List.length_map]; exact Nat.le_refl _)] at hq'
      walk_at "go"
      refine x_any (SqL.of hq') ?_
      refine k H' s' _ ?_
      rw [List.any_map, List.any_eq_true]
      exact ⟨fun ⟨e, h1, h2⟩ => ⟨e, h1, of_decide_eq_true h2⟩, fun ⟨e, h1, h2⟩ => ⟨e, h1, decide_eq_true h2⟩⟩
def spRimsOk (K : PySem.W.Frag) : Sp := fun vs H Q _ => ∃ (a r : Addr) (arm mod : Nat) (es : List Int), vs = [.ref a, .ref r] ∧ BookAt K H a arm mod ∧ SqT K H r (es.map V.int) ∧ es.length ≤ 900 ∧ ∀ H', Same H H' → Tells (RimsOk mod es) fun b => Q (.bl b) H'
theorem pair_bad {es : List Int} : ((List.range (es.length - 1)).map fun i => decide (es.getD i 0 > es.getD (i + 1) 0)).any id = true ↔ ¬es.Pairwise (· ≤ ·) := by
  rw [List.any_map, List.any_eq_true]
  constructor
  · rintro ⟨i, hi, h⟩ hp
    have hi := List.mem_range.mp hi
    have h : es.getD i 0 > es.getD (i + 1) 0 := of_decide_eq_true h
    rw [List.pairwise_iff_getElem] at hp
    have := hp i (i + 1) (by omega) (by omega) (by omega)
    rw [List.getD_eq_getElem?_getD, List.getD_eq_getElem?_getD, List.getElem?_eq_getElem (by omega), List.getElem?_eq_getElem (by omega)] at h
    have h : es[i] > es[i + 1] := h
    omega
  · intro hp
    refine Classical.byContradiction fun hn => hp ?_
    have hs : ∀ i, i + 1 < es.length → es.getD i 0 ≤ es.getD (i + 1) 0 := fun i hi => Classical.byContradiction fun z => hn ⟨i, List.mem_range.mpr (by omega), decide_eq_true (by omega)⟩
    have key : ∀ k i, i + k < es.length → es.getD i 0 ≤ es.getD (i + k) 0 := fun k => by
      induction k with
      | zero => intro i _; exact Int.le_refl _
      | succ k ih => intro i hi; exact Int.le_trans (ih i (by omega)) (hs (i + k) (by omega))
    rw [List.pairwise_iff_getElem]
    intro i j hi hj hij
    have := key (j - i) i (by omega)
    rw [show i + (j - i) = j by omega, List.getD_eq_getElem?_getD, List.getD_eq_getElem?_getD, List.getElem?_eq_getElem hi, List.getElem?_eq_getElem hj] at this
    exact this
theorem sorted_ends {es : List Int} (h0 : es ≠ []) (hp : es.Pairwise (· ≤ ·)) (m : Int) : (∀ e ∈ es, 0 ≤ e ∧ e < m) ↔ (0 ≤ es.getD 0 0 ∧ es.getD (es.length - 1) 0 < m) := by
  have hl : 0 < es.length := List.length_pos_iff.mpr h0
  have g0 : es.getD 0 0 = es[0] := by rw [List.getD_eq_getElem?_getD, List.getElem?_eq_getElem hl]; rfl
  have g1 : es.getD (es.length - 1) 0 = es[es.length - 1] := by rw [List.getD_eq_getElem?_getD, List.getElem?_eq_getElem (by omega)]; rfl
  rw [g0, g1]
  rw [List.pairwise_iff_getElem] at hp
  constructor
  · exact fun h => ⟨(h _ (List.getElem_mem _)).1, (h _ (List.getElem_mem _)).2⟩
  · rintro ⟨h1, h2⟩ e he
    obtain ⟨i, hi, rfl⟩ := List.getElem_of_mem he
    constructor
    · by_cases c : i = 0
      · subst c; exact h1
      · exact Int.le_trans h1 (hp 0 i hl hi (by omega))
    · by_cases c : i = es.length - 1
      · subst c; exact h2
      · exact Int.lt_of_le_of_lt (hp i (es.length - 1) hi (by omega) (by omega)) h2
theorem ok_rimsok (B : Bi K mg) (F : FnP K "rims_stand" st_rims_stand f fd) : FnOk P w K mg base CX0 1 f fd ["book", "rims"] (spRimsOk K) := by
  refine F.ok sc_rims_stand (fun vs H Q E h => ?_) (fun cdv A outer s H vs Q E hr h => ?_)
  · obtain ⟨a, r, arm, mod, es, rfl, _⟩ := h
    rfl
  · obtain ⟨a, r, arm, mod, es, rfl, hB, hR, hl, k⟩ := h
    have G := B
    have cB := G.cls_Book
    have n2 := G.na_Book_modulus
    refine ⟨_, PSs.nox ((pss_cons (ps_if (pt_not (pt_truth (pv 1) (by intro _; rfl)))
        (pss_one (ps_ret pe_bl))
        pss_nil)
      (pss_cons (ps_if (pt_val (pe_callB (cr_any rfl) (by rfl) G.any (by decide +kernel) (pa_cons (pe_lc (own := [("at", 2)]) rfl sc_rims_stand.nd (pi_range1 (by rfl) G.range (pa_cons (pe_op op_sub (pe_callB callLenS (by rfl) G.len PySem.boot_len (pa_cons (pv 1) pa_nil)) pe_int) pa_nil)) (blkOk_by (own := [("at", 2)]) (N := ["book", "rims", "at"]) (sc := defScope st_rims_stand) (by decide +kernel)) (fun _ _ _ _ _ => (pg_name (i := 2) sc_rims_stand.nd rfl (Or.inl rfl))) (fun _ _ _ _ _ => pts_nil) (fun _ _ _ _ _ => (pe_cmpR op_gt (pe_ix (ix_tupK (K := K) rfl) (pv 1) (pv 2) (fun _ _ => rfl)) (pe_ix (ix_tupK (K := K) rfl) (pv 1) (pe_op op_add (pv 2) pe_int) (fun _ _ => rfl)) (nomark _)))) pa_nil)))
        (pss_one (ps_ret pe_bl))
        pss_nil)
      (pss_one (ps_ret (pe_or (pe_cmpR op_eq (pe_fld (pv 0) (by rfl)) pe_int (nomark _)) (pe_one (pe_and (pe_cmpR op_ge (pe_ix ix_tup (pv 1) pe_int (fun _ _ => rfl)) pe_int (nomark _)) (pe_one (pe_cmpR op_lt (pe_ix ix_tup (pv 1) (pe_un un_neg pe_int) (fun _ _ => rfl)) (pe_fld (pv 0) (by rfl)) (nomark _))))))))))), ?_⟩
    try dsimp only [cxOf]
    walk_at "go"
    refine ⟨!(es.map V.int).isEmpty, ?_, ?_⟩
    · exact tru_tup hR
    try dsimp only
    by_cases h0 : es = []
    · subst h0
      walk_at "go"
      exact k _ (Same.refl _) _ ⟨fun h => (by cases h), fun h => absurd rfl h.1⟩
    · have hne : (es.map V.int).isEmpty = false := by cases es with | nil => exact absurd rfl h0 | cons _ _ => rfl
      have hl0 : 0 < es.length := List.length_pos_iff.mpr h0
      rw [hne]
      refine x_iteF ?_
      walk_at "go"
      refine x_lenT hR ?_
      walk_at "go"
      rw [List.length_map]
      refine w_lcR1 (by omega) (by omega) (by exact Nat.lt_of_le_of_lt (show _ ≤ 900 by omega) (by decide)) (fun i acc => acc = (((List.range (es.length - 1)).map fun i => decide (es.getD i 0 > es.getD (i + 1) 0)).map V.bl).take i) rfl ?_ ?_
      · rintro i H' acc hi s' rfl hai R S2 hR2 hS2
        have hi : i < es.length - 1 := by omega
        have a1 : atI (es.map V.int) (0 + (i : Int)) = some (.int (es.getD i 0)) := atI_of (k := i) (by omega) (by rw [List.getElem?_map, List.getD_eq_getElem?_getD, List.getElem?_eq_getElem (by omega)]; rfl)
        have a2 : atI (es.map V.int) (0 + (i : Int) + 1) = some (.int (es.getD (i + 1) 0)) := atI_of (k := i + 1) (by omega) (by rw [List.getElem?_map, List.getD_eq_getElem?_getD, List.getElem?_eq_getElem (by omega)]; rfl)
        have hR' := Same.sqt s' hR
        walk_at "go"
        refine ⟨rfl, ?_⟩
        walk_at "go"
        refine hR2 _ _ (Same.refl _) ?_
        rw [take_snoc (show (((List.range (es.length - 1)).map fun i => decide (es.getD i 0 > es.getD (i + 1) 0)).map V.bl)[i]? = some (.bl (decide (es.getD (i + 1) 0 < es.getD i 0))) by rw [List.getElem?_map, List.getElem?_map, List.getElem?_range hi]; rfl)]
      · rintro q H' acc hq s' hq' rfl
        have el : ((es.length : Int) - 1).toNat = es.length - 1 := by omega
        rw [el, List.take_of_length_le (by rw [List.length_map, List.length_map, List.length_range]; exact Nat.le_refl _)] at hq'
        have hR' := Same.sqt s' hR
        obtain ⟨dx, hB'⟩ := hB.same s'
        have b0 : atI (es.map V.int) 0 = some (.int (es.getD 0 0)) := atI_of (k := 0) rfl (by rw [List.getElem?_map, List.getD_eq_getElem?_getD, List.getElem?_eq_getElem hl0]; rfl)
        have b1 : atI (es.map V.int) (-1) = some (.int (es.getD (es.length - 1) 0)) := by
          obtain ⟨L, x1, eL⟩ : ∃ L x1, es = L ++ [x1] := ⟨_, _, (List.dropLast_concat_getLast h0).symm⟩
          rw [eL, List.map_append]
          have := atI_last (L.map V.int) (V.int x1)
          refine this.trans ?_
          rw [List.getD_eq_getElem?_getD, List.length_append]
          simp
        walk_at "go"
        refine x_any (SqL.of hq') ?_
        by_cases hp : es.Pairwise (· ≤ ·)
        · have hb : ((List.range (es.length - 1)).map fun i => decide (es.getD i 0 > es.getD (i + 1) 0)).any id = false := by
            rw [← Bool.not_eq_true, pair_bad]
            exact fun z => z hp
          rw [hb]
          walk_at "go"
          by_cases hm : (mod : Int) = 0
          · rw [decide_eq_true hm]
            walk_at "go"
            exact k _ s' _ ⟨fun _ => ⟨h0, hp, fun z => by omega⟩, fun _ => rfl⟩
          · rw [decide_eq_false hm]
            walk_at "go"
            have he := sorted_ends h0 hp (mod : Int)
            by_cases c0 : 0 ≤ es.getD 0 0
            · rw [decide_eq_true c0]
              walk_at "go"
              refine k _ s' _ ?_
              rw [decide_eq_true_iff]
              exact ⟨fun z => ⟨h0, hp, fun _ => he.mpr ⟨c0, z⟩⟩, fun z => (he.mp (z.2.2 (by omega))).2⟩
            · rw [decide_eq_false c0]
              walk_at "go"
              exact k _ s' _ ⟨fun z => (by cases z), fun z => absurd (he.mp (z.2.2 (by omega))).1 c0⟩
        · have hb : ((List.range (es.length - 1)).map fun i => decide (es.getD i 0 > es.getD (i + 1) 0)).any id = true := pair_bad.mpr hp
          rw [hb]
          walk_at "go"
          exact k _ s' _ ⟨fun z => (by cases z), fun z => absurd z.2.1 hp⟩
def spDueSum (K : PySem.W.Frag) : Sp := fun vs H Q _ => ∃ (a : Addr) (arm mod : Nat) (h m : Int), vs = [.ref a, .int h, .int m] ∧ BookAt K H a arm mod ∧ arm ≤ 1000 ∧ h.natAbs ≤ 1000000 ∧ Q (.int ((arm : Int) * (2 - 2 * h - m))) H
theorem ok_duesum (B : Bi K mg) (F : FnP K "due_sum" st_due_sum f fd) : FnOk P w K mg base CX0 1 f fd ["book", "handles", "many"] (spDueSum K) := by
  refine F.ok sc_due_sum (fun vs H Q E h => ?_) (fun cdv A outer s H vs Q E hr h => ?_)
  · obtain ⟨a, arm, mod, h, m, rfl, _⟩ := h
    rfl
  · obtain ⟨a, arm, mod, h, m, rfl, ⟨dx, hB⟩, h1, h2, k⟩ := h
    have G := B
    have cB := G.cls_Book
    have n1 := G.na_Book_arms
    refine ⟨_, PSs.nox ((pss_one (ps_ret (pe_op op_mul (pe_fld (pv 0) (by rfl)) (pe_op op_sub (pe_op op_sub pe_int (pe_op op_mul pe_int (pv 1))) (pv 2)))))), ?_⟩
    try dsimp only [cxOf]
    have c1 : CMul 2 h := .inl ⟨by omega, by omega⟩
    have c2 : CMul (arm : Int) (2 - 2 * h - m) := .inl ⟨by omega, by omega⟩
    walk_at "go"
    exact k
def spSumOk (K : PySem.W.Frag) : Sp := fun vs H Q _ => ∃ (a r : Addr) (arm mod : Nat) (h : Int) (es : List Int), vs = [.ref a, .int h, .ref r] ∧ BookAt K H a arm mod ∧ arm ≤ 1000 ∧ mod ≤ 1000 ∧ SqT K H r (es.map V.int) ∧ h.natAbs ≤ 1000000 ∧ Tells (SumOk arm mod h es) fun b => Q (.bl b) H
theorem ok_sumok (B : Bi K mg) (c_divides : C8.Cal P w K mg base 1 "divides" spDivides []) (c_due_sum : C8.Cal P w K mg base 1 "due_sum" (spDueSum K) []) (F : FnP K "sum_stands" st_sum_stands f fd) : FnOk P w K mg base CX0 2 f fd ["book", "handles", "rims"] (spSumOk K) := by
  refine F.ok sc_sum_stands (fun vs H Q E h => ?_) (fun cdv A outer s H vs Q E hr h => ?_)
  · obtain ⟨a, r, arm, mod, h, es, rfl, _⟩ := h
    rfl
  · obtain ⟨a, r, arm, mod, h, es, rfl, hB, h1, h2, hR, hh, k⟩ := h
    have G := B
    have cB := G.cls_Book
    have n2 := G.na_Book_modulus
    obtain ⟨dx, hB'⟩ := id hB
    refine ⟨_, PSs.nox ((pss_one (ps_ret (C8.pe_c c_divides hr (by decide) rfl (pa_cons (pe_fld (pv 0) (by rfl)) (pa_cons (pe_op op_sub (pe_callB (cr_sumT rfl) (by rfl) G.sum (by decide +kernel) (pa_cons (pv 2) pa_nil)) (C8.pe_c c_due_sum hr (by decide) rfl (pa_cons (pv 0) (pa_cons (pv 1) (pa_cons (pe_callB callLenS (by rfl) G.len PySem.boot_len (pa_cons (pv 2) pa_nil)) pa_nil))))) pa_nil)))))), ?_⟩
    try dsimp only [cxOf]
    walk_at "go"
    refine x_sumT hR ?_
    walk_at "go"
    refine x_lenT hR ?_
    walk_at "go"
    rw [List.length_map]
    refine ⟨a, arm, mod, h, (es.length : Nat), rfl, hB, h1, hh, ?_⟩
    walk_at "go"
    exact ⟨(mod : Int), _, rfl, by omega, by omega, k⟩
def spMeasOk (K : PySem.W.Frag) : Sp := fun vs H Q _ => ∃ (a r : Addr) (arm mod : Nat) (es : List Int) (m : Int), vs = [.ref a, .ref r, .int m] ∧ BookAt K H a arm mod ∧ arm ≤ 1000 ∧ mod ≤ 1000 ∧ SqT K H r (es.map V.int) ∧ es.length ≤ 900 ∧ m < 1073741824 ∧ ∀ H', Same H H' → Tells (MeasOk arm mod es m) fun b => Q (.bl b) H'
theorem ok_measok (B : Bi K mg) (c_divides : C8.Cal P w K mg base 1 "divides" spDivides []) (F : FnP K "measure_stands" st_measure_stands f fd) : FnOk P w K mg base CX0 2 f fd ["book", "rims", "measure"] (spMeasOk K) := by
  refine F.ok sc_measure_stands (fun vs H Q E h => ?_) (fun cdv A outer s H vs Q E hr h => ?_)
  · obtain ⟨a, r, arm, mod, es, m, rfl, _⟩ := h
    rfl
  · obtain ⟨a, r, arm, mod, es, m, rfl, hB, h1, h2, hR, hl, hm, k⟩ := h
    have G := B
    have cB := G.cls_Book
    have n1 := G.na_Book_arms
    have n2 := G.na_Book_modulus
    obtain ⟨dx, hB'⟩ := id hB
    refine ⟨_, PSs.nox ((pss_cons (ps_if (PW.pt (pw_or (pt_cmpR op_lt (pv 2) (pe_ifExp (pt_cmpR op_eq (pe_fld (pv 0) (by rfl)) pe_int (nomark _)) pe_int pe_int) (nomark _)) (pw_or1 (pt_not (pt_val (C8.pe_c c_divides hr (by decide) rfl (pa_cons (pv 2) (pa_cons (pe_fld (pv 0) (by rfl)) pa_nil))))))))
        (pss_one (ps_ret pe_bl))
        pss_nil)
      (pss_one (ps_ret (pe_callB (cr_all rfl) (by rfl) G.all (by decide +kernel) (pa_cons (pe_lc (own := [("rim", 3)]) rfl sc_measure_stands.nd (pi_tup (pv 1)) (blkOk_by (own := [("rim", 3)]) (N := ["book", "rims", "measure", "rim"]) (sc := defScope st_measure_stands) (by decide +kernel)) (fun _ _ _ _ _ => (pg_name (i := 3) sc_measure_stands.nd rfl (Or.inl rfl))) (fun _ _ _ _ _ => pts_nil) (fun _ _ _ _ _ => (C8.pe_c c_divides hr (by decide) rfl (pa_cons (pv 2) (pa_cons (pe_op op_add (pv 3) (pe_fldK (K := K) rfl (pv 0) (by rfl))) pa_nil))))) pa_nil)))))), ?_⟩
    try dsimp only [cxOf]
    walk_at "go"
    have bad : ¬(0 ≤ m ∧ m ∣ (mod : Int)) → Q (.bl false) H := fun hn => k H (Same.refl _) false ⟨fun z => (by cases z), fun z => absurd ⟨z.1, z.2.1⟩ hn⟩
    refine x_iteD (fun hz => ?_) (fun hz => ?_)
    all_goals walk_at "go"
    all_goals refine x_iteD (fun hlt => ?_) (fun hlt => ?_)
    · walk_at "go"
      exact bad fun z => by omega
    · walk_at "go"
      refine ⟨m, (mod : Int), rfl, by omega, hm, fun b hb => ?_⟩
      cases b with
      | false =>
        walk_at "go"
        exact bad fun z => by have := hb.mpr z.2; cases this
      | true =>
        have hd := hb.mp rfl
        walk_at "go"
        refine w_lcT (xs := es.map V.int) hR (by rw [List.length_map]; exact Nat.lt_of_le_of_lt hl (by decide)) (fun i acc => ∃ bs : List Bool, acc = bs.map V.bl ∧ (bs.all id = true ↔ ∀ e ∈ es.take i, m ∣ e + (arm : Int))) ⟨[], rfl, ⟨fun _ e he => (by cases he), fun _ => rfl⟩⟩ ?_ ?_
        · rintro i x H' acc hi s' ⟨bs, rfl, hbs⟩ hai R S2 hR2 hS2
          obtain ⟨e, rfl, he⟩ := int_at hi
          obtain ⟨dx, hB'⟩ := hB.same s'
          walk_at "go"
          refine ⟨rfl, ?_⟩
          walk_at "go"
          refine ⟨m, _, rfl, by omega, hm, fun b2 hb2 => ?_⟩
          refine hR2 _ _ (Same.refl _) ⟨bs ++ [b2], by rw [List.map_append]; rfl, ?_⟩
          rw [List.all_append, Bool.and_eq_true, hbs, take_snoc he]
          constructor
          · rintro ⟨z1, z2⟩ q hq
            rcases List.mem_append.mp hq with z | z
            · exact z1 q z
            · rw [List.mem_singleton.mp z]
              exact hb2.mp (by simpa using z2)
          · exact fun z => ⟨fun q hq => z q (List.mem_append_left _ hq), by simpa using hb2.mpr (z e (List.mem_append_right _ (List.mem_singleton_self _)))⟩
        · rintro q H' acc hq s' hq' ⟨bs, rfl, hbs⟩
          rw [List.length_map, List.take_length] at hbs
          walk_at "go"
          refine x_all (SqL.of hq') ?_
          refine k H' s' _ ?_
          rw [hbs]
          exact ⟨fun z => ⟨by omega, hd, z⟩, fun z => z.2.2⟩
    · walk_at "go"
      refine bad fun z => ?_
      have : m = 0 := by omega
      rw [this] at z
      have := Int.zero_dvd.mp z.2
      omega
    · walk_at "go"
      refine ⟨m, (mod : Int), rfl, by omega, hm, fun b hb => ?_⟩
      cases b with
      | false =>
        walk_at "go"
        exact bad fun z => by have := hb.mpr z.2; cases this
      | true =>
        have hd := hb.mp rfl
        walk_at "go"
        refine w_lcT (xs := es.map V.int) hR (by rw [List.length_map]; exact Nat.lt_of_le_of_lt hl (by decide)) (fun i acc => ∃ bs : List Bool, acc = bs.map V.bl ∧ (bs.all id = true ↔ ∀ e ∈ es.take i, m ∣ e + (arm : Int))) ⟨[], rfl, ⟨fun _ e he => (by cases he), fun _ => rfl⟩⟩ ?_ ?_
        · rintro i x H' acc hi s' ⟨bs, rfl, hbs⟩ hai R S2 hR2 hS2
          obtain ⟨e, rfl, he⟩ := int_at hi
          obtain ⟨dx, hB'⟩ := hB.same s'
          walk_at "go"
          refine ⟨rfl, ?_⟩
          walk_at "go"
          refine ⟨m, _, rfl, by omega, hm, fun b2 hb2 => ?_⟩
          refine hR2 _ _ (Same.refl _) ⟨bs ++ [b2], by rw [List.map_append]; rfl, ?_⟩
          rw [List.all_append, Bool.and_eq_true, hbs, take_snoc he]
          constructor
          · rintro ⟨z1, z2⟩ q hq
            rcases List.mem_append.mp hq with z | z
            · exact z1 q z
            · rw [List.mem_singleton.mp z]
              exact hb2.mp (by simpa using z2)
          · exact fun z => ⟨fun q hq => z q (List.mem_append_left _ hq), by simpa using hb2.mpr (z e (List.mem_append_right _ (List.mem_singleton_self _)))⟩
        · rintro q H' acc hq s' hq' ⟨bs, rfl, hbs⟩
          rw [List.length_map, List.take_length] at hbs
          walk_at "go"
          refine x_all (SqL.of hq') ?_
          refine k H' s' _ ?_
          rw [hbs]
          exact ⟨fun z => ⟨by omega, hd, z⟩, fun z => z.2.2⟩
def spShareOk (K : PySem.W.Frag) : Sp := fun vs H Q _ => ∃ (a r : Addr) (arm mod : Nat) (es : List Int) (p : Int), vs = [.ref a, .ref r, .int p] ∧ BookAt K H a arm mod ∧ SqT K H r (es.map V.int) ∧ es.length ≤ 900 ∧ p < 1073741824 ∧ ∀ H', Same H H' → Tells (ShareOk arm mod es p) fun b => Q (.bl b) H'
theorem ok_shareok (B : Bi K mg) (F : FnP K "share_stands" st_share_stands f fd) : FnOk P w K mg base CX0 1 f fd ["book", "rims", "share"] (spShareOk K) := by
  refine F.ok sc_share_stands (fun vs H Q E h => ?_) (fun cdv A outer s H vs Q E hr h => ?_)
  · obtain ⟨a, r, arm, mod, es, p, rfl, _⟩ := h
    rfl
  · obtain ⟨a, r, arm, mod, es, p, rfl, hB, hR, hl, hp, k⟩ := h
    have G := B
    have cB := G.cls_Book
    have n1 := G.na_Book_arms
    have n2 := G.na_Book_modulus
    obtain ⟨dx, hB'⟩ := id hB
    refine ⟨_, PSs.nox ((pss_cons (ps_if (PW.pt (pw_or (pt_cmpR op_lt (pv 2) pe_int (nomark _)) (pw_or (pt_cmpR op_ne (pe_op op_mod (pe_fld (pv 0) (by rfl)) (pv 2)) pe_int (nomark _)) (pw_or1 (pt_cmpR op_ne (pe_op op_mod (pe_fld (pv 0) (by rfl)) (pv 2)) pe_int (nomark _))))))
        (pss_one (ps_ret pe_bl))
        pss_nil)
      (pss_one (ps_ret (pe_callB (cr_all rfl) (by rfl) G.all (by decide +kernel) (pa_cons (pe_lc (own := [("rim", 3)]) rfl sc_share_stands.nd (pi_tup (pv 1)) (blkOk_by (own := [("rim", 3)]) (N := ["book", "rims", "share", "rim"]) (sc := defScope st_share_stands) (by decide +kernel)) (fun _ _ _ _ _ => (pg_name (i := 3) sc_share_stands.nd rfl (Or.inl rfl))) (fun _ _ _ _ _ => pts_nil) (fun _ _ _ _ _ => (pe_cmpR op_eq (pe_op op_mod (pv 3) (pv 2)) pe_int (nomark _)))) pa_nil)))))), ?_⟩
    try dsimp only [cxOf]
    walk_at "go"
    have bad : ¬ShareOk arm mod es p → Q (.bl false) H := fun hn => k H (Same.refl _) false ⟨fun z => (by cases z), fun z => absurd z hn⟩
    refine x_iteD (fun c1 => ?_) (fun c1 => ?_)
    · walk_at "go"
      exact bad fun z => by have := z.1; omega
    walk_at "go"
    refine Classical.byCases (p := ¬((arm : Int) % p = 0)) (fun c2 => ?_) (fun c2 => ?_)
    · rw [decide_eq_false c2]
      walk_at "go"
      exact bad fun z => c2 ((dvd_emod (by omega)).mpr z.2.1)
    have c2 := Classical.not_not.mp c2
    rw [decide_eq_true c2]
    walk_at "go"
    refine Classical.byCases (p := ¬((mod : Int) % p = 0)) (fun c3 => ?_) (fun c3 => ?_)
    · rw [decide_eq_false c3]
      walk_at "go"
      exact bad fun z => c3 ((dvd_emod (by omega)).mpr z.2.2.1)
    have c3 := Classical.not_not.mp c3
    rw [decide_eq_true c3]
    walk_at "go"
    refine w_lcT (xs := es.map V.int) hR (by rw [List.length_map]; exact Nat.lt_of_le_of_lt hl (by decide)) (fun i acc => acc = ((es.map fun e => decide (e % p = 0)).map V.bl).take i) rfl ?_ ?_
    · rintro i x H' acc hi s' rfl hai R S2 hR2 hS2
      obtain ⟨e, rfl, he⟩ := int_at hi
      walk_at "go"
      refine ⟨rfl, ?_⟩
      walk_at "go"
      refine hR2 _ _ (Same.refl _) ?_
      rw [take_snoc (show ((es.map fun e => decide (e % p = 0)).map V.bl)[i]? = some (.bl (decide (e % p = 0))) by rw [List.getElem?_map, List.getElem?_map, he]; rfl)]
    · rintro q H' acc hq s' hq' rfl
      rw [List.length_map, List.take_of_length_le (by rw [List.length_map, List.length_map]; exact Nat.le_refl _)] at hq'
      walk_at "go"
      refine x_all (SqL.of hq') ?_
      refine k H' s' _ ?_
      rw [List.all_map, List.all_eq_true]
      constructor
      · exact fun z => ⟨by omega, (dvd_emod (by omega)).mp c2, (dvd_emod (by omega)).mp c3, fun e he => (dvd_emod (by omega)).mp (of_decide_eq_true (z e he))⟩
      · exact fun z e he => decide_eq_true ((dvd_emod (by omega)).mpr (z.2.2.2 e he))
def spBalOk (K : PySem.W.Frag) : Sp := fun vs H Q _ => ∃ (a r : Addr) (arm mod : Nat) (es : List Int) (p : Int) (sn : Option Int), vs = [.ref a, .ref r, .int p, oV sn] ∧ BookAt K H a arm mod ∧ SqT K H r (es.map V.int) ∧ es.length ≤ 900 ∧ 1 ≤ p ∧ p < 1073741824 ∧ ∀ H', Same H H' → Tells (BalOk arm mod es p sn) fun b => Q (.bl b) H'
theorem ok_balok (B : Bi K mg) (c_has_balance : C8.Cal P w K mg base 1 "has_balance" (spHasBal K) []) (c_some_odd_rim : C8.Cal P w K mg base 1 "some_odd_rim" (spOddRim K) []) (F : FnP K "balance_stands" st_balance_stands f fd) : FnOk P w K mg base CX0 2 f fd ["book", "rims", "share", "balance"] (spBalOk K) := by
  refine F.ok sc_balance_stands (fun vs H Q E h => ?_) (fun cdv A outer s H vs Q E hr h => ?_)
  · obtain ⟨a, r, arm, mod, es, p, sn, rfl, _⟩ := h
    rfl
  · obtain ⟨a, r, arm, mod, es, p, sn, rfl, hB, hR, hl, h1, h2, k⟩ := h
    have G := B
    refine ⟨_, PSs.nox ((pss_cons (ps_if (pt_not (pt_val (C8.pe_c c_has_balance hr (by decide) rfl (pa_cons (pv 0) (pa_cons (pv 2) pa_nil)))))
        (pss_one (ps_ret (pe_cmpR op_isNn (pv 3) pe_non (nomark _))))
        pss_nil)
      (pss_cons (ps_if (pt_cmpR op_isNn (pv 3) pe_non (nomark _))
        (pss_one (ps_ret pe_bl))
        pss_nil)
      (pss_one (ps_ret (pe_cmpR op_eq (pe_cmpR op_eq (pv 3) pe_int (nomark _)) (C8.pe_c c_some_odd_rim hr (by decide) rfl (pa_cons (pv 0) (pa_cons (pv 1) (pa_cons (pv 2) pa_nil)))) (nomark _))))))), ?_⟩
    try dsimp only [cxOf]
    walk_at "go"
    refine ⟨a, arm, mod, p, rfl, hB, h1, h2, fun b hb => ?_⟩
    walk_at "go"
    cases b with
    | false =>
      have hn : ¬HasBal arm mod p := fun z => by have := hb.mpr z; cases this
      walk_at "go"
      refine k H (Same.refl _) _ ?_
      rw [decide_eq_true_iff]
      cases sn with
      | none => exact ⟨fun _ => .inr ⟨hn, rfl⟩, fun _ => rfl⟩
      | some z => exact ⟨fun z => (by cases z), fun z => z.elim (fun z => absurd z.1 hn) fun z => (by cases z.2)⟩
    | true =>
      have hy := hb.mp rfl
      walk_at "go"
      cases sn with
      | none =>
        rw [decide_eq_true (show oV none = V.non from rfl)]
        walk_at "go"
        exact k H (Same.refl _) _ ⟨fun z => (by cases z), fun z => z.elim (fun ⟨_, q, e, _⟩ => by cases e) fun z => absurd hy z.1⟩
      | some z =>
        rw [decide_eq_false (show ¬ oV (some z) = V.non from fun e => by cases e)]
        walk_at "go"
        refine x_eqI (i := z) ?_
        walk_at "go"
        refine ⟨a, r, arm, mod, es, p, rfl, hB, hR, hl, h1, h2, fun H' s' b2 hb2 => ?_⟩
        walk_at "go"
        refine k H' s' _ ?_
        rw [decide_eq_true_iff]
        by_cases hz : z = 0
        · rw [decide_eq_true hz]
          constructor
          · exact fun e => .inl ⟨hy, z, rfl, ⟨fun _ => hb2.mp e.symm, fun _ => hz⟩⟩
          · rintro (⟨_, q, e, h⟩ | ⟨h, _⟩)
            · cases e
              exact (hb2.mpr (h.mp hz)).symm
            · exact absurd hy h
        · rw [decide_eq_false hz]
          constructor
          · exact fun e => .inl ⟨hy, z, rfl, ⟨fun e' => absurd e' hz, fun e' => by have := hb2.mpr e'; rw [← e] at this; cases this⟩⟩
          · rintro (⟨_, q, e, h⟩ | ⟨h, _⟩)
            · cases e
              cases b2 with
              | false => rfl
              | true => exact absurd (h.mpr (hb2.mp rfl)) hz
            · exact absurd hy h
/-- a text or nothing: nothing where it is empty -/
def tV (t : Str) : V := if t = "" then .non else .str t
def spBroken (K : PySem.W.Frag) : Sp := fun vs H Q _ => ∃ (a r : Addr) (arm mod : Nat) (h : Int) (es : List Int) (m p sn : Option Int), vs = [.ref a, .int h, .ref r, oV m, oV p, oV sn] ∧ BookAt K H a arm mod ∧ arm ≤ 1000 ∧ mod ≤ 1000 ∧ SqT K H r (es.map V.int) ∧ es.length ≤ 900 ∧ h.natAbs ≤ 1000000 ∧ (h = 1 → m ≠ none) ∧ (2 ≤ h → p ≠ none) ∧ m.getD 0 < 1073741824 ∧ p.getD 0 < 1073741824 ∧ ∀ H', Same H H' → Q (tV (brk arm mod h es m p sn)) H'
theorem ok_broken (B : Bi K mg) (c_rims_stand : C8.Cal P w K mg base 1 "rims_stand" (spRimsOk K) []) (c_sum_stands : C8.Cal P w K mg base 2 "sum_stands" (spSumOk K) []) (c_measure_stands : C8.Cal P w K mg base 2 "measure_stands" (spMeasOk K) []) (c_share_stands : C8.Cal P w K mg base 1 "share_stands" (spShareOk K) []) (c_balance_stands : C8.Cal P w K mg base 2 "balance_stands" (spBalOk K) []) (F : FnP K "broken_count" st_broken_count f fd) : FnOk P w K mg base CX0 3 f fd ["book", "handles", "rims", "measure", "share", "balance"] (spBroken K) := by
  refine F.ok sc_broken_count (fun vs H Q E h => ?_) (fun cdv A outer s H vs Q E hr h => ?_)
  · obtain ⟨a, r, arm, mod, hh, es, m, p, sn, rfl, _⟩ := h
    rfl
  · obtain ⟨a, r, arm, mod, hh, es, m, p, sn, rfl, hB, h1, h2, hR, hl, hhb, hm1, hp2, hm, hp, k⟩ := h
    have G := B
    refine ⟨_, PSs.nox ((pss_cons (ps_if (pt_not (pt_val (C8.pe_c c_rims_stand hr (by decide) rfl (pa_cons (pv 0) (pa_cons (pv 2) pa_nil)))))
        (pss_one (ps_ret pe_str))
        pss_nil)
      (pss_cons (ps_if (pt_not (pt_val (C8.pe_c c_sum_stands hr (by decide) rfl (pa_cons (pv 0) (pa_cons (pv 1) (pa_cons (pv 2) pa_nil))))))
        (pss_one (ps_ret pe_str))
        pss_nil)
      (pss_cons (ps_if (PW.pt (pw_and (pt_cmpR op_eq (pv 1) pe_int (nomark _)) (pw_and1 (pt_not (pt_val (C8.pe_c c_measure_stands hr (by decide) rfl (pa_cons (pv 0) (pa_cons (pv 2) (pa_cons (pv 3) pa_nil)))))))))
        (pss_one (ps_ret pe_str))
        pss_nil)
      (pss_cons (ps_if (PW.pt (pw_and (pt_cmpR op_ge (pv 1) pe_int (nomark _)) (pw_and1 (pt_not (pt_val (C8.pe_c c_share_stands hr (by decide) rfl (pa_cons (pv 0) (pa_cons (pv 2) (pa_cons (pv 4) pa_nil)))))))))
        (pss_one (ps_ret pe_str))
        pss_nil)
      (pss_cons (ps_if (PW.pt (pw_and (pt_cmpR op_ge (pv 1) pe_int (nomark _)) (pw_and1 (pt_not (pt_val (C8.pe_c c_balance_stands hr (by decide) rfl (pa_cons (pv 0) (pa_cons (pv 2) (pa_cons (pv 4) (pa_cons (pv 5) pa_nil))))))))))
        (pss_one (ps_ret pe_str))
        pss_nil)
      (pss_one (ps_ret pe_non)))))))), ?_⟩
    try dsimp only [cxOf]
    walk_at "go"
    refine ⟨a, r, arm, mod, es, rfl, hB, hR, hl, fun H1 s1 b hb => ?_⟩
    unfold brk at k
    cases b with
    | false =>
      have hn : ¬RimsOk mod es := fun z => by have := hb.mpr z; cases this
      rw [if_pos hn] at k
      walk_at "go"
      exact k H1 s1
    | true =>
    have hy := hb.mp rfl
    rw [if_neg (fun z => z hy)] at k
    walk_at "go"
    refine ⟨a, r, arm, mod, hh, es, rfl, hB.same s1, h1, h2, Same.sqt s1 hR, hhb, fun b2 hb2 => ?_⟩
    cases b2 with
    | false =>
      have hn : ¬SumOk arm mod hh es := fun z => by have := hb2.mpr z; cases this
      rw [if_pos hn] at k
      walk_at "go"
      exact k H1 s1
    | true =>
    have hy2 := hb2.mp rfl
    rw [if_neg (fun z => z hy2)] at k
    walk_at "go"
    by_cases c1 : hh = 1
    · obtain ⟨mv, rfl⟩ := Option.ne_none_iff_exists'.mp (hm1 c1)
      rw [if_pos c1] at k
      simp only [Option.getD_some] at k hm
      rw [decide_eq_true c1]
      walk_at "go"
      refine ⟨a, r, arm, mod, es, mv, rfl, hB.same s1, h1, h2, Same.sqt s1 hR, hl, hm, fun H2 s2 b3 hb3 => ?_⟩
      have s12 := Same.trans s1 s2
      cases b3 with
      | false =>
        have hn : ¬MeasOk arm mod es mv := fun z => by have := hb3.mpr z; cases this
        rw [if_neg hn] at k
        walk_at "go"
        exact k H2 s12
      | true =>
        rw [if_pos (hb3.mp rfl)] at k
        walk_at "go"
        rw [decide_eq_false (show ¬ 2 ≤ hh by omega)]
        walk_at "go"
        rw [decide_eq_false (show ¬ 2 ≤ hh by omega)]
        walk_at "go"
        exact k H2 s12
    · rw [if_neg c1] at k
      rw [decide_eq_false c1]
      walk_at "go"
      by_cases c2 : 2 ≤ hh
      · obtain ⟨pv', rfl⟩ := Option.ne_none_iff_exists'.mp (hp2 c2)
        rw [if_neg (show ¬ hh < 2 by omega)] at k
        simp only [Option.getD_some] at k hp
        rw [decide_eq_true c2]
        walk_at "go"
        refine ⟨a, r, arm, mod, es, pv', rfl, hB.same s1, Same.sqt s1 hR, hl, hp, fun H2 s2 b3 hb3 => ?_⟩
        have s12 := Same.trans s1 s2
        cases b3 with
        | false =>
          have hn : ¬ShareOk arm mod es pv' := fun z => by have := hb3.mpr z; cases this
          rw [if_pos hn] at k
          walk_at "go"
          exact k H2 s12
        | true =>
          have hy3 := hb3.mp rfl
          rw [if_neg (fun z => z hy3)] at k
          walk_at "go"
          rw [decide_eq_true c2]
          walk_at "go"
          refine ⟨a, r, arm, mod, es, pv', sn, rfl, hB.same s12, Same.sqt s12 hR, hl, hy3.1, hp, fun H3 s3 b4 hb4 => ?_⟩
          have s13 := Same.trans s12 s3
          cases b4 with
          | false =>
            have hn : ¬BalOk arm mod es pv' sn := fun z => by have := hb4.mpr z; cases this
            rw [if_neg hn] at k
            walk_at "go"
            exact k H3 s13
          | true =>
            rw [if_pos (hb4.mp rfl)] at k
            walk_at "go"
            exact k H3 s13
      · rw [if_pos (show hh < 2 by omega)] at k
        rw [decide_eq_false c2]
        walk_at "go"
        rw [decide_eq_false c2]
        walk_at "go"
        exact k H1 s1
theorem x_isN {K : PySem.W.Frag} {H : Hp} {Q : VK} {n : String} {b : Bool} (e : PySem.W.kitOne K (.type "NoneType") (.type n) = some b) (k : Q (.bl b) H) : rIsi K [.non, .ty n] H Q := x_isTy .non e k
theorem x_raise2 {C : Addr} {g g' : Str} {W : WX} {ta : TA} {D : Ends} {σ : L2.St} {H : Hp} (h : ta σ H fun vs H1 => ∃ v u, vs = [v, u] ∧ ∀ d, H1 d = none → W (.ref C) (some d) σ (upd H1 d (.xd [(g', u), (g, v)]))) : tRaise2 C g g' W ta D σ H := h
def spIll : Sp := fun vs H Q _ => ∃ (h : Int) (m p sn : Option Int), vs = [.int h, oV m, oV p, oV sn] ∧ ∀ (v : V) H', Same H H' → (Formed h m p sn → v = .non) → (¬Formed h m p sn → ∃ t : Str, v = .str t ∧ t ≠ "") → Q v H'
theorem oV_none (m : Option Int) : decide (oV m = V.non) = !m.isSome := by
  cases m with
  | none => exact decide_eq_true rfl
  | some z => exact decide_eq_false fun e => by cases e
theorem ok_ill (B : Bi K mg) (F : FnP K "ill_formed" st_ill_formed f fd) : FnOk P w K mg base CX0 1 f fd ["handles", "measure", "share", "balance"] spIll := by
  refine F.ok sc_ill_formed (fun vs H Q E h => ?_) (fun cdv A outer s H vs Q E hr h => ?_)
  · obtain ⟨h, m, p, sn, rfl, _⟩ := h
    rfl
  · obtain ⟨hh, m, p, sn, rfl, k⟩ := h
    have G := B
    refine ⟨_, PSs.nox ((pss_cons (ps_if (pt_cmpR op_lt (pv 0) pe_int (nomark _))
        (pss_one (ps_ret pe_str))
        pss_nil)
      (pss_cons (ps_if (pt_cmpR op_eq (pe_cmpR op_isNn (pv 1) pe_non (nomark _)) (pe_cmpR op_eq (pv 0) pe_int (nomark _)) (nomark _))
        (pss_one (ps_ret pe_str))
        pss_nil)
      (pss_cons (ps_if (pt_cmpR op_eq (pe_cmpR op_isNn (pv 2) pe_non (nomark _)) (pe_cmpR op_ge (pv 0) pe_int (nomark _)) (nomark _))
        (pss_one (ps_ret pe_str))
        pss_nil)
      (pss_cons (ps_if (pt_cmpR op_isNn (pv 3) pe_non (nomark _))
        (pss_one (ps_ret pe_non))
        pss_nil)
      (pss_cons (ps_if (pt_cmpR op_lt (pv 0) pe_int (nomark _))
        (pss_one (ps_ret pe_str))
        pss_nil)
      (pss_cons (ps_if (PW.pt (pw_or (pt_val (pe_callB call_isi (by rfl) G.isinstance (by decide +kernel) (pa_cons (pv 3) (pa_cons (pe_bltn (v := .ty "bool") (u := .type "bool") (by rfl) G.bool (by decide +kernel) rfl) pa_nil)))) (pw_or1 (pt_cmpR op_notIn_seq (pv 3) (pe_tup (pa_cons pe_int (pa_cons pe_int (pa_cons (pe_un un_neg pe_int) pa_nil)))) (by rfl)))))
        (pss_one (ps_ret pe_str))
        pss_nil)
      (pss_one (ps_ret pe_non))))))))), ?_⟩
    try dsimp only [cxOf]
    have bad : ∀ t : Str, t ≠ "" → ¬Formed hh m p sn → Q (.str t) H := fun t ht hn => k _ H (Same.refl _) (fun z => absurd z hn) fun _ => ⟨t, rfl, ht⟩
    unfold Formed at bad
    walk_at "go"
    refine x_iteD (fun c1 => ?_) (fun c1 => ?_)
    · walk_at "go"
      exact bad _ (by decide +kernel) fun z => by omega
    walk_at "go"
    rw [oV_none]
    by_cases c2 : m.isSome = true ↔ hh = 1
    · have e2 : decide ((!m.isSome) = decide (hh = 1)) = false := by
        refine decide_eq_false fun z => ?_
        cases hm : m.isSome with
        | false => rw [hm] at z c2; have := of_decide_eq_true z.symm; exact absurd (c2.mpr this) (by decide)
        | true => rw [hm] at z c2; have := of_decide_eq_false z.symm; exact this (c2.mp rfl)
      rw [e2]
      walk_at "go"
      rw [oV_none]
      by_cases c3 : p.isSome = true ↔ 2 ≤ hh
      · have e3 : decide ((!p.isSome) = decide (2 ≤ hh)) = false := by
          refine decide_eq_false fun z => ?_
          cases hm : p.isSome with
          | false => rw [hm] at z c3; have := of_decide_eq_true z.symm; exact absurd (c3.mpr this) (by decide)
          | true => rw [hm] at z c3; have := of_decide_eq_false z.symm; exact this (c3.mp rfl)
        rw [e3]
        walk_at "go"
        cases sn with
        | none =>
          rw [decide_eq_true (show oV none = V.non from rfl)]
          walk_at "go"
          exact k _ H (Same.refl _) (fun _ => rfl) fun z => absurd ⟨by omega, c2, c3, .inl rfl⟩ z
        | some z =>
          rw [decide_eq_false (show ¬ oV (some z) = V.non from fun e => by cases e)]
          walk_at "go"
          refine x_iteD (fun c4 => ?_) (fun c4 => ?_)
          · walk_at "go"
            refine bad _ (by decide +kernel) fun q => ?_
            rcases q.2.2.2 with e | e
            · cases e
            · omega
          · walk_at "go"
            refine Cb.x_isIB (i := z) ?_
            walk_at "go"
            refine ⟨by show 3 ≤ sizeLine; decide, fun q hq => ?_⟩
            refine ⟨q, [.int 1, .int 0, .int (-1)], rfl, .inr (SqT.of upd_same), rfl, rfl, ?_⟩
            have ein : inV (oV (some z)) [.int 1, .int 0, .int (-1)] = decide (z = 1 ∨ z = 0 ∨ z = -1) := by
              show inV (.int z) [.int 1, .int 0, .int (-1)] = _
              rw [Bool.eq_iff_iff, decide_eq_true_iff]
              simp [inV, eqV]
              omega
            rw [if_pos rfl, ein]
            by_cases c5 : z = 1 ∨ z = 0 ∨ z = -1
            · rw [decide_eq_true c5]
              walk_at "go"
              refine k _ _ (Same.new hq) (fun _ => rfl) fun n => absurd ⟨by omega, c2, c3, .inr ⟨by omega, ?_⟩⟩ n
              rcases c5 with e | e | e
              · exact .inl (by rw [e])
              · exact .inr (.inl (by rw [e]))
              · exact .inr (.inr (by rw [e]))
            · rw [decide_eq_false c5]
              walk_at "go"
              refine k _ _ (Same.new hq) (fun n => ?_) fun _ => ⟨_, rfl, by decide +kernel⟩
              refine absurd n.2.2.2 fun e => ?_
              rcases e with e | ⟨_, e | e | e⟩
              · cases e
              · cases e; exact c5 (.inl rfl)
              · cases e; exact c5 (.inr (.inl rfl))
              · cases e; exact c5 (.inr (.inr rfl))
      · have e3 : decide ((!p.isSome) = decide (2 ≤ hh)) = true := by
          refine decide_eq_true ?_
          cases hm : p.isSome with
          | false => rw [hm] at c3; by_cases d : 2 ≤ hh; · rw [decide_eq_true d]; rfl
                     · exact absurd ⟨fun z => (by cases z), fun z => absurd z d⟩ c3
          | true => rw [hm] at c3; by_cases d : 2 ≤ hh; · exact absurd ⟨fun _ => d, fun _ => rfl⟩ c3
                    · rw [decide_eq_false d]; rfl
        rw [e3]
        walk_at "go"
        exact bad _ (by decide +kernel) fun z => c3 z.2.2.1
    · have e2 : decide ((!m.isSome) = decide (hh = 1)) = true := by
        refine decide_eq_true ?_
        cases hm : m.isSome with
        | false => rw [hm] at c2; by_cases d : hh = 1; · rw [decide_eq_true d]; rfl
                   · exact absurd ⟨fun z => (by cases z), fun z => absurd z d⟩ c2
        | true => rw [hm] at c2; by_cases d : hh = 1; · exact absurd ⟨fun _ => d, fun _ => rfl⟩ c2
                  · rw [decide_eq_false d]; rfl
      rw [e2]
      walk_at "go"
      exact bad _ (by decide +kernel) fun z => c2 z.2.1
/-- a kind of the program -/
def KindAt (K : PySem.W.Frag) (H : Hp) (a : Addr) (arm mod : Nat) (h : Int) (es : List Int) (m p sn : Option Int) : Prop := ∃ dx bk r : Addr, H a = some (.ins (He.ga K "Kind") dx [("book", .ref bk), ("handles", .int h), ("rims", .ref r), ("measure", oV m), ("share", oV p), ("balance", oV sn)]) ∧ BookAt K H bk arm mod ∧ H r = some (.tup (es.map V.int))
theorem KindAt.same {K : PySem.W.Frag} {H H' : Hp} {a : Addr} {arm mod : Nat} {h : Int} {es : List Int} {m p sn : Option Int} (x : KindAt K H a arm mod h es m p sn) (s : Same H H') : KindAt K H' a arm mod h es m p sn := by
  obtain ⟨dx, bk, r, h1, h2, h3⟩ := x
  exact ⟨dx, bk, r, s _ _ h1, h2.same s, s _ _ h3⟩
abbrev FnK (K : PySem.W.Frag) (f : Addr) (fd : FuncData) : Prop := FunD K "__init__" "Kind.__init__" (defArgs st_Kind_init) (defBody st_Kind_init) (defScope st_Kind_init) [] [("measure", .non), ("share", .non), ("balance", .non)] f fd
def spKind (K : PySem.W.Frag) : Sp := fun vs H Q E => ∃ (a dx bk rp : Addr) (arm mod : Nat) (h : Int) (es : List Int) (m p sn : Option Int), vs = [.ref a, .ref bk, .int h, .ref rp, oV m, oV p, oV sn] ∧ H a = some (.ins (He.ga K "Kind") dx []) ∧ BookAt K H bk arm mod ∧ arm ≤ 1000 ∧ mod ≤ 1000 ∧ (H rp = some (.lst (es.map V.int)) ∨ H rp = some (.tup (es.map V.int))) ∧ es.length ≤ 900 ∧ h.natAbs ≤ 1000000 ∧ m.getD 0 < 1073741824 ∧ p.getD 0 < 1073741824 ∧
  (Formed h m p sn → brk arm mod h es m p sn = "" → ∀ H', Kp a H H' → KindAt K H' a arm mod h es m p sn → Q .non H') ∧
  (¬Formed h m p sn → ∀ (why : Str) d H', why ≠ "" → Kp a H H' → H' d = some (.xd [("why", .str why), ("line", .int 0)]) → E (.ref (He.ga K "BadKind")) (some d) H') ∧
  (Formed h m p sn → brk arm mod h es m p sn ≠ "" → ∀ d H', Kp a H H' → H' d = some (.xd [("count", .str (brk arm mod h es m p sn))]) → E (.ref (He.ga K "NotOne")) (some d) H')
/-! ### lists of ints compared -/
theorem eqv_ints : ∀ (ns ms : List Int), PyData.eqvAll (ns.map PyData.int) (ms.map PyData.int) = decide (ns = ms)
  | [], [] => by simp [PyData.eqvAll]
  | [], _ :: _ => by simp [PyData.eqvAll]
  | _ :: _, [] => by simp [PyData.eqvAll]
  | n :: ns, m :: ms => by
    have := eqv_ints ns ms
    simp only [List.map_cons, PyData.eqvAll, PyData.eqv, this]
    rw [Bool.eq_iff_iff, Bool.and_eq_true, beq_iff_eq, decide_eq_true_iff, decide_eq_true_iff, List.cons.injEq]
theorem lay_ints : ∀ ns : List Int, PyData.canLayAll0 (ns.map PyData.int) = true
  | [] => by simp only [List.map_nil, PyData.canLayAll0]
  | n :: ns => by
    have := lay_ints ns
    simp only [List.map_cons, PyData.canLayAll0, PyData.canLay0, Bool.and_eq_true, true_and]
    exact this
theorem dep_ints : ∀ ns : List Int, PyData.depthAll (ns.map PyData.int) = 0
  | [] => by simp only [List.map_nil, PyData.depthAll]
  | n :: ns => by
    have := dep_ints ns
    simp only [List.map_cons, PyData.depthAll, PyData.depth, this]
    rfl
theorem shaped_ints (ns : List Int) : SeqAt.shaped (.list (ns.map PyData.int)) = true := by
  unfold SeqAt.shaped
  have g1 : PyData.canLay0 (.list (ns.map PyData.int)) = true := by
    simp only [PyData.canLay0]
    exact lay_ints ns
  have g3 : PyData.depth (.list (ns.map PyData.int)) ≤ 64 := by
    simp only [PyData.depth, dep_ints]
    omega
  rw [g1, Bool.true_and]
  exact decide_eq_true g3
theorem dp_ints {K : PySem.W.Frag} {H : Hp} : ∀ ns : List Int, DpAll K H (ns.map V.int) (ns.map PyData.int)
  | [] => .nil
  | n :: ns => .cons (.int n) (dp_ints ns)
theorem x_eqIL {K : PySem.W.Frag} {H : Hp} {Q : VK} {p q : Addr} {ns ms : List Int} (hp : SqL K H p (ns.map V.int)) (hq : SqL K H q (ms.map V.int)) (k : Q (.bl (decide (ns = ms))) H) : rEqD K (.ref p) (.ref q) H Q :=
  ⟨.list (ns.map PyData.int), .list (ms.map PyData.int), .lst hp (dp_ints ns), .lst hq (dp_ints ms), shaped_ints ns, shaped_ints ms, by rw [show PyData.eqv (.list (ns.map PyData.int)) (.list (ms.map PyData.int)) = decide (ns = ms) by simp only [PyData.eqv]; exact eqv_ints ns ms]; exact k⟩
theorem x_neIL {K : PySem.W.Frag} {H : Hp} {Q : VK} {p q : Addr} {ns ms : List Int} (hp : SqL K H p (ns.map V.int)) (hq : SqL K H q (ms.map V.int)) (k : Q (.bl (!decide (ns = ms))) H) : rNeD K (.ref p) (.ref q) H Q :=
  ⟨.list (ns.map PyData.int), .list (ms.map PyData.int), .lst hp (dp_ints ns), .lst hq (dp_ints ms), shaped_ints ns, shaped_ints ms, by rw [show PyData.eqv (.list (ns.map PyData.int)) (.list (ms.map PyData.int)) = decide (ns = ms) by simp only [PyData.eqv]; exact eqv_ints ns ms]; exact k⟩
theorem sorted_eq {ns ms : List Int} (hp : ms.Perm ns) (hs : ms.Pairwise (· ≤ ·)) : ns = ms ↔ ns.Pairwise (· ≤ ·) :=
  ⟨fun e => e ▸ hs, fun h => (List.Perm.eq_of_pairwise (fun a b _ _ x y => Int.le_antisymm x y) h hs hp.symm)⟩
/-! ### the law's counts -/
structure CtsAt (H : Hp) (c ep : Addr) (h : Int) (es : List Int) (m p sn : Option Int) : Prop where
  c_ : H c = some (.lst [.int h, .ref ep, oV m, oV p, oV sn])
  e_ : H ep = some (.lst (es.map V.int))
theorem CtsAt.same {H H' : Hp} {c ep : Addr} {h : Int} {es : List Int} {m p sn : Option Int} (x : CtsAt H c ep h es m p sn) (s : Same H H') : CtsAt H' c ep h es m p sn := ⟨s _ _ x.c_, s _ _ x.e_⟩
theorem CtsAt.kp {H H' : Hp} {b l c ep : Addr} {h : Int} {es : List Int} {m p sn : Option Int} (x : CtsAt H c ep h es m p sn) (hB : BagAt H b l) (k : Kp b H H') : CtsAt H' c ep h es m p sn := by
  obtain ⟨ns, i, g, e, xx, q, hb, _⟩ := hB.ex
  refine ⟨k _ _ (fun z => ?_) x.c_, k _ _ (fun z => ?_) x.e_⟩
  · have := x.c_
    rw [z, hb] at this
    injection this with this
    injection this with this
    injection this with this _
    cases this
  · have := x.e_
    rw [z, hb] at this
    cases es with
    | nil => cases this
    | cons _ _ => cases this
theorem iff_bool {a : Bool} {P : Prop} [Decidable P] : ((!a) = decide P) ↔ ¬(a = true ↔ P) := by
  cases a <;> by_cases h : P <;> simp [h]
theorem x_iteVia2 {w : Bool} {A B : Prop} (h : if w = true then A else B) : if w = true then A else B := h
theorem filt_yes {es : List Int} {i : Nat} {e : Int} (he : es[i]? = some e) {P : Int → Bool} (h : P e = true) : ((es.take i).filter P).map V.int ++ [.int e] = ((es.take (i + 1)).filter P).map V.int := by
  rw [take_snoc he, List.filter_append, List.filter_cons_of_pos h, List.map_append]
  rfl
theorem filt_no {es : List Int} {i : Nat} {e : Int} (he : es[i]? = some e) {P : Int → Bool} (h : P e = false) : ((es.take i).filter P).map V.int = ((es.take (i + 1)).filter P).map V.int := by
  rw [take_snoc he, List.filter_append, List.filter_cons_of_neg (by rw [h]; exact Bool.false_ne_true)]
  rw [show List.filter P [] = [] from rfl, List.append_nil]
theorem filt_len {es : List Int} {P : Int → Bool} {n : Nat} (h : es.length ≤ n) : (es.filter P).length ≤ n := Nat.le_trans (List.length_filter_le _ _) h
def spLBroken : Sp := fun vs H Q _ => ∃ (arm mod : Nat) (c ep : Addr) (h : Int) (es : List Int) (m p sn : Option Int), vs = [.int arm, .int mod, .ref c] ∧ CtsAt H c ep h es m p sn ∧ Formed h m p sn ∧ arm ≤ 1000 ∧ mod ≤ 1000 ∧ es.length ≤ 900 ∧ (∀ e ∈ es, e.natAbs ≤ 1000000000) ∧ h.natAbs ≤ 1000000 ∧ m.getD 0 < 1073741824 ∧ p.getD 0 < 1073741824 ∧ ∀ H', Same H H' → Q (.str (brk arm mod h es m p sn)) H'
theorem ok_lbroken (B : Bi K mg) (c_l_red : C8.Cal P w K mg base 1 "_law_red" spRed []) (c_l_divisor : C8.Cal P w K mg base 1 "_law_divisor" (spLDiv K) []) (F : FnP K "_law_broken" st_l_broken f fd) : FnOk P w K mg base CX0 2 f fd ["arm", "mod", "counts"] spLBroken := by
  refine F.ok sc_l_broken (fun vs H Q E h => ?_) (fun cdv A outer s H vs Q E hr h => ?_)
  · obtain ⟨arm, mod, c, ep, hh, es, m, p, sn, rfl, _⟩ := h
    rfl
  · obtain ⟨arm, mod, c, ep, hh, es, m, p, sn, rfl, hC, hF, h1, h2, hl, heb, hhb, hm, hp, k⟩ := h
    have G := B
    have hc := hC.c_
    have he := hC.e_
    refine ⟨_, PSs.nox ((pss_cons (ps_asg (pv 2) (pg_unl rfl (pgs_cons (pg_name (i := 3) sc_l_broken.nd rfl (Or.inl rfl)) (pgs_cons (pg_name (i := 4) sc_l_broken.nd rfl (Or.inl rfl)) (pgs_cons (pg_name (i := 5) sc_l_broken.nd rfl (Or.inr rfl)) (pgs_cons (pg_name (i := 6) sc_l_broken.nd rfl (Or.inr rfl)) (pgs_cons (pg_name (i := 7) sc_l_broken.nd rfl (Or.inl rfl)) pgs_nil)))))))
      (C8.pss_cut (ps_if (PW.pt (pw_or (pt_cmpR (op_eqD hr.units) (pv 4) (pe_lst pa_nil) (nomark _)) (pw_or (pt_cmpR (op_neD hr.units) (pv 4) (pe_callB cr_sortedI (by rfl) G.sorted (by decide +kernel) (pa_cons (pv 4) pa_nil)) (nomark _)) (pw_or1 (PW.pt (pw_and (pt_cmpR op_gt (pv 1) pe_int (nomark _)) (pw_and1 (pt_cmpR (op_neD hr.units) (pe_lc (own := [("num", 11)]) rfl sc_l_broken.nd (pi_list (pv 4)) (blkOk_by (own := [("num", 11)]) (N := ["arm", "mod", "counts", "hands", "edges", "meas", "part", "sign", "things", "wrong", "zero", "num"]) (sc := defScope st_l_broken) (by decide +kernel)) (fun _ _ _ _ _ => (pg_name (i := 11) sc_l_broken.nd rfl (Or.inl rfl))) (fun _ _ _ _ _ => (pts_one (pt_not (pt_chain op_le op_lt pe_int (pv 11) (pv 1))))) (fun _ _ _ _ _ => (pv 11))) (pe_lst pa_nil) (nomark _)))))))))
        (pss_one (ps_ret pe_str))
        pss_nil)
      (pss_cons (ps_if (pt_cmpR op_ne (C8.pe_c c_l_red hr (by decide) rfl (pa_cons (pv 1) (pa_cons (pe_op op_sub (pe_callB (cr_sum rfl) (by rfl) G.sum (by decide +kernel) (pa_cons (pv 4) pa_nil)) (pe_op op_mul (pv 0) (pe_op op_sub (pe_op op_sub pe_int (pe_op op_mul pe_int (pv 3))) (pe_callB callLenS (by rfl) G.len PySem.boot_len (pa_cons (pv 4) pa_nil))))) pa_nil))) pe_int (nomark _))
        (pss_one (ps_ret pe_str))
        pss_nil)
      (pss_cons (ps_if (pt_cmpR op_eq (pv 3) pe_int (nomark _))
        (pss_cons (ps_set (i := 8) sc_l_broken.nd rfl (Or.inl rfl) (pe_op op_cat (pe_lst (pa_cons (pv 1) pa_nil)) (pe_lc (own := [("num", 11)]) rfl sc_l_broken.nd (pi_list (pv 4)) (blkOk_by (own := [("num", 11)]) (N := ["arm", "mod", "counts", "hands", "edges", "meas", "part", "sign", "things", "wrong", "zero", "num"]) (sc := defScope st_l_broken) (by decide +kernel)) (fun _ _ _ _ _ => (pg_name (i := 11) sc_l_broken.nd rfl (Or.inl rfl))) (fun _ _ _ _ _ => pts_nil) (fun _ _ _ _ _ => (pe_op op_add (pv 11) (pv 0))))))
        (pss_cons (ps_set (i := 9) sc_l_broken.nd rfl (Or.inl rfl) (pe_or (pe_cmpR op_lt (pv 5) pe_int (nomark _)) (pe_or (pe_and (pe_cmpR op_eq (pv 5) pe_int (nomark _)) (pe_one (pe_cmpR op_ne (C8.pe_c c_l_divisor hr (by decide) rfl (pa_cons (pv 8) pa_nil)) pe_int (nomark _)))) (pe_one (pe_and (pe_cmpR op_gt (pv 5) pe_int (nomark _)) (pe_one (pe_cmpR (op_neD hr.units) (pe_lc (own := [("num", 11)]) rfl sc_l_broken.nd (pi_list (pv 8)) (blkOk_by (own := [("num", 11)]) (N := ["arm", "mod", "counts", "hands", "edges", "meas", "part", "sign", "things", "wrong", "zero", "num"]) (sc := defScope st_l_broken) (by decide +kernel)) (fun _ _ _ _ _ => (pg_name (i := 11) sc_l_broken.nd rfl (Or.inl rfl))) (fun _ _ _ _ _ => (pts_one (pt_cmpR op_ne (pe_op op_mod (pe_callTy call_intI (by rfl) G.int (by decide +kernel) (pa_cons (pv 11) pa_nil)) (pv 5)) pe_int (nomark _)))) (fun _ _ _ _ _ => (pv 11))) (pe_lst pa_nil) (nomark _))))))))
        (pss_one (ps_ret (pe_ifExp (pt_val (pv 9)) pe_str pe_str)))))
        pss_nil)
      (pss_cons (ps_if (pt_cmpR op_lt (pv 3) pe_int (nomark _))
        (pss_one (ps_ret pe_str))
        pss_nil)
      (pss_cons (ps_if (PW.pt (pw_or (pt_cmpR op_lt (pv 6) pe_int (nomark _)) (pw_or1 (pt_cmpR (op_neD hr.units) (pe_lc (own := [("num", 11)]) rfl sc_l_broken.nd (pi_list (pe_op op_cat (pe_lst (pa_cons (pv 0) (pa_cons (pv 1) pa_nil))) (pv 4))) (blkOk_by (own := [("num", 11)]) (N := ["arm", "mod", "counts", "hands", "edges", "meas", "part", "sign", "things", "wrong", "zero", "num"]) (sc := defScope st_l_broken) (by decide +kernel)) (fun _ _ _ _ _ => (pg_name (i := 11) sc_l_broken.nd rfl (Or.inl rfl))) (fun _ _ _ _ _ => (pts_one (pt_cmpR op_ne (pe_op op_mod (pe_callTy call_intI (by rfl) G.int (by decide +kernel) (pa_cons (pv 11) pa_nil)) (pv 6)) pe_int (nomark _)))) (fun _ _ _ _ _ => (pv 11))) (pe_lst pa_nil) (nomark _)))))
        (pss_one (ps_ret pe_str))
        pss_nil)
      (pss_cons (ps_if (PW.pt (pw_or (pt_cmpR op_eq (pe_op op_mod (pe_callTy call_intI (by rfl) G.int (by decide +kernel) (pa_cons (pe_op op_fdiv (pv 0) (pv 6)) pa_nil)) pe_int) pe_int (nomark _)) (pw_or1 (pt_cmpR op_eq (pe_op op_mod (pe_callTy call_intI (by rfl) G.int (by decide +kernel) (pa_cons (pe_op op_fdiv (pv 1) (pv 6)) pa_nil)) pe_int) pe_int (nomark _)))))
        (pss_one (ps_ret (pe_ifExp (pt_cmpR op_isNn (pv 7) pe_non (nomark _)) pe_str pe_str)))
        pss_nil)
      (pss_cons (ps_set (i := 10) sc_l_broken.nd rfl (Or.inl rfl) (pe_cmpR (op_neD hr.units) (pe_lc (own := [("num", 11)]) rfl sc_l_broken.nd (pi_list (pv 4)) (blkOk_by (own := [("num", 11)]) (N := ["arm", "mod", "counts", "hands", "edges", "meas", "part", "sign", "things", "wrong", "zero", "num"]) (sc := defScope st_l_broken) (by decide +kernel)) (fun _ _ _ _ _ => (pg_name (i := 11) sc_l_broken.nd rfl (Or.inl rfl))) (fun _ _ _ _ _ => (pts_one (pt_cmpR op_eq (pe_op op_mod (pe_callTy call_intI (by rfl) G.int (by decide +kernel) (pa_cons (pe_op op_fdiv (pe_op op_add (pv 11) (pv 0)) (pv 6)) pa_nil)) pe_int) pe_int (nomark _)))) (fun _ _ _ _ _ => (pv 11))) (pe_lst pa_nil) (nomark _)))
      (pss_one (ps_ret (pe_ifExp (PW.pt (pw_and (pt_cmpR op_noNn (pv 7) pe_non (nomark _)) (pw_and1 (pt_cmpR op_eq (pe_cmpR op_eq (pv 7) pe_int (nomark _)) (pv 10) (nomark _))))) pe_str pe_str)))))))))))), ?_⟩
    try dsimp only [cxOf]
    unfold Formed at hF
    obtain ⟨f1, f2, f3, f4⟩ := hF
    walk_at "go"
    refine x_cut (fun σ H' => Same H H' ∧ RimsOk mod es ∧ σ = [some (.int (arm : Nat)), some (.int (mod : Nat)), some (.ref c), some (.int hh), some (.ref ep), some (oV m), some (oV p), some (oV sn), none, none, none, none]) ?_ ?_
    · walk_at "go"
      refine ⟨Nat.zero_le _, fun u hu => ?_⟩
      refine x_eqIL (ns := es) (ms := []) (SqL.of (upd_old hu he)) (SqL.of upd_same) ?_
      have s1 : Same H (upd H u (.lst [])) := Same.new hu
      have he1 := s1 _ _ he
      revert s1 he1
      generalize upd H u (.lst []) = H1
      intro s1 he1
      by_cases c0 : es = []
      · rw [decide_eq_true c0]
        walk_at "go"
        rw [← brk_1 (arm := arm) (h := hh) (m := m) (p := p) (s := sn) (fun z => z.1 c0)]
        exact k _ s1
      rw [decide_eq_false c0]
      walk_at "go"
      refine ⟨ep, es, rfl, SqL.of he1, fun ns' q hperm hsort hq => ?_⟩
      refine x_neIL (ns := es) (ms := ns') (SqL.of (upd_old hq he1)) (SqL.of upd_same) ?_
      have s2 : Same H (upd H1 q (.lst (ns'.map V.int))) := Same.trans s1 (Same.new hq)
      have he2 := s2 _ _ he
      revert s2 he2
      generalize upd H1 q (.lst (ns'.map V.int)) = H2
      intro s2 he2
      refine Classical.byCases (p := ¬es.Pairwise (· ≤ ·)) (fun c1 => ?_) (fun c1 => ?_)
      · rw [decide_eq_false (fun z => c1 ((sorted_eq hperm hsort).mp z))]
        walk_at "go"
        rw [← brk_1 (arm := arm) (h := hh) (m := m) (p := p) (s := sn) (mod := mod) (es := es) (fun z => c1 z.2.1)]
        exact k _ s2
      have c1 := Classical.not_not.mp c1
      rw [decide_eq_true ((sorted_eq hperm hsort).mpr c1)]
      walk_at "go"
      by_cases c2 : (0 : Int) < (mod : Int)
      · rw [decide_eq_true c2]
        walk_at "go"
        refine w_lcL (xs := es.map V.int) (SqL.of he2) (by rw [List.length_map]; exact Nat.lt_of_le_of_lt hl (by decide)) (fun i acc => acc = ((es.take i).filter fun e => !(decide (0 ≤ e) && decide (e < (mod : Int)))).map V.int) rfl ?_ ?_
        · rintro i x H' acc hi s' rfl hai R S2 hR hS2
          obtain ⟨e, rfl, hei⟩ := int_at hi
          walk_at "go"
          refine ⟨rfl, ?_⟩
          walk_at "go"
          by_cases d1 : 0 ≤ e
          · rw [decide_eq_true d1]
            walk_at "go"
            by_cases d2 : e < (mod : Int)
            · rw [decide_eq_true d2]
              walk_at "go"
              exact hS2 _ (Same.refl _) (filt_no hei (by rw [decide_eq_true d1, decide_eq_true d2]; rfl))
            · rw [decide_eq_false d2]
              walk_at "go"
              exact hR _ _ (Same.refl _) (filt_yes hei (by rw [decide_eq_false d2, Bool.and_false]; rfl))
          · rw [decide_eq_false d1]
            walk_at "go"
            exact hR _ _ (Same.refl _) (filt_yes hei (by rw [decide_eq_false d1]; rfl))
        · rintro r H3 acc hr0 s3 hr3 rfl
          rw [List.length_map, List.take_length] at hr3
          walk_at "go"
          refine ⟨Nat.zero_le _, fun u hu => ?_⟩
          refine x_neIL (ms := []) (SqL.of (upd_old hu hr3)) (SqL.of upd_same) ?_
          have s4 : Same H (upd H3 u (.lst [])) := Same.trans s2 (Same.trans s3 (Same.new hu))
          by_cases d : es.filter (fun e => !(decide (0 ≤ e) && decide (e < (mod : Int)))) = []
          · rw [decide_eq_true d]
            walk_at "go"
            refine ⟨s4, ⟨c0, c1, fun _ e hm => ?_⟩, rfl⟩
            have := List.filter_eq_nil_iff.mp d e hm
            simp at this
            exact this
          · rw [decide_eq_false d]
            walk_at "go"
            rw [← brk_1 (arm := arm) (h := hh) (m := m) (p := p) (s := sn) (mod := mod) (es := es) (fun z => by
              obtain ⟨e, hm, hb⟩ := filt_ne.mp d
              have := z.2.2 (by omega) e hm
              rw [decide_eq_true this.1, decide_eq_true this.2] at hb
              cases hb)]
            exact k _ s4
      · rw [decide_eq_false c2]
        walk_at "go"
        exact ⟨s2, ⟨c0, c1, fun z => by omega⟩, rfl⟩
    rintro σ H1 ⟨s1, hR, rfl⟩
    have he1 := s1 _ _ he
    walk_at "go"
    refine x_sum (SqL.of he1) ?_
    have m1 : CMul 2 hh := .inl ⟨by omega, by omega⟩
    have m2 : CMul (arm : Int) (2 - 2 * hh - (es.length : Int)) := .inl ⟨by omega, by omega⟩
    walk_at "go"
    rw [List.length_map]
    walk_at "go"
    refine ⟨mod, _, rfl, h2, ?_⟩
    walk_at "go"
    refine Classical.byCases (p := ¬SumOk arm mod hh es) (fun cS => ?_) (fun cS => ?_)
    · rw [decide_eq_false (fun z => cS (red_zero.mp z))]
      walk_at "go"
      rw [← brk_2 (m := m) (p := p) (s := sn) hR cS]
      exact k _ s1
    have cS := Classical.not_not.mp cS
    rw [decide_eq_true (red_zero.mpr cS)]
    walk_at "go"
    by_cases c1 : hh = 1
    · rw [decide_eq_true c1]
      obtain ⟨mv, rfl⟩ := Option.isSome_iff_exists.mp (f2.mpr c1)
      have hm : mv < 1073741824 := hm
      rw [show oV (some mv) = V.int mv from rfl]
      walk_at "go"
      refine ⟨by show 1 ≤ sizeLine; decide, fun u hu => ?_⟩
      have s2 : Same H (upd H1 u (.lst [V.int (mod : Nat)])) := Same.trans s1 (Same.new hu)
      have hu2 : (upd H1 u (.lst [V.int (mod : Nat)])) u = some (.lst ([(mod : Int)].map V.int)) := upd_same
      revert s2 hu2
      generalize upd H1 u (.lst [V.int (mod : Nat)]) = H2
      intro s2 hu2
      have he2 := s2 _ _ he
      walk_at "go"
      refine w_lcL (xs := es.map V.int) (SqL.of he2) (by rw [List.length_map]; exact Nat.lt_of_le_of_lt hl (by decide)) (fun i acc => acc = ((es.map fun e => e + (arm : Int)).map V.int).take i) rfl ?_ ?_
      · rintro i x H' acc hi s' rfl hai R S2 hR2 hS2
        obtain ⟨e, rfl, hei⟩ := int_at hi
        walk_at "go"
        refine ⟨rfl, ?_⟩
        walk_at "go"
        refine hR2 _ _ (Same.refl _) ?_
        rw [take_snoc (show ((es.map fun e => e + (arm : Int)).map V.int)[i]? = some (.int (e + (arm : Int))) by rw [List.getElem?_map, List.getElem?_map, hei]; rfl)]
      · rintro r H3 acc hr0 s3 hr3 rfl
        rw [List.length_map, List.take_of_length_le (by rw [List.length_map, List.length_map]; exact Nat.le_refl _)] at hr3
        have hu3 := s3 _ _ hu2
        refine x_cat hu3 hr3 (by rw [List.length_map, List.length_map, List.length_map]; exact Nat.le_trans (show _ ≤ 901 by show 1 + es.length ≤ 901; omega) (by decide)) fun t ht => ?_
        have s4 : Same H (upd H3 t (.lst ([(mod : Int)].map V.int ++ (es.map fun e => e + (arm : Int)).map V.int))) := Same.trans s2 (Same.trans s3 (Same.new ht))
        have ht4 : (upd H3 t (.lst ([(mod : Int)].map V.int ++ (es.map fun e => e + (arm : Int)).map V.int))) t = some (.lst (((mod : Int) :: es.map fun e => e + (arm : Int)).map V.int)) := by rw [upd_same, List.map_cons]; rfl
        revert s4 ht4
        generalize upd H3 t (.lst ([(mod : Int)].map V.int ++ (es.map fun e => e + (arm : Int)).map V.int)) = H4
        intro s4 ht4
        have hall : ∀ P : Int → Prop, (∀ z ∈ (mod : Int) :: es.map (fun e => e + (arm : Int)), P z) ↔ (P (mod : Int) ∧ ∀ e ∈ es, P (e + (arm : Int))) := fun P => by
          constructor
          · exact fun h => ⟨h _ (List.mem_cons_self ..), fun e he => h _ (List.mem_cons_of_mem _ (List.mem_map.mpr ⟨e, he, rfl⟩))⟩
          · rintro ⟨a, b⟩ z hz
            rcases List.mem_cons.mp hz with e | hz
            · rw [e]; exact a
            · obtain ⟨e, he, rfl⟩ := List.mem_map.mp hz
              exact b e he
        have fin : ∀ (w : Bool) H', Same H H' → (w = true ↔ ¬MeasOk arm mod es mv) → Q (.str (if w = true then "measure" else "")) H' := fun w H' s' hw => by
          cases w with
          | true =>
            rw [if_pos rfl, ← brk_3n (m := some mv) (p := p) (s := sn) hR cS c1 (hw.mp rfl)]
            exact k _ s'
          | false =>
            have hy : MeasOk arm mod es mv := Classical.byContradiction fun z => by have := hw.mpr z; cases this
            rw [if_neg Bool.false_ne_true, ← brk_3 (m := some mv) (p := p) (s := sn) hR cS c1 hy]
            exact k _ s'
        walk_at "go"
        by_cases d1 : mv < 0
        · rw [decide_eq_true d1]
          walk_at "go"
          exact fin true _ s4 ⟨fun _ z => by have := z.1; omega, fun _ => rfl⟩
        rw [decide_eq_false d1]
        walk_at "go"
        by_cases d2 : mv = 0
        · rw [decide_eq_true d2]
          walk_at "go"
          refine ⟨t, _, rfl, SqL.of ht4, (hall fun z => z.natAbs ≤ 1267650600228229401496703205376).mpr ⟨by omega, fun e he => by have := heb e he; omega⟩, ?_⟩
          walk_at "go"
          have hg : (((gcdZ ((mod : Int) :: es.map fun e => e + (arm : Int)) : Nat) : Int) = 0) ↔ MeasOk arm mod es mv := by
            have := (dvd_gcdZ 0 ((mod : Int) :: es.map fun e => e + (arm : Int))).trans (hall fun z => ((0 : Nat) : Int) ∣ z)
            rw [Nat.zero_dvd] at this
            constructor
            · intro z
              obtain ⟨a, b⟩ := this.mp (by omega)
              exact ⟨by omega, by rw [d2]; exact a, fun e he => by rw [d2]; exact b e he⟩
            · intro z
              have := this.mpr ⟨by have := z.2.1; rw [d2] at this; exact this, fun e he => by have := z.2.2 e he; rw [d2] at this; exact this⟩
              omega
          by_cases d3 : ((gcdZ ((mod : Int) :: es.map fun e => e + (arm : Int)) : Nat) : Int) = 0
          · rw [decide_eq_true d3]
            walk_at "go"
            rw [decide_eq_false (show ¬ 0 < mv by omega)]
            walk_at "go"
            exact fin false _ s4 ⟨fun z => (by cases z), fun z => absurd (hg.mp d3) z⟩
          · rw [decide_eq_false d3]
            walk_at "go"
            exact fin true _ s4 ⟨fun _ z => d3 (hg.mpr z), fun _ => rfl⟩
        rw [decide_eq_false d2]
        walk_at "go"
        rw [decide_eq_true (show 0 < mv by omega)]
        walk_at "go"
        refine w_lcL (xs := ((mod : Int) :: es.map fun e => e + (arm : Int)).map V.int) (SqL.of ht4) (by rw [List.length_map, List.length_cons, List.length_map]; exact Nat.lt_of_le_of_lt (show _ ≤ 901 by omega) (by decide)) (fun i acc => acc = ((((mod : Int) :: es.map fun e => e + (arm : Int)).take i).filter fun e => !decide (e % mv = 0)).map V.int) rfl ?_ ?_
        · rintro i x H' acc hi s' rfl hai R S2 hR2 hS2
          obtain ⟨e, rfl, hei⟩ := int_at hi
          walk_at "go"
          refine ⟨rfl, ?_⟩
          walk_at "go"
          by_cases d3 : e % mv = 0
          · rw [decide_eq_true d3]
            walk_at "go"
            exact hS2 _ (Same.refl _) (filt_no hei (by rw [decide_eq_true d3]; rfl))
          · rw [decide_eq_false d3]
            walk_at "go"
            exact hR2 _ _ (Same.refl _) (filt_yes hei (by rw [decide_eq_false d3]; rfl))
        · rintro r2 H5 acc hr50 s5 hr5 rfl
          rw [List.length_map, List.take_length] at hr5
          walk_at "go"
          refine ⟨Nat.zero_le _, fun u2 hu2' => ?_⟩
          refine x_neIL (ms := []) (SqL.of (upd_old hu2' hr5)) (SqL.of upd_same) ?_
          have s6 : Same H (upd H5 u2 (.lst [])) := Same.trans s4 (Same.trans s5 (Same.new hu2'))
          have hw : (((mod : Int) :: es.map fun e => e + (arm : Int)).filter fun e => !decide (e % mv = 0)) ≠ [] ↔ ¬MeasOk arm mod es mv := by
            refine filt_ne.trans ?_
            constructor
            · rintro ⟨e, hm', hb⟩ z
              have hz : ∀ q ∈ (mod : Int) :: es.map (fun e => e + (arm : Int)), mv ∣ q := (hall fun q => mv ∣ q).mpr ⟨z.2.1, z.2.2⟩
              rw [decide_eq_true ((dvd_emod (by omega)).mpr (hz e hm'))] at hb
              cases hb
            · intro z
              refine Classical.byContradiction fun n => z ?_
              have hz : ∀ q ∈ (mod : Int) :: es.map (fun e => e + (arm : Int)), mv ∣ q := fun q hq => (dvd_emod (by omega)).mp (Classical.byContradiction fun w => n ⟨q, hq, by rw [decide_eq_false w]; rfl⟩)
              exact ⟨by omega, ((hall fun q => mv ∣ q).mp hz).1, ((hall fun q => mv ∣ q).mp hz).2⟩
          by_cases d3 : (((mod : Int) :: es.map fun e => e + (arm : Int)).filter fun e => !decide (e % mv = 0)) = []
          · rw [decide_eq_true d3]
            walk_at "go"
            exact fin false _ s6 ⟨fun z => (by cases z), fun z => absurd d3 (hw.mpr z)⟩
          · rw [decide_eq_false d3]
            walk_at "go"
            exact fin true _ s6 ⟨fun _ => hw.mp d3, fun _ => rfl⟩
    · rw [decide_eq_false c1]
      walk_at "go"
      by_cases c2 : hh < 2
      · rw [decide_eq_true c2]
        walk_at "go"
        rw [← brk_4 (m := m) (p := p) (s := sn) hR cS (by omega)]
        exact k _ s1
      rw [decide_eq_false c2]
      obtain ⟨pv', rfl⟩ := Option.isSome_iff_exists.mp (f3.mpr (by omega))
      have hp : pv' < 1073741824 := hp
      rw [show oV (some pv') = V.int pv' from rfl]
      walk_at "go"
      by_cases d1 : pv' < 1
      · rw [decide_eq_true d1]
        walk_at "go"
        rw [← brk_5 (m := m) (p := some pv') (s := sn) hR cS (by omega) (fun z => by have : 1 ≤ pv' := z.1; omega)]
        exact k _ s1
      rw [decide_eq_false d1]
      walk_at "go"
      refine ⟨by show 2 ≤ sizeLine; decide, fun u hu => ?_⟩
      have s2 : Same H (upd H1 u (.lst [V.int (arm : Nat), .int (mod : Nat)])) := Same.trans s1 (Same.new hu)
      have hu2 : (upd H1 u (.lst [V.int (arm : Nat), .int (mod : Nat)])) u = some (.lst ([(arm : Int), (mod : Int)].map V.int)) := upd_same
      revert s2 hu2
      generalize upd H1 u (.lst [V.int (arm : Nat), .int (mod : Nat)]) = H2
      intro s2 hu2
      have he2 := s2 _ _ he
      walk_at "go"
      refine x_cat hu2 he2 (by rw [List.length_map, List.length_map]; exact Nat.le_trans (show _ ≤ 902 by show 2 + es.length ≤ 902; omega) (by decide)) fun t ht => ?_
      have s4 : Same H (upd H2 t (.lst ([(arm : Int), (mod : Int)].map V.int ++ es.map V.int))) := Same.trans s2 (Same.new ht)
      have ht4 : (upd H2 t (.lst ([(arm : Int), (mod : Int)].map V.int ++ es.map V.int))) t = some (.lst (((arm : Int) :: (mod : Int) :: es).map V.int)) := by rw [upd_same]; rfl
      revert s4 ht4
      generalize upd H2 t (.lst ([(arm : Int), (mod : Int)].map V.int ++ es.map V.int)) = H4
      intro s4 ht4
      walk_at "go"
      refine w_lcL (xs := ((arm : Int) :: (mod : Int) :: es).map V.int) (SqL.of ht4) (by rw [List.length_map, List.length_cons, List.length_cons]; exact Nat.lt_of_le_of_lt (show _ ≤ 902 by omega) (by decide)) (fun i acc => acc = ((((arm : Int) :: (mod : Int) :: es).take i).filter fun e => !decide (e % pv' = 0)).map V.int) rfl ?_ ?_
      · rintro i x H' acc hi s' rfl hai R S2 hR2 hS2
        obtain ⟨e, rfl, hei⟩ := int_at hi
        walk_at "go"
        refine ⟨rfl, ?_⟩
        walk_at "go"
        by_cases d3 : e % pv' = 0
        · rw [decide_eq_true d3]
          walk_at "go"
          exact hS2 _ (Same.refl _) (filt_no hei (by rw [decide_eq_true d3]; rfl))
        · rw [decide_eq_false d3]
          walk_at "go"
          exact hR2 _ _ (Same.refl _) (filt_yes hei (by rw [decide_eq_false d3]; rfl))
      · rintro r2 H5 acc hr50 s5 hr5 rfl
        rw [List.length_map, List.take_length] at hr5
        walk_at "go"
        refine ⟨Nat.zero_le _, fun u2 hu2' => ?_⟩
        refine x_neIL (ms := []) (SqL.of (upd_old hu2' hr5)) (SqL.of upd_same) ?_
        have s6 : Same H (upd H5 u2 (.lst [])) := Same.trans s4 (Same.trans s5 (Same.new hu2'))
        revert s6
        generalize upd H5 u2 (.lst []) = H6
        intro s6
        have he6 := s6 _ _ he
        have hw : (((arm : Int) :: (mod : Int) :: es).filter fun e => !decide (e % pv' = 0)) ≠ [] ↔ ¬ShareOk arm mod es pv' := by
          refine filt_ne.trans ?_
          constructor
          · rintro ⟨e, hm', hb⟩ z
            have hz : ∀ q ∈ (arm : Int) :: (mod : Int) :: es, pv' ∣ q := fun q hq => by
              rcases List.mem_cons.mp hq with e | hq
              · rw [e]; exact z.2.1
              · rcases List.mem_cons.mp hq with e | hq
                · rw [e]; exact z.2.2.1
                · exact z.2.2.2 q hq
            rw [decide_eq_true ((dvd_emod (by omega)).mpr (hz e hm'))] at hb
            cases hb
          · intro z
            refine Classical.byContradiction fun n => z ?_
            have hz : ∀ q ∈ (arm : Int) :: (mod : Int) :: es, pv' ∣ q := fun q hq => (dvd_emod (by omega)).mp (Classical.byContradiction fun w => n ⟨q, hq, by rw [decide_eq_false w]; rfl⟩)
            exact ⟨by omega, hz _ (List.mem_cons_self ..), hz _ (List.mem_cons_of_mem _ (List.mem_cons_self ..)), fun e he => hz e (List.mem_cons_of_mem _ (List.mem_cons_of_mem _ he))⟩
        refine Classical.byCases (p := ¬(((arm : Int) :: (mod : Int) :: es).filter fun e => !decide (e % pv' = 0)) = []) (fun d3 => ?_) (fun d3 => ?_)
        · rw [decide_eq_false d3]
          walk_at "go"
          rw [← brk_5 (m := m) (p := some pv') (s := sn) hR cS (by omega) (hw.mp d3)]
          exact k _ s6
        have d3 := Classical.not_not.mp d3
        rw [decide_eq_true d3]
        have hSh : ShareOk arm mod es pv' := Classical.byContradiction fun z => hw.mpr z d3
        have hp2 : CDiv (arm : Int) pv' := ⟨by omega, hp⟩
        have hp3 : CDiv (mod : Int) pv' := ⟨by omega, hp⟩
        have fin : ∀ H', Same H H' → (BalOk arm mod es pv' sn → Q (.str "") H') ∧ (¬BalOk arm mod es pv' sn → Q (.str "balance") H') := fun H' s' =>
          ⟨fun z => by rw [← brk_6 (m := m) (p := some pv') (s := sn) hR cS (by omega) hSh z]; exact k _ s', fun z => by rw [← brk_6n (m := m) (p := some pv') (s := sn) hR cS (by omega) hSh z]; exact k _ s'⟩
        walk_at "go"
        by_cases b1 : (arm : Int) / pv' % 2 = 0
        · have hn : ¬HasBal arm mod pv' := fun z => by have := z.1; omega
          rw [decide_eq_true b1]
          walk_at "go"
          cases sn with
          | none =>
            rw [decide_eq_true (show oV none = V.non from rfl)]
            walk_at "go"
            exact (fin H6 s6).1 (.inr ⟨hn, rfl⟩)
          | some z =>
            rw [decide_eq_false (show ¬ oV (some z) = V.non from fun e => by cases e)]
            walk_at "go"
            exact (fin H6 s6).2 fun q => q.elim (fun q => hn q.1) fun q => by cases q.2
        rw [decide_eq_false b1]
        walk_at "go"
        by_cases b2 : (mod : Int) / pv' % 2 = 1
        · have hn : ¬HasBal arm mod pv' := fun z => by have := z.2; omega
          rw [decide_eq_true b2]
          walk_at "go"
          cases sn with
          | none =>
            rw [decide_eq_true (show oV none = V.non from rfl)]
            walk_at "go"
            exact (fin H6 s6).1 (.inr ⟨hn, rfl⟩)
          | some z =>
            rw [decide_eq_false (show ¬ oV (some z) = V.non from fun e => by cases e)]
            walk_at "go"
            exact (fin H6 s6).2 fun q => q.elim (fun q => hn q.1) fun q => by cases q.2
        rw [decide_eq_false b2]
        have hy : HasBal arm mod pv' := ⟨by omega, by omega⟩
        walk_at "go"
        refine w_lcL (xs := es.map V.int) (SqL.of he6) (by rw [List.length_map]; exact Nat.lt_of_le_of_lt hl (by decide)) (fun i acc => acc = ((es.take i).filter fun e => decide ((e + (arm : Int)) / pv' % 2 = 1)).map V.int) rfl ?_ ?_
        · rintro i x H' acc hi s' rfl hai R S2 hR2 hS2
          obtain ⟨e, rfl, hei⟩ := int_at hi
          have hq : CDiv (e + (arm : Int)) pv' := ⟨by omega, hp⟩
          walk_at "go"
          refine ⟨rfl, ?_⟩
          walk_at "go"
          by_cases d4 : (e + (arm : Int)) / pv' % 2 = 1
          · rw [decide_eq_true d4]
            walk_at "go"
            exact hR2 _ _ (Same.refl _) (filt_yes hei (decide_eq_true d4))
          · rw [decide_eq_false d4]
            walk_at "go"
            exact hS2 _ (Same.refl _) (filt_no hei (decide_eq_false d4))
        · rintro r3 H7 acc hr70 s7 hr7 rfl
          rw [List.length_map, List.take_length] at hr7
          walk_at "go"
          refine ⟨Nat.zero_le _, fun u3 hu3 => ?_⟩
          refine x_neIL (ms := []) (SqL.of (upd_old hu3 hr7)) (SqL.of upd_same) ?_
          have s8 : Same H (upd H7 u3 (.lst [])) := Same.trans s6 (Same.trans s7 (Same.new hu3))
          have hodd : es.filter (fun e => decide ((e + (arm : Int)) / pv' % 2 = 1)) ≠ [] ↔ OddRim arm es pv' := by
            refine filt_ne.trans ?_
            exact ⟨fun ⟨e, a, b⟩ => ⟨e, a, of_decide_eq_true b⟩, fun ⟨e, a, b⟩ => ⟨e, a, decide_eq_true b⟩⟩
          obtain ⟨fy, fn⟩ := fin _ s8
          cases sn with
          | none =>
            walk_at "go"
            rw [decide_eq_true (show oV none = V.non from rfl)]
            walk_at "go"
            exact fn fun q => q.elim (fun ⟨_, z, e, _⟩ => by cases e) fun q => q.1 hy
          | some z =>
            walk_at "go"
            rw [decide_eq_false (show ¬ oV (some z) = V.non from fun e => by cases e)]
            walk_at "go"
            refine x_eqI (i := z) ?_
            walk_at "go"
            by_cases hz : (decide (z = 0)) = (!decide (es.filter (fun e => decide ((e + (arm : Int)) / pv' % 2 = 1)) = []))
            · rw [decide_eq_true hz]
              walk_at "go"
              refine fy (.inl ⟨hy, z, rfl, ?_⟩)
              rw [← hodd]
              constructor
              · intro e q
                rw [decide_eq_true e, decide_eq_true q] at hz
                cases hz
              · intro q
                rw [decide_eq_false q] at hz
                exact of_decide_eq_true hz
            · rw [decide_eq_false hz]
              walk_at "go"
              refine fn fun q => ?_
              rcases q with ⟨_, z', e, hi⟩ | ⟨q, _⟩
              · cases e
                rw [← hodd] at hi
                refine hz ?_
                by_cases e : z = 0
                · rw [decide_eq_true e, decide_eq_false (hi.mp e)]; rfl
                · rw [decide_eq_false e, decide_eq_true (Classical.byContradiction fun w => e (hi.mpr w))]; rfl
              · exact q hy
def spOr (sp sp' : Sp) : Sp := fun vs H Q E => sp vs H Q E ∨ sp' vs H Q E
theorem fnok_or {P : Program} {w : World} {K : PySem.W.Frag} {mg : Str → Option Value} {base : Heap} {CXx : CXT} {k : Nat} {f : Addr} {fd : FuncData} {ps : List Str} {sp sp' : Sp} (a : FnOk P w K mg base CXx k f fd ps sp) (b : FnOk P w K mg base CXx k f fd ps sp') : FnOk P w K mg base CXx k f fd ps (spOr sp sp') :=
  ⟨fun vs H Q E h => h.elim (a.len vs H Q E) (b.len vs H Q E), fun A outer s H args us vs Q E r e0 bt rv h => h.elim (a.run A outer s H args us vs Q E r e0 bt rv) (b.run A outer s H args us vs Q E r e0 bt rv)⟩
/-! ### _law_like of lists and tuples, whatever stands in them -/
abbrev AlikeAt (sp0 : Sp) (H : Hp) (xs ys : List V) : Prop := xs.length = ys.length ∧ xs.length ≤ 900 ∧ ∀ (i : Nat) (x y : V) (H' : Hp) (Q' : VK), Same H H' → xs[i]? = some x → ys[i]? = some y → (∀ H2, Same H' H2 → Q' (.bl true) H2) → sp0 [x, y] H' Q' C8.E0
def spSqL (sp0 : Sp) : Sp := fun vs H Q _ => ∃ (p q : Addr) (xs ys : List V), vs = [.ref p, .ref q] ∧ H p = some (.lst xs) ∧ H q = some (.lst ys) ∧ AlikeAt sp0 H xs ys ∧ ∀ H', Same H H' → Q (.bl true) H'
def spSqT (sp0 : Sp) : Sp := fun vs H Q _ => ∃ (p q : Addr) (xs ys : List V), vs = [.ref p, .ref q] ∧ H p = some (.tup xs) ∧ H q = some (.tup ys) ∧ AlikeAt sp0 H xs ys ∧ ∀ H', Same H H' → Q (.bl true) H'
theorem x_isLl {K : PySem.W.Frag} {H : Hp} {Q : VK} {p : Addr} {xs : List V} {n : String} {b : Bool} (h : H p = some (.lst xs)) (e : PySem.W.kitOne K (.type "list") (.type n) = some b) (k : Q (.bl b) H) : rIsi K [.ref p, .ty n] H Q := x_isTy (.lst h) e k
theorem x_isPt {K : PySem.W.Frag} {H : Hp} {Q : VK} {p : Addr} {xs : List V} {n : String} {b : Bool} (h : H p = some (.tup xs)) (e : PySem.W.kitOne K (.type "tuple") (.type n) = some b) (k : Q (.bl b) H) : rIsi K [.ref p, .ty n] H Q := x_isTy (.tup h) e k
theorem ok_likeSqL {sp0 : Sp} {n : Nat} (B : Bi K mg) (c_l_like : C8.Cal P w K mg base n "_law_like" sp0 []) (F : FnP K "_law_like" st_l_like f fd) : FnOk P w K mg base CX0 (n + 1) f fd ["told", "due"] (spSqL sp0) := by
  refine F.ok sc_l_like (fun vs H Q E h => ?_) (fun cdv A outer s H vs Q E hr h => ?_)
  · obtain ⟨p, q, xs, ys, rfl, _⟩ := h
    rfl
  · obtain ⟨p, q, xs, ys, rfl, hp, hq, ⟨hlen, hl, hal⟩, k⟩ := h
    have G := B
    refine ⟨_, PSs.nox ((pss_cons (ps_if (PW.pt (pw_or (pt_val (pe_callB call_isi (by rfl) G.isinstance (by decide +kernel) (pa_cons (pv 1) (pa_cons (pe_bltn (v := .ty "list") (u := .type "list") (by rfl) G.list (by decide +kernel) rfl) pa_nil)))) (pw_or1 (pt_val (pe_callB call_isi (by rfl) G.isinstance (by decide +kernel) (pa_cons (pv 1) (pa_cons (pe_bltn (v := .ty "tuple") (u := .type "tuple") (by rfl) G.tuple (by decide +kernel) rfl) pa_nil)))))))
        (pss_cons (ps_if (PW.pt (pw_or (pt_cmpR op_ne (pe_callB call_isi (by rfl) G.isinstance (by decide +kernel) (pa_cons (pv 0) (pa_cons (pe_bltn (v := .ty "list") (u := .type "list") (by rfl) G.list (by decide +kernel) rfl) pa_nil))) (pe_callB call_isi (by rfl) G.isinstance (by decide +kernel) (pa_cons (pv 1) (pa_cons (pe_bltn (v := .ty "list") (u := .type "list") (by rfl) G.list (by decide +kernel) rfl) pa_nil))) (nomark _)) (pw_or (pt_cmpR op_ne (pe_callB call_isi (by rfl) G.isinstance (by decide +kernel) (pa_cons (pv 0) (pa_cons (pe_bltn (v := .ty "tuple") (u := .type "tuple") (by rfl) G.tuple (by decide +kernel) rfl) pa_nil))) (pe_callB call_isi (by rfl) G.isinstance (by decide +kernel) (pa_cons (pv 1) (pa_cons (pe_bltn (v := .ty "tuple") (u := .type "tuple") (by rfl) G.tuple (by decide +kernel) rfl) pa_nil))) (nomark _)) (pw_or1 (pt_cmpR op_ne (pe_callB callLenS (by rfl) G.len PySem.boot_len (pa_cons (pv 0) pa_nil)) (pe_callB callLenS (by rfl) G.len PySem.boot_len (pa_cons (pv 1) pa_nil)) (nomark _))))))
          (pss_one ps_never)
          pss_nil)
        (pss_one (ps_ret (pe_cmpR (op_eqD hr.units) (pe_lc (own := [("k", 2)]) rfl sc_l_like.nd (pi_range1 (by rfl) G.range (pa_cons (pe_callB callLenS (by rfl) G.len PySem.boot_len (pa_cons (pv 1) pa_nil)) pa_nil)) (blkOk_by (own := [("k", 2)]) (N := ["told", "due", "k", "key"]) (sc := defScope st_l_like) (by decide +kernel)) (fun _ _ _ _ _ => (pg_name (i := 2) sc_l_like.nd rfl (Or.inl rfl))) (fun _ _ _ _ _ => (pts_one (pt_not (pt_val (C8.pe_c c_l_like hr (Nat.le_refl _) rfl (pa_cons (pe_ix (ix_listK (K := K) rfl) (pv 0) (pv 2) (fun _ _ => rfl)) (pa_cons (pe_ix (ix_listK (K := K) rfl) (pv 1) (pv 2) (fun _ _ => rfl)) pa_nil))))))) (fun _ _ _ _ _ => (pv 2))) (pe_lst pa_nil) (nomark _)))))
        pss_nil)
      (pss_cons ps_never
      (pss_cons ps_never
      (pss_one ps_never))))), ?_⟩
    try dsimp only [cxOf]
    walk_at "go"
    refine x_isLl (b := true) hq (kit_ty (by decide +kernel)) ?_
    walk_at "go"
    refine x_isLl (b := true) hp (kit_ty (by decide +kernel)) ?_
    walk_at "go"
    refine x_isLl (b := true) hq (kit_ty (by decide +kernel)) ?_
    walk_at "go"
    rw [decide_eq_true rfl]
    walk_at "go"
    refine x_isLl (b := false) hp (kit_ty (by decide +kernel)) ?_
    walk_at "go"
    refine x_isLl (b := false) hq (kit_ty (by decide +kernel)) ?_
    walk_at "go"
    rw [decide_eq_true rfl]
    walk_at "go"
    rw [hlen, decide_eq_true rfl]
    walk_at "go"
    refine w_lcR1 (by omega) (by omega) (by rw [Int.toNat_natCast]; exact Nat.lt_of_le_of_lt (show _ ≤ 900 by omega) (by decide)) (fun i acc => acc = []) rfl ?_ ?_
    · rintro i H' acc hi s' rfl hai R S2 hR hS2
      have hi : i < ys.length := by omega
      have hx : xs[i]? = some (xs[i]'(by omega)) := List.getElem?_eq_getElem (by omega)
      have hy : ys[i]? = some ys[i] := List.getElem?_eq_getElem hi
      generalize xs[i]'(by omega) = x at hx
      generalize ys[i] = y at hy
      have ax : atI xs (0 + (i : Int)) = some x := atI_of (k := i) (by omega) hx
      have ay : atI ys (0 + (i : Int)) = some y := atI_of (k := i) (by omega) hy
      have hp' := s' _ _ hp
      have hq' := s' _ _ hq
      walk_at "go"
      refine ⟨rfl, ?_⟩
      walk_at "go"
      refine hal i x y H' _ s' hx hy fun H2 s2 => ?_
      walk_at "go"
      exact hS2 _ s2 rfl
    · rintro r H' acc hr0 s' hr' rfl
      walk_at "go"
      refine ⟨Nat.zero_le _, fun u hu => ?_⟩
      refine x_eqIL (ns := []) (ms := []) (SqL.of (upd_old hu hr')) (SqL.of upd_same) ?_
      rw [decide_eq_true rfl]
      walk_at "go"
      exact k _ (Same.trans s' (Same.new hu))
theorem ok_likeSqT {sp0 : Sp} {n : Nat} (B : Bi K mg) (c_l_like : C8.Cal P w K mg base n "_law_like" sp0 []) (F : FnP K "_law_like" st_l_like f fd) : FnOk P w K mg base CX0 (n + 1) f fd ["told", "due"] (spSqT sp0) := by
  refine F.ok sc_l_like (fun vs H Q E h => ?_) (fun cdv A outer s H vs Q E hr h => ?_)
  · obtain ⟨p, q, xs, ys, rfl, _⟩ := h
    rfl
  · obtain ⟨p, q, xs, ys, rfl, hp, hq, ⟨hlen, hl, hal⟩, k⟩ := h
    have G := B
    refine ⟨_, PSs.nox ((pss_cons (ps_if (PW.pt (pw_or (pt_val (pe_callB call_isi (by rfl) G.isinstance (by decide +kernel) (pa_cons (pv 1) (pa_cons (pe_bltn (v := .ty "list") (u := .type "list") (by rfl) G.list (by decide +kernel) rfl) pa_nil)))) (pw_or1 (pt_val (pe_callB call_isi (by rfl) G.isinstance (by decide +kernel) (pa_cons (pv 1) (pa_cons (pe_bltn (v := .ty "tuple") (u := .type "tuple") (by rfl) G.tuple (by decide +kernel) rfl) pa_nil)))))))
        (pss_cons (ps_if (PW.pt (pw_or (pt_cmpR op_ne (pe_callB call_isi (by rfl) G.isinstance (by decide +kernel) (pa_cons (pv 0) (pa_cons (pe_bltn (v := .ty "list") (u := .type "list") (by rfl) G.list (by decide +kernel) rfl) pa_nil))) (pe_callB call_isi (by rfl) G.isinstance (by decide +kernel) (pa_cons (pv 1) (pa_cons (pe_bltn (v := .ty "list") (u := .type "list") (by rfl) G.list (by decide +kernel) rfl) pa_nil))) (nomark _)) (pw_or (pt_cmpR op_ne (pe_callB call_isi (by rfl) G.isinstance (by decide +kernel) (pa_cons (pv 0) (pa_cons (pe_bltn (v := .ty "tuple") (u := .type "tuple") (by rfl) G.tuple (by decide +kernel) rfl) pa_nil))) (pe_callB call_isi (by rfl) G.isinstance (by decide +kernel) (pa_cons (pv 1) (pa_cons (pe_bltn (v := .ty "tuple") (u := .type "tuple") (by rfl) G.tuple (by decide +kernel) rfl) pa_nil))) (nomark _)) (pw_or1 (pt_cmpR op_ne (pe_callB callLenS (by rfl) G.len PySem.boot_len (pa_cons (pv 0) pa_nil)) (pe_callB callLenS (by rfl) G.len PySem.boot_len (pa_cons (pv 1) pa_nil)) (nomark _))))))
          (pss_one ps_never)
          pss_nil)
        (pss_one (ps_ret (pe_cmpR (op_eqD hr.units) (pe_lc (own := [("k", 2)]) rfl sc_l_like.nd (pi_range1 (by rfl) G.range (pa_cons (pe_callB callLenS (by rfl) G.len PySem.boot_len (pa_cons (pv 1) pa_nil)) pa_nil)) (blkOk_by (own := [("k", 2)]) (N := ["told", "due", "k", "key"]) (sc := defScope st_l_like) (by decide +kernel)) (fun _ _ _ _ _ => (pg_name (i := 2) sc_l_like.nd rfl (Or.inl rfl))) (fun _ _ _ _ _ => (pts_one (pt_not (pt_val (C8.pe_c c_l_like hr (Nat.le_refl _) rfl (pa_cons (pe_ix (ix_tupK (K := K) rfl) (pv 0) (pv 2) (fun _ _ => rfl)) (pa_cons (pe_ix (ix_tupK (K := K) rfl) (pv 1) (pv 2) (fun _ _ => rfl)) pa_nil))))))) (fun _ _ _ _ _ => (pv 2))) (pe_lst pa_nil) (nomark _)))))
        pss_nil)
      (pss_cons ps_never
      (pss_cons ps_never
      (pss_one ps_never))))), ?_⟩
    try dsimp only [cxOf]
    walk_at "go"
    refine x_isPt (b := false) hq (kit_ty (by decide +kernel)) ?_
    walk_at "go"
    refine x_isPt (b := true) hq (kit_ty (by decide +kernel)) ?_
    walk_at "go"
    refine x_isPt (b := false) hp (kit_ty (by decide +kernel)) ?_
    walk_at "go"
    refine x_isPt (b := false) hq (kit_ty (by decide +kernel)) ?_
    walk_at "go"
    rw [decide_eq_true rfl]
    walk_at "go"
    refine x_isPt (b := true) hp (kit_ty (by decide +kernel)) ?_
    walk_at "go"
    refine x_isPt (b := true) hq (kit_ty (by decide +kernel)) ?_
    walk_at "go"
    rw [decide_eq_true rfl]
    walk_at "go"
    refine x_lenT (SqT.of hp) ?_
    walk_at "go"
    refine x_lenT (SqT.of hq) ?_
    walk_at "go"
    rw [hlen, decide_eq_true rfl]
    walk_at "go"
    refine x_lenT (SqT.of hq) ?_
    walk_at "go"
    refine w_lcR1 (by omega) (by omega) (by rw [Int.toNat_natCast]; exact Nat.lt_of_le_of_lt (show _ ≤ 900 by omega) (by decide)) (fun i acc => acc = []) rfl ?_ ?_
    · rintro i H' acc hi s' rfl hai R S2 hR hS2
      have hi : i < ys.length := by omega
      have hx : xs[i]? = some (xs[i]'(by omega)) := List.getElem?_eq_getElem (by omega)
      have hy : ys[i]? = some ys[i] := List.getElem?_eq_getElem hi
      generalize xs[i]'(by omega) = x at hx
      generalize ys[i] = y at hy
      have ax : atI xs (0 + (i : Int)) = some x := atI_of (k := i) (by omega) hx
      have ay : atI ys (0 + (i : Int)) = some y := atI_of (k := i) (by omega) hy
      have hp' := s' _ _ hp
      have hq' := s' _ _ hq
      walk_at "go"
      refine ⟨rfl, ?_⟩
      walk_at "go"
      refine hal i x y H' _ s' hx hy fun H2 s2 => ?_
      walk_at "go"
      exact hS2 _ s2 rfl
    · rintro r H' acc hr0 s' hr' rfl
      walk_at "go"
      refine ⟨Nat.zero_le _, fun u hu => ?_⟩
      refine x_eqIL (ns := []) (ms := []) (SqL.of (upd_old hu hr')) (SqL.of upd_same) ?_
      rw [decide_eq_true rfl]
      walk_at "go"
      exact k _ (Same.trans s' (Same.new hu))
/-! ### Kind(..) with keywords -/
abbrev psK : List Str := ["self", "book", "handles", "rims", "measure", "share", "balance"]
def gK1 {α : Type} (us mv ws : List α) : List α := us ++ ws ++ mv
def gK2 {α : Type} (us mv ws : List α) : List α := us ++ mv.take 1 ++ ws ++ mv.drop 1
def gK3 {α : Type} (us mv ws : List α) : List α := us ++ (ws.drop 2).take 1 ++ ws.drop 4 ++ ws.take 1 ++ mv ++ (ws.drop 1).take 1 ++ (ws.drop 3).take 1
def gK5 {α : Type} (us mv ws : List α) : List α := us ++ ws ++ mv
theorem kbK1 (F : FnK K f fd) : ∃ mv : List Value, KBn K fd psK 4 ["measure"] (fun us ws => gK1 us mv ws) (fun vs zs => gK1 vs [.non, .non] zs) :=
  FunD.kbinds0 F 4 ["measure"] [("share", .non), ("balance", .non)] gK1 (by decide) (fun q hq => by simp at hq ⊢; rcases hq with e | e <;> simp [e]) (fun r1 r2 r3 => (r1.append r3).append r2)
    fun D doc pm an cdv ct us mv ws l1 l2 l3 => match us, mv, ws, l1, l2, l3 with | [_, _, _, _], [_, _], [_], _, _, _ => ⟨_, _, _, _, _, _, rfl, rfl, _, _, _, _, _, _, rfl, rfl, rfl⟩
theorem kbK2 (F : FnK K f fd) : ∃ mv : List Value, KBn K fd psK 4 ["share"] (fun us ws => gK2 us mv ws) (fun vs zs => gK2 vs [.non, .non] zs) :=
  FunD.kbinds0 F 4 ["share"] [("measure", .non), ("balance", .non)] gK2 (by decide) (fun q hq => by simp at hq ⊢; rcases hq with e | e <;> simp [e]) (fun r1 r2 r3 => ((r1.append (r2.take 1)).append r3).append (r2.drop 1))
    fun D doc pm an cdv ct us mv ws l1 l2 l3 => match us, mv, ws, l1, l2, l3 with | [_, _, _, _], [_, _], [_], _, _, _ => ⟨_, _, _, _, _, _, rfl, rfl, _, _, _, _, _, _, rfl, rfl, rfl⟩
theorem kbK3 (F : FnK K f fd) : ∃ mv : List Value, KBn K fd psK 1 ["rims", "share", "book", "balance", "handles"] (fun us ws => gK3 us mv ws) (fun vs zs => gK3 vs [.non] zs) :=
  FunD.kbinds0 F 1 ["rims", "share", "book", "balance", "handles"] [("measure", .non)] gK3 (by decide) (fun q hq => by simp at hq ⊢; simp [hq]) (fun r1 r2 r3 => (((((r1.append ((r3.drop 2).take 1)).append (r3.drop 4)).append (r3.take 1)).append r2).append ((r3.drop 1).take 1)).append ((r3.drop 3).take 1))
    fun D doc pm an cdv ct us mv ws l1 l2 l3 => match us, mv, ws, l1, l2, l3 with | [_], [_], [_, _, _, _, _], _, _, _ => ⟨_, _, _, _, _, _, rfl, rfl, rfl⟩
theorem kbK5 (F : FnK K f fd) : ∃ mv : List Value, KBn K fd psK 4 ["measure", "share", "balance"] (fun us ws => gK5 us mv ws) (fun vs zs => gK5 vs [] zs) :=
  FunD.kbinds0 F 4 ["measure", "share", "balance"] [] gK5 (by decide) (fun q hq => by cases hq) (fun r1 r2 r3 => (r1.append r3).append r2)
    fun D doc pm an cdv ct us mv ws l1 l2 l3 => match us, mv, ws, l1, l2, l3 with | [_, _, _, _], [], [_, _, _], _, _, _ => rfl
theorem bK4 (F : FnK K f fd) : ∃ ds, Vals ([.non, .non, .non] : List V) ds ∧ Binds K fd psK ds :=
  FunD.binds0 F 4 (by decide) rfl fun D doc pm an cdv ct us ks l1 l2 => match us, ks, l1, l2 with | [_, _, _, _], [_, _, _], _, _ => ⟨_, _, _, _, _, _, rfl, rfl, _, _, _, _, _, _, rfl, rfl, _, _, _, _, _, _, rfl, rfl, rfl⟩
theorem fnok_calm {k : Nat} {ps : List Str} {sp : Sp} (F : FnOk P w K mg base (L2N.CX P w) k f fd ps sp) : FnOk P w K mg base CX0 k f fd ps (fun vs H Q _ => sp vs H Q C8.E0) := by
  refine ⟨fun vs H Q E h => F.len _ _ _ _ h, fun A outer s H args us vs Q E hr e0 bt rv h => codeAny_mono (F.run A outer s H args us vs Q C8.E0 hr e0 bt rv h) fun r s' hq => ?_⟩
  cases r with
  | error e =>
    obtain ⟨_, _, _, _, _, _, _, _, _, _, _, _, _, z⟩ := hq
  | ok fl => cases fl <;> exact hq
/-! ### the Kind with just these counts -/
theorem x_isK {K : PySem.W.Frag} {H : Hp} {Q : VK} {a C dx : Addr} {fs : List (Str × V)} (c : C8.InsC K C) (h : H a = some (.ins C dx fs)) (k : Q (.bl true) H) : rIsi K [.ref a, .ref C] H Q :=
  ⟨_, _, _, _, _, rfl, .own C, .base (.ins h c.cl c.ha c.hn c.htk c.hm), c.me, k⟩
theorem alike_ints {H : Hp} {es : List Int} (hl : es.length ≤ 900) : AlikeAt spLikeO H (es.map V.int) (es.map V.int) := by
  refine ⟨rfl, by rw [List.length_map]; exact hl, fun i x y H' Q' s hx hy k => ?_⟩
  rw [hx] at hy
  injection hy with hy
  subst hy
  obtain ⟨z, _, rfl⟩ := List.mem_map.mp (List.mem_of_getElem? hx)
  exact ⟨some z, some z, rfl, by rw [decide_eq_true rfl]; exact k _ (Same.refl _)⟩
theorem alike_ov {sp : Sp} {H : Hp} (os : List (Option Int)) (hl : os.length ≤ 900) : AlikeAt (spOr sp spLikeO) H (os.map oV) (os.map oV) := by
  refine ⟨rfl, by rw [List.length_map]; exact hl, fun i x y H' Q' s hx hy k => ?_⟩
  rw [hx] at hy
  injection hy with hy
  subst hy
  obtain ⟨z, _, rfl⟩ := List.mem_map.mp (List.mem_of_getElem? hx)
  exact .inr ⟨z, z, rfl, by rw [decide_eq_true rfl]; exact k _ (Same.refl _)⟩
theorem alike_5 {H : Hp} {r q : Addr} {es : List Int} {h : Int} {m p sn : Option Int} (hl : es.length ≤ 900) (hr : H r = some (.tup (es.map V.int))) (hq : H q = some (.tup (es.map V.int))) : AlikeAt (spOr (spSqT spLikeO) spLikeO) H [.int h, .ref r, oV m, oV p, oV sn] [.int h, .ref q, oV m, oV p, oV sn] := by
  refine ⟨rfl, by show 5 ≤ 900; decide, fun i x y H' Q' s hx hy k => ?_⟩
  have one : ∀ z : Option Int, spOr (spSqT spLikeO) spLikeO [oV z, oV z] H' Q' C8.E0 := fun z => .inr ⟨z, z, rfl, by rw [decide_eq_true rfl]; exact k _ (Same.refl _)⟩
  match i, hx, hy with
  | 0, hx, hy => injection hx with hx; injection hy with hy; subst hx; subst hy; exact one (some h)
  | 1, hx, hy => injection hx with hx; injection hy with hy; subst hx; subst hy; exact .inl ⟨r, q, _, _, rfl, s _ _ hr, s _ _ hq, alike_ints hl, fun H2 s2 => k _ s2⟩
  | 2, hx, hy => injection hx with hx; injection hy with hy; subst hx; subst hy; exact one m
  | 3, hx, hy => injection hx with hx; injection hy with hy; subst hx; subst hy; exact one p
  | 4, hx, hy => injection hx with hx; injection hy with hy; subst hx; subst hy; exact one sn
def spIsKind (K : PySem.W.Frag) : Sp := fun vs H Q _ => ∃ (a c ep : Addr) (arm mod : Nat) (h : Int) (es : List Int) (m p sn : Option Int), vs = [.ref a, .int arm, .int mod, .ref c] ∧ KindAt K H a arm mod h es m p sn ∧ CtsAt H c ep h es m p sn ∧ es.length ≤ 900 ∧ ∀ H', Same H H' → Q (.bl true) H'
theorem ok_iskind (B : Bi K mg) (g_Kind : mg "Kind" = some (.ref (He.ga K "Kind"))) (g_Book : mg "Book" = some (.ref (He.ga K "Book"))) (iK : C8.InsC K (He.ga K "Kind")) (iB : C8.InsC K (He.ga K "Book")) (c_l_like : C8.Cal P w K mg base 3 "_law_like" (spSqL (spOr (spSqT spLikeO) spLikeO)) []) (F : FnP K "_law_is_kind" st_l_is_kind f fd) : FnOk P w K mg base CX0 4 f fd ["told", "arm", "mod", "counts"] (spIsKind K) := by
  refine F.ok sc_l_is_kind (fun vs H Q E h => ?_) (fun cdv A outer s H vs Q E hr h => ?_)
  · obtain ⟨a, c, ep, arm, mod, h, es, m, p, sn, rfl, _⟩ := h
    rfl
  · obtain ⟨a, c, ep, arm, mod, hh, es, m, p, sn, rfl, hK, hC, hl, k⟩ := h
    have G := B
    have cK := G.cls_Kind
    have cB := G.cls_Book
    have n0 := G.na_Book_arms
    have n00 := G.na_Book_modulus
    have n1 := G.na_Kind_book
    have n2 := G.na_Kind_handles
    have n3 := G.na_Kind_rims
    have n4 := G.na_Kind_measure
    have n5 := G.na_Kind_share
    have n6 := G.na_Kind_balance
    obtain ⟨dx, bk, r, hK, ⟨db, hB⟩, hr0⟩ := hK
    have hc := hC.c_
    have he := hC.e_
    refine ⟨_, PSs.nox ((pss_cons (ps_if (PW.pt (pw_or (pt_not (pt_val (pe_callB call_isi (by rfl) G.isinstance (by decide +kernel) (pa_cons (pv 0) (pa_cons (pe_glob (v := .ref (He.ga K "Kind")) rfl g_Kind rfl) pa_nil))))) (pw_or (pt_not (pt_val (pe_callB call_isi (by rfl) G.isinstance (by decide +kernel) (pa_cons (pe_fld (pv 0) (by rfl)) (pa_cons (pe_glob (v := .ref (He.ga K "Book")) rfl g_Book rfl) pa_nil))))) (pw_or1 (pt_not (pt_val (C8.pe_c c_l_like hr (by decide) rfl (pa_cons (pe_lst (pa_cons (pe_fld (pe_fld (pv 0) (by rfl)) (by rfl)) (pa_cons (pe_fld (pe_fld (pv 0) (by rfl)) (by rfl)) pa_nil))) (pa_cons (pe_lst (pa_cons (pv 1) (pa_cons (pv 2) pa_nil))) pa_nil)))))))))
        (pss_one ps_never)
        pss_nil)
      (pss_one (ps_ret (C8.pe_c c_l_like hr (by decide) rfl (pa_cons (pe_lst (pa_cons (pe_fld (pv 0) (by rfl)) (pa_cons (pe_fld (pv 0) (by rfl)) (pa_cons (pe_fld (pv 0) (by rfl)) (pa_cons (pe_fld (pv 0) (by rfl)) (pa_cons (pe_fld (pv 0) (by rfl)) pa_nil)))))) (pa_cons (pe_op op_cat (pe_lst (pa_cons (pe_ix ix_list (pv 3) pe_int (fun _ _ => rfl)) (pa_cons (pe_callTy (call_tupOf rfl) (by rfl) G.tuple (by decide +kernel) (pa_cons (pe_ix ix_list (pv 3) pe_int (fun _ _ => rfl)) pa_nil)) pa_nil))) (pe_slice sl_list (pv 3) (po_some pe_int) po_none)) pa_nil))))))), ?_⟩
    try dsimp only [cxOf]
    walk_at "go"
    refine x_isK iK hK ?_
    walk_at "go"
    refine x_isK iB hB ?_
    walk_at "go"
    refine ⟨by show 2 ≤ sizeLine; decide, fun q hq => ?_⟩
    walk_at "go"
    refine ⟨by show 2 ≤ sizeLine; decide, fun q2 hq2 => ?_⟩
    refine ⟨q, q2, _, _, rfl, upd_old hq2 upd_same, upd_same, alike_ov [some (arm : Int), some (mod : Int)] (by show 2 ≤ 900; decide), fun H1 s1 => ?_⟩
    have s2 : Same H H1 := Same.trans (Same.trans (Same.new hq) (Same.new hq2)) s1
    have hK1 := s2 _ _ hK
    have hc1 := s2 _ _ hc
    have he1 := s2 _ _ he
    have hr1 := s2 _ _ hr0
    walk_at "go"
    refine ⟨by show 5 ≤ sizeLine; decide, fun q3 hq3 => ?_⟩
    walk_at "go"
    refine x_tupL (SqL.of (upd_old hq3 he1)) fun q4 hq4 => ?_
    walk_at "go"
    refine ⟨by show 2 ≤ sizeLine; decide, fun q5 hq5 => ?_⟩
    walk_at "go"
    refine x_slL (SqL.of (upd_old hq5 (upd_old hq4 (upd_old hq3 hc1)))) fun q6 hq6 => ?_
    refine x_cat (upd_old hq6 upd_same) upd_same (by show 2 + 3 ≤ sizeLine; decide) fun q7 hq7 => ?_
    walk_at "go"
    refine ⟨q3, q7, _, _, rfl, upd_old hq7 (upd_old hq6 (upd_old hq5 (upd_old hq4 upd_same))), upd_same, ?_, fun H2 z2 => k _ ?_⟩
    · exact alike_5 hl (upd_old hq7 (upd_old hq6 (upd_old hq5 (upd_old hq4 (upd_old hq3 hr1))))) (upd_old hq7 (upd_old hq6 (upd_old hq5 upd_same)))
    · exact Same.trans s2 (Same.trans (Same.new hq3) (Same.trans (Same.new hq4) (Same.trans (Same.new hq5) (Same.trans (Same.new hq6) (Same.trans (Same.new hq7) z2)))))
/-! ### the Kind as the law makes it -/
theorem x_makeK {C : Addr} {n m : Nat} {sp : Sp} {gV : List V → List V → List V} {E : XK} {t tk : TA} {σ : L2.St} {H : Hp} {Q : VK} (h : t σ H fun vs H1 => tk σ H1 fun zs H2 => vs.length = n ∧ zs.length = m ∧ ∀ x dx, H2 x = none → H2 dx = none → dx ≠ x → sp (gV (.ref x :: vs) zs) (upd (upd H2 dx (.own x)) x (.ins C dx [])) (fun v H3 => v = .non ∧ Q (.ref x) H3) E) : tMakeK C n m sp gV E t tk σ H Q := h
theorem same_made {H H' : Hp} {x dx : Addr} {u v : HO} (hx : H x = none) (hd : H dx = none) (k : Kp x (upd (upd H dx v) x u) H') : Same H H' := fun q o h => k q o (fun e => by rw [e, hx] at h; cases h) (by
  rw [upd_ne (fun e => by rw [e, hx] at h; cases h), upd_ne (fun e => by rw [e, hd] at h; cases h)]
  exact h)
theorem book_made {K : PySem.W.Frag} {H : Hp} {arm mod : Nat} {Q : Addr → Hp → Prop} {E : XK} (ha1 : 1 ≤ arm) (ha2 : arm ≤ 12) (hm1 : mod ≠ 1) (hm2 : mod ≤ 24) (k : ∀ xb H1, Same H H1 → BookAt K H1 xb arm mod → Q xb H1) :
    ∀ x dx, H x = none → H dx = none → dx ≠ x → spBook K (.ref x :: ([.int arm, .int mod] ++ [])) (upd (upd H dx (.own x)) x (.ins (He.ga K "Book") dx [])) (fun v H2 => v = .non ∧ Q x H2) E := by
  intro x dx hx hd ne
  refine ⟨x, dx, arm, mod, rfl, upd_same, ha1, ha2, hm1, hm2, rfl, k x _ ?_ ⟨dx, upd_same⟩⟩
  rw [upd_upd]
  exact same_made hx hd fun _ _ _ z => z
abbrev spKindC (K : PySem.W.Frag) : Sp := fun vs H Q _ => spKind K vs H Q C8.E0
theorem kind_made {K : PySem.W.Frag} {H : Hp} {x dx xb rp : Addr} {arm mod : Nat} {h : Int} {es : List Int} {m p sn : Option Int} {Q : VK} {E : XK} (hx : H x = none) (hd : H dx = none) (hB : BookAt K H xb arm mod) (ha2 : arm ≤ 12) (hm2 : mod ≤ 24) (hrp : H rp = some (.lst (es.map V.int)) ∨ H rp = some (.tup (es.map V.int))) (hl : es.length ≤ 900) (hhb : h.natAbs ≤ 1000000) (hm : m.getD 0 < 1073741824) (hp : p.getD 0 < 1073741824) (hf : Formed h m p sn) (hb : brk arm mod h es m p sn = "")
    (k : ∀ H', Same H H' → KindAt K H' x arm mod h es m p sn → Q (.ref x) H') : spKindC K [.ref x, .ref xb, .int h, .ref rp, oV m, oV p, oV sn] (upd (upd H dx (.own x)) x (.ins (He.ga K "Kind") dx [])) (fun v H2 => v = .non ∧ Q (.ref x) H2) E := by
  have sm : Same H (upd (upd H dx (.own x)) x (.ins (He.ga K "Kind") dx [])) := same_made hx hd fun _ _ _ z => z
  exact ⟨x, dx, xb, rp, arm, mod, h, es, m, p, sn, rfl, upd_same, hB.same sm, by omega, by omega, hrp.elim (fun e => .inl (sm _ _ e)) (fun e => .inr (sm _ _ e)), hl, hhb, hm, hp, fun _ _ H' kp hK => ⟨rfl, k H' (same_made hx hd kp) hK⟩, fun z => absurd hf z, fun _ z => absurd hb z⟩
section
variable {σ : L2.St} {Q : VK} {te : TE} {tt : TT} {g : TG} {vs : List Nat}
/-- [e for k in range(n) if t], drawing from the bag at b; what is said of the items stays when all but the list in the making stays -/
theorem w_lcR1B {H : Hp} {b l : Addr} {n : Int} (B0 : BagAt H b l) (h1 : -(2 ^ 62) ≤ n) (h2 : n < 2 ^ 62) (hz : n.toNat < sizeLine) (Iv : Addr → Nat → List V → Hp → Prop) (mono : ∀ p i acc H1 H2, Kp p H1 H2 → Iv p i acc H1 → Iv p i acc H2) (I0 : ∀ p, H p = none → Iv p 0 [] H)
    (turn : ∀ p i H' acc, H p = none → p ≠ b → i < n.toNat → Kp b H H' → BagAt H' b l → H' p = some (.lst acc) → Iv p i acc H' → acc.length ≤ i → ∀ (R : VK) (S : Hp → Prop), (∀ y H4, Kp b H' H4 → BagAt H4 b l → Iv p (i + 1) (acc ++ [y]) H4 → R y H4) → (∀ H3, Kp b H' H3 → BagAt H3 b l → Iv p (i + 1) acc H3 → S H3) →
      g (.int (0 + i)) (wipe σ vs) H' fun σ2 H2 => wipe σ2 vs = wipe σ vs ∧ tt σ2 H2 fun b H3 => if b = true then te σ2 H3 R else S H3)
    (done : ∀ p H' acc, H p = none → p ≠ b → Kp b H H' → BagAt H' b l → H' p = some (.lst acc) → Iv p n.toNat acc H' → Q (.ref p) H') : rLcR1 g tt te vs σ [.int n] H Q := by
  refine ⟨n, rfl, h1, h2, fun p hp => ?_⟩
  have npb : p ≠ b := fun e => B0.b_some (e ▸ hp)
  have npl : p ≠ l := fun e => B0.l_some (e ▸ hp)
  refine lc_range (lo := 0) (n := n.toNat) (fun i H' => ∃ acc, Kp b H H' ∧ BagAt H' b l ∧ H' p = some (.lst acc) ∧ Iv p i acc H' ∧ acc.length ≤ i) ⟨[], fun x o _ e => Same.new hp x o e, B0.upd npb npl, upd_same, mono _ _ _ _ _ Kp.mutp (I0 p hp), Nat.le_refl _⟩ ?_ ?_
  · rintro i H' hi ⟨acc, k, B1, hd, iv, hl⟩
    refine turn p i H' acc hp npb hi k B1 hd iv hl _ _ (fun y H4 q B2 iv' => ?_) fun H3 q B2 iv' => ?_
    · refine ⟨acc, q _ _ npb hd, by omega, acc ++ [y], fun x o n e => ?_, B2.upd npb npl, upd_same, mono _ _ _ _ _ Kp.mutp iv', by rw [List.length_append, List.length_singleton]; omega⟩
      rw [upd_ne (fun z => by rw [z, hp] at e; cases e)]
      exact q _ _ n (k _ _ n e)
    · exact ⟨acc, fun x o n e => q _ _ n (k _ _ n e), B2, q _ _ npb hd, iv', by omega⟩
  · rintro H' ⟨acc, k, B1, hd, iv, _⟩
    exact done p H' acc hp npb k B1 hd iv
end
theorem redN_abs {mod : Nat} {n : Int} {b : Nat} (hm : mod ≤ b) (hn : n.natAbs ≤ b) : (redN mod n).natAbs ≤ b := by
  unfold redN
  by_cases h : mod = 0
  · rw [if_pos h]; exact hn
  · rw [if_neg h]
    have h1 := Int.emod_nonneg n (show (mod : Int) ≠ 0 by omega)
    have h2 := Int.emod_lt_of_pos n (show 0 < (mod : Int) by omega)
    omega
theorem int_ne_bag {H H' : Hp} {b l q : Addr} {es : List Int} (hB : BagAt H b l) (h : H q = some (.lst (es.map V.int))) : q ≠ b := fun z => by
  obtain ⟨ns, i, g, e, xx, qq, hb, _⟩ := hB.ex
  rw [z, hb] at h
  cases es with
  | nil => cases h
  | cons _ _ => cases h
structure Bd (N : Nat) (es : List Int) (m p : Option Int) : Prop where
  e : ∀ e ∈ es, e.natAbs ≤ N
  m : (m.getD 0).natAbs ≤ N
  p : (p.getD 0).natAbs ≤ N
theorem Bd.up {N M : Nat} {es : List Int} {m p : Option Int} (b : Bd N es m p) (h : N ≤ M) : Bd M es m p := ⟨fun e he => Nat.le_trans (b.e e he) h, Nat.le_trans b.m h, Nat.le_trans b.p h⟩
theorem cts_ne_bag {H H' : Hp} {b l q : Addr} {x1 x2 x3 x4 x5 : V} (hB : BagAt H b l) (h : H q = some (.lst [x1, x2, x3, x4, x5])) : q ≠ b := fun z => by
  obtain ⟨ns, i, g, e, xx, qq, hb, _⟩ := hB.ex
  rw [z, hb] at h
  cases h
/-! ### what right counts keep to -/
theorem perm_sum {a b : List Int} (h : a.Perm b) : a.sum = b.sum := by
  induction h with
  | nil => rfl
  | cons x _ ih => rw [List.sum_cons, List.sum_cons, ih]
  | swap x y l => rw [List.sum_cons, List.sum_cons, List.sum_cons, List.sum_cons]; omega
  | trans _ _ i1 i2 => rw [i1, i2]
theorem redN_cong (mod : Nat) (n : Int) : (mod : Int) ∣ redN mod n - n := by
  unfold redN
  by_cases h : mod = 0
  · rw [if_pos h, Int.sub_self]; exact Int.dvd_zero _
  · rw [if_neg h]
    have := Int.emod_add_mul_ediv n (mod : Int)
    exact ⟨-(n / (mod : Int)), by rw [Int.mul_neg]; omega⟩
theorem red_sum (mod : Nat) : ∀ raw : List Int, (mod : Int) ∣ (raw.map (redN mod)).sum - raw.sum
  | [] => ⟨0, by simp⟩
  | x :: raw => by
    have h1 := redN_cong mod x
    have h2 := red_sum mod raw
    rw [List.map_cons, List.sum_cons, List.sum_cons, show redN mod x + (raw.map (redN mod)).sum - (x + raw.sum) = (redN mod x - x) + ((raw.map (redN mod)).sum - raw.sum) by omega]
    exact Int.dvd_add h1 h2
theorem rims_right {arm mod : Nat} {h : Int} {raw es : List Int} (hp : es.Perm (raw.map (redN mod))) (hs : es.Pairwise (· ≤ ·)) (hn : raw ≠ []) (hsum : raw.sum = (arm : Int) * (2 - 2 * h - (raw.length : Int))) : RimsOk mod es ∧ SumOk arm mod h es := by
  have hl : es.length = raw.length := by rw [hp.length_eq, List.length_map]
  refine ⟨⟨fun z => hn (List.eq_nil_of_length_eq_zero (by rw [← hl, z]; rfl)), hs, fun hm e he => ?_⟩, ?_⟩
  · obtain ⟨x, _, rfl⟩ := List.mem_map.mp (hp.mem_iff.mp he)
    unfold redN
    rw [if_neg (by omega)]
    exact ⟨Int.emod_nonneg _ (by omega), Int.emod_lt_of_pos _ (by omega)⟩
  · show (mod : Int) ∣ es.sum - (arm : Int) * (2 - 2 * h - (es.length : Int))
    rw [hl, ← hsum, perm_sum hp]
    exact red_sum mod raw
theorem sum_abs {b : Nat} : ∀ {l : List Int}, (∀ e ∈ l, e.natAbs ≤ b) → l.sum.natAbs ≤ b * l.length
  | [], _ => by simp
  | x :: l, h => by
    have h1 := h x (List.mem_cons_self ..)
    have h2 := sum_abs (l := l) fun e he => h e (List.mem_cons_of_mem _ he)
    rw [List.sum_cons, List.length_cons, Nat.mul_add, Nat.mul_one]
    have := Int.natAbs_add_le x l.sum
    omega
theorem bal_some (arm mod : Nat) (es : List Int) (p : Int) : ∃ s : Option Int, s ∈ ([none, some 1, some 0, some (-1)] : List (Option Int)) ∧ BalOk arm mod es p s := by
  by_cases h : HasBal arm mod p
  · by_cases o : OddRim arm es p
    · exact ⟨some 0, by simp, .inl ⟨h, 0, rfl, ⟨fun _ => o, fun _ => rfl⟩⟩⟩
    · exact ⟨some 1, by simp, .inl ⟨h, 1, rfl, ⟨fun z => absurd z (by decide), fun z => absurd z o⟩⟩⟩
  · exact ⟨none, by simp, .inr ⟨h, rfl⟩⟩
theorem meas_of {arm mod : Nat} {es : List Int} {m : Int} (h0 : 0 ≤ m) (hd : m ∣ ((gcdZ ((mod : Int) :: es.map fun e => e + (arm : Int)) : Nat) : Int)) : MeasOk arm mod es m := by
  have h := (dvd_gcdZ (gcdZ ((mod : Int) :: es.map fun e => e + (arm : Int))) _).mp (Nat.dvd_refl _)
  exact ⟨h0, Int.dvd_trans hd (h _ (List.mem_cons_self ..)), fun e he => Int.dvd_trans hd (h _ (List.mem_cons_of_mem _ (List.mem_map.mpr ⟨e, he, rfl⟩)))⟩
theorem share_ofG {arm mod : Nat} {es : List Int} {p : Int} (h1 : 1 ≤ p) (hd : p ∣ ((gcdZ ((arm : Int) :: (mod : Int) :: es) : Nat) : Int)) : ShareOk arm mod es p := by
  have h := (dvd_gcdZ (gcdZ ((arm : Int) :: (mod : Int) :: es)) _).mp (Nat.dvd_refl _)
  exact ⟨h1, Int.dvd_trans hd (h _ (List.mem_cons_self ..)), Int.dvd_trans hd (h _ (List.mem_cons_of_mem _ (List.mem_cons_self ..))), fun e he => Int.dvd_trans hd (h _ (List.mem_cons_of_mem _ (List.mem_cons_of_mem _ he)))⟩
theorem gcdZ_head {a : Nat} {ns : List Int} (ha : 1 ≤ a) : 1 ≤ gcdZ ((a : Int) :: ns) ∧ gcdZ ((a : Int) :: ns) ≤ a := by
  have h := (dvd_gcdZ (gcdZ ((a : Int) :: ns)) _).mp (Nat.dvd_refl _) (a : Int) (List.mem_cons_self ..)
  have h2 : gcdZ ((a : Int) :: ns) ∣ a := Int.natCast_dvd_natCast.mp h
  exact ⟨Nat.pos_of_dvd_of_pos h2 ha, Nat.le_of_dvd ha h2⟩
theorem of_divs {ds : List Nat} {i : Nat} {v : V} (h : (ds.map fun d : Nat => V.int (d : Nat))[i]? = some v) : ∃ d : Nat, d ∈ ds ∧ v = .int (d : Nat) := by
  obtain ⟨d, hd, e⟩ := List.mem_map.mp (List.mem_of_getElem? h)
  exact ⟨d, hd, e.symm⟩
theorem pos_of_mem {ds : List Nat} {d : Nat} (h : d ∈ ds) : 0 < (ds.map fun d : Nat => V.int (d : Nat)).length := by
  rw [List.length_map]
  exact List.length_pos_of_mem h
theorem pick_div {b l : Addr} {n : Nat} {H : Hp} {σ : L2.St} {Q : VK} {E1 E2 : XK} (hB : BagAt H b l) (h1 : 1 ≤ n) (h2 : n ≤ 1000) (k : ∀ (d : Nat) H', d ∣ n → 1 ≤ d → d ≤ n → BagAt H' b l → Kp b H H' → Q (.int (d : Nat)) H') :
    spDivsD ([.int (n : Nat)] ++ []) H (fun x H1 => tNil σ H1 fun xs H2 => spOf (V.ref b :: x :: xs ++ []) H2 Q E1) E2 := by
  refine ⟨n, rfl, h1, h2, fun p H' hp s ⟨ds, hds, d1, d2, d3⟩ => ?_⟩
  have npb : p ≠ b := fun z => hB.b_some (z ▸ hp)
  refine ⟨b, l, p, _, rfl, hB.same s, npb, hds, pos_of_mem d1, by rw [List.length_map]; omega, fun i v H2 hv hB2 kp2 => ?_⟩
  obtain ⟨d, hd, rfl⟩ := of_divs hv
  obtain ⟨e1, e2, e3⟩ := d2 d hd
  exact k d H2 e3 e1 e2 hB2 (Kp.trans (Kp.of s) kp2)
def spRight : Sp := fun vs H Q _ => ∃ (b l : Addr) (arm mod n : Nat) (h : Nat), vs = [.ref b, .int arm, .int mod, .int h, .int n] ∧ BagAt H b l ∧ 1 ≤ arm ∧ arm ≤ 12 ∧ mod ≠ 1 ∧ mod ≤ 24 ∧ h ≤ 4 ∧ 1 ≤ n ∧ n ≤ 5 ∧ ∀ (q ep : Addr) (es : List Int) (m p sn : Option Int) (H' : Hp), BagAt H' b l → Kp b H H' → CtsAt H' q ep h es m p sn → Formed h m p sn → es.length = n → brk arm mod h es m p sn = "" → Bd 960 es m p → Q (.ref q) H'
theorem ok_lright (B : Bi K mg) (c_l_draw : C8.Cal P w K mg base 1 "_law_draw" spDraw []) (c_l_of : C8.Cal P w K mg base 2 "_law_of" spOf []) (c_l_red : C8.Cal P w K mg base 1 "_law_red" spRed []) (c_l_divisor : C8.Cal P w K mg base 1 "_law_divisor" (spLDiv K) []) (c_l_divisors : C8.Cal P w K mg base 1 "_law_divisors" spDivsD []) (c_l_broken : C8.Cal P w K mg base 2 "_law_broken" spLBroken []) (F : FnP K "_law_right" st_l_right f fd) : FnOk P w K mg base CX0 3 f fd ["bag", "arm", "mod", "hands", "many"] spRight := by
  refine F.ok sc_l_right (fun vs H Q E h => ?_) (fun cdv A outer s H vs Q E hr h => ?_)
  · obtain ⟨b, l, arm, mod, n, h, rfl, _⟩ := h
    rfl
  · obtain ⟨b, l, arm, mod, n, hh, rfl, hB, ha1, ha2, hm1, hm2, hh4, hn1, hn5, k⟩ := h
    have G := B
    refine ⟨_, PSs.nox ((C8.pss_cut (ps_set (i := 5) sc_l_right.nd rfl (Or.inl rfl) (C8.pe_c c_l_of hr (by decide) rfl (pa_cons (pv 0) (pa_cons (C8.pe_c c_l_divisors hr (by decide) rfl (pa_cons (C8.pe_c c_l_divisor hr (by decide) rfl (pa_cons (pe_lst (pa_cons (pv 1) (pa_cons (pv 2) pa_nil))) pa_nil)) pa_nil)) pa_nil))))
      (C8.pss_cut (ps_if (pt_cmpR op_eq (pv 3) pe_int (nomark _))
        (pss_one (ps_set (i := 5) sc_l_right.nd rfl (Or.inl rfl) (pe_ifExp (pt_cmpR op_gt (pv 2) pe_int (nomark _)) (C8.pe_c c_l_of hr (by decide) rfl (pa_cons (pv 0) (pa_cons (C8.pe_c c_l_divisors hr (by decide) rfl (pa_cons (pv 2) pa_nil)) pa_nil))) (C8.pe_c c_l_draw hr (by decide) rfl (pa_cons (pv 0) (pa_cons pe_int pa_nil))))))
        pss_nil)
      (C8.pss_cut (ps_set (i := 6) sc_l_right.nd rfl (Or.inr rfl) (pe_op op_mul (pv 5) (pe_op op_add pe_int (C8.pe_c c_l_draw hr (by decide) rfl (pa_cons (pv 0) (pa_cons pe_int pa_nil))))))
      (C8.pss_cut (ps_set (i := 7) sc_l_right.nd rfl (Or.inr rfl) (pe_lc (own := [("k", 10)]) rfl sc_l_right.nd (pi_range1 (by rfl) G.range (pa_cons (pe_op op_sub (pv 4) pe_int) pa_nil)) (blkOk_by (own := [("k", 10)]) (N := ["bag", "arm", "mod", "hands", "many", "unit", "step", "edges", "most", "part", "k", "num", "sign"]) (sc := defScope st_l_right) (by decide +kernel)) (fun _ _ _ _ _ => (pg_name (i := 10) sc_l_right.nd rfl (Or.inl rfl))) (fun _ _ _ _ _ => pts_nil) (fun _ _ _ _ _ => (pe_op op_sub (pe_op op_mul (pv 6) (pe_op op_sub (C8.pe_c c_l_draw hr (by decide) rfl (pa_cons (pv 0) (pa_cons pe_int pa_nil))) pe_int)) (pv 1)))))
      (C8.pss_cut (ps_set (i := 7) sc_l_right.nd rfl (Or.inr rfl) (pe_callB cr_sortedI (by rfl) G.sorted (by decide +kernel) (pa_cons (pe_lc (own := [("num", 11)]) rfl sc_l_right.nd (pi_list (pe_op op_cat (pv 7) (pe_lst (pa_cons (pe_op op_sub (pe_op op_mul (pv 1) (pe_op op_sub (pe_op op_sub pe_int (pe_op op_mul pe_int (pv 3))) (pv 4))) (pe_callB (cr_sum rfl) (by rfl) G.sum (by decide +kernel) (pa_cons (pv 7) pa_nil))) pa_nil)))) (blkOk_by (own := [("num", 11)]) (N := ["bag", "arm", "mod", "hands", "many", "unit", "step", "edges", "most", "part", "k", "num", "sign"]) (sc := defScope st_l_right) (by decide +kernel)) (fun _ _ _ _ _ => (pg_name (i := 11) sc_l_right.nd rfl (Or.inl rfl))) (fun _ _ _ _ _ => pts_nil) (fun _ _ _ _ _ => (C8.pe_c c_l_red hr (by decide) rfl (pa_cons (pv 2) (pa_cons (pv 11) pa_nil))))) pa_nil)))
      (pss_cons (ps_if (pt_cmpR op_eq (pv 3) pe_int (nomark _))
        (pss_one (ps_ret (pe_lst (pa_cons pe_int (pa_cons (pv 7) (pa_cons pe_non (pa_cons pe_non (pa_cons pe_non pa_nil))))))))
        pss_nil)
      (pss_cons (ps_if (pt_cmpR op_eq (pv 3) pe_int (nomark _))
        (pss_cons (ps_set (i := 8) sc_l_right.nd rfl (Or.inl rfl) (C8.pe_c c_l_divisor hr (by decide) rfl (pa_cons (pe_op op_cat (pe_lst (pa_cons (pv 2) pa_nil)) (pe_lc (own := [("num", 11)]) rfl sc_l_right.nd (pi_list (pv 7)) (blkOk_by (own := [("num", 11)]) (N := ["bag", "arm", "mod", "hands", "many", "unit", "step", "edges", "most", "part", "k", "num", "sign"]) (sc := defScope st_l_right) (by decide +kernel)) (fun _ _ _ _ _ => (pg_name (i := 11) sc_l_right.nd rfl (Or.inl rfl))) (fun _ _ _ _ _ => pts_nil) (fun _ _ _ _ _ => (pe_op op_add (pv 11) (pv 1))))) pa_nil)))
        (pss_one (ps_ret (pe_lst (pa_cons pe_int (pa_cons (pv 7) (pa_cons (pe_ifExp (pt_cmpR op_gt (pv 8) pe_int (nomark _)) (C8.pe_c c_l_of hr (by decide) rfl (pa_cons (pv 0) (pa_cons (C8.pe_c c_l_divisors hr (by decide) rfl (pa_cons (pv 8) pa_nil)) pa_nil))) (C8.pe_c c_l_draw hr (by decide) rfl (pa_cons (pv 0) (pa_cons pe_int pa_nil)))) (pa_cons pe_non (pa_cons pe_non pa_nil)))))))))
        pss_nil)
      (pss_cons (ps_set (i := 9) sc_l_right.nd rfl (Or.inr rfl) (C8.pe_c c_l_of hr (by decide) rfl (pa_cons (pv 0) (pa_cons (C8.pe_c c_l_divisors hr (by decide) rfl (pa_cons (C8.pe_c c_l_divisor hr (by decide) rfl (pa_cons (pe_op op_cat (pe_lst (pa_cons (pv 1) (pa_cons (pv 2) pa_nil))) (pv 7)) pa_nil)) pa_nil)) pa_nil))))
      (pss_one (ps_ret (pe_lst (pa_cons (pv 3) (pa_cons (pv 7) (pa_cons pe_non (pa_cons (pv 9) (pa_cons (C8.pe_c c_l_of hr (by decide) rfl (pa_cons (pv 0) (pa_cons (pe_lc (own := [("sign", 12)]) rfl sc_l_right.nd (pi_list (pe_lst (pa_cons pe_non (pa_cons pe_int (pa_cons pe_int (pa_cons (pe_un un_neg pe_int) pa_nil)))))) (blkOk_by (own := [("sign", 12)]) (N := ["bag", "arm", "mod", "hands", "many", "unit", "step", "edges", "most", "part", "k", "num", "sign"]) (sc := defScope st_l_right) (by decide +kernel)) (fun _ _ _ _ _ => (pg_name (i := 12) sc_l_right.nd rfl (Or.inl rfl))) (fun _ _ _ _ _ => (pts_one (pt_cmpR op_eq (C8.pe_c c_l_broken hr (by decide) rfl (pa_cons (pv 1) (pa_cons (pv 2) (pa_cons (pe_lst (pa_cons (pv 3) (pa_cons (pv 7) (pa_cons pe_non (pa_cons (pv 9) (pa_cons (pv 12) pa_nil)))))) pa_nil)))) pe_str (nomark _)))) (fun _ _ _ _ _ => (pv 12))) pa_nil))) pa_nil))))))))))))))))), ?_⟩
    try dsimp only [cxOf]
    refine x_cut (fun σ H' => ∃ u : Nat, u ≤ 24 ∧ Kp b H H' ∧ BagAt H' b l ∧ σ = [some (.ref b), some (.int (arm : Nat)), some (.int (mod : Nat)), some (.int (hh : Nat)), some (.int (n : Nat)), some (.int (u : Nat)), none, none, none, none, none, none, none]) ?_ ?_
    · walk_at "go"
      refine ⟨by show 2 ≤ sizeLine; decide, fun v hv => ?_⟩
      refine ⟨v, [(arm : Int), (mod : Int)], rfl, SqL.of upd_same, fun z hz => ?_, ?_⟩
      · rcases List.mem_cons.mp hz with e | hz
        · rw [e]; omega
        · rw [List.mem_singleton.mp hz]; omega
      obtain ⟨g1, g2⟩ := gcdZ_head (ns := [(mod : Int)]) ha1
      generalize gcdZ [(arm : Int), (mod : Int)] = gg at g1 g2
      walk_at "go"
      refine pick_div (hB.new hv) g1 (by omega) fun d H1 hd d1 d2 hB1 kp1 => ?_
      walk_at "go"
      exact ⟨d, by omega, Kp.trans (Kp.of (Same.new hv)) kp1, hB1, rfl⟩
    rintro σ H1 ⟨u0, hu0, kp1, hB1, rfl⟩
    refine x_cut (fun σ H' => ∃ u : Nat, u ≤ 24 ∧ Kp b H H' ∧ BagAt H' b l ∧ σ = [some (.ref b), some (.int (arm : Nat)), some (.int (mod : Nat)), some (.int (hh : Nat)), some (.int (n : Nat)), some (.int (u : Nat)), none, none, none, none, none, none, none]) ?_ ?_
    · walk_at "go"
      refine x_iteD (fun c1 => ?_) (fun c1 => ?_)
      · walk_at "go"
        refine x_iteD (fun c2 => ?_) (fun c2 => ?_)
        · walk_at "go"
          refine pick_div hB1 (by omega) (by omega) fun d H2 hd d1 d2 hB2 kp2 => ?_
          walk_at "go"
          exact ⟨d, by omega, Kp.trans kp1 kp2, hB2, rfl⟩
        · walk_at "go"
          refine ⟨b, l, 7, rfl, hB1, by decide, by decide, fun r H2 h2 hB2 kp2 => ?_⟩
          walk_at "go"
          exact ⟨r, by omega, Kp.trans kp1 kp2, hB2, rfl⟩
      · walk_at "go"
        exact ⟨u0, hu0, kp1, hB1, rfl⟩
    rintro σ H2 ⟨u, hu, kp2, hB2, rfl⟩
    refine x_cut (fun σ H' => ∃ u : Nat, u ≤ 48 ∧ Kp b H H' ∧ BagAt H' b l ∧ ∃ u0 : Nat, σ = [some (.ref b), some (.int (arm : Nat)), some (.int (mod : Nat)), some (.int (hh : Nat)), some (.int (n : Nat)), some (.int (u0 : Nat)), some (.int (u : Nat)), none, none, none, none, none, none]) ?_ ?_
    · walk_at "go"
      refine ⟨b, l, 2, rfl, hB2, by decide, by decide, fun r H3 h3 hB3 kp3 => ?_⟩
      have cm : CMul (u : Int) (1 + (r : Int)) := .inl ⟨by omega, by omega⟩
      walk_at "go"
      have : u * (1 + r) ≤ 24 * 2 := Nat.mul_le_mul hu (by omega)
      exact ⟨u * (1 + r), this, Kp.trans kp2 kp3, hB3, u, by rw [Int.natCast_mul, Int.natCast_add]; rfl⟩
    rintro σ H3 ⟨st, hst, kp3, hB3, u1, rfl⟩
    refine x_cut (fun σ H' => ∃ (p : Addr) (rs : List Int), rs.length + 1 = n ∧ (∀ e ∈ rs, e.natAbs ≤ 204) ∧ Kp b H H' ∧ BagAt H' b l ∧ H' p = some (.lst (rs.map V.int)) ∧ σ = [some (.ref b), some (.int (arm : Nat)), some (.int (mod : Nat)), some (.int (hh : Nat)), some (.int (n : Nat)), some (.int (u1 : Nat)), some (.int (st : Nat)), some (.ref p), none, none, none, none, none]) ?_ ?_
    · walk_at "go"
      refine w_lcR1B (l := l) hB3 (by omega) (by omega) (Nat.lt_of_le_of_lt (show _ ≤ 5 by omega) (by decide)) (fun _ i acc _ => ∃ rs : List Int, acc = rs.map V.int ∧ rs.length = i ∧ ∀ e ∈ rs, e.natAbs ≤ 204) (fun p i acc H1 H2 _ h => h) (fun p _ => ⟨[], rfl, rfl, fun e h => by cases h⟩) ?_ ?_
      · rintro p i H' acc hp npb hi kpi B1 hpa ⟨rs, rfl, hrl, hrb⟩ hai R S2 hR hS2
        walk_at "go"
        refine ⟨rfl, ?_⟩
        walk_at "go"
        refine ⟨b, l, 9, rfl, B1, by decide, by decide, fun r H4 h4 hB4 kp4 => ?_⟩
        have cm : CMul (st : Int) ((r : Int) - 4) := .inl ⟨by omega, by omega⟩
        have ab : ((st : Int) * ((r : Int) - 4)).natAbs ≤ 192 := by
          rw [Int.natAbs_mul]
          exact Nat.mul_le_mul (show (st : Int).natAbs ≤ 48 by omega) (show ((r : Int) - 4).natAbs ≤ 4 by omega)
        walk_at "go"
        refine hR _ _ kp4 hB4 ⟨rs ++ [(st : Int) * ((r : Int) - 4) - (arm : Int)], by rw [List.map_append]; rfl, by rw [List.length_append, hrl]; rfl, fun e he => ?_⟩
        rcases List.mem_append.mp he with he | he
        · exact hrb e he
        · rw [List.mem_singleton.mp he]; omega
      · rintro p H' acc hp npb kpi B1 hpa ⟨rs, rfl, hrl, hrb⟩
        walk_at "go"
        exact ⟨p, rs, by omega, hrb, Kp.trans kp3 kpi, B1, hpa, rfl⟩
    rintro σ H4 ⟨p0, rs, hrl, hrb, kp4, hB4, hp0, rfl⟩
    have hsb := sum_abs hrb
    have hsb2 : rs.sum.natAbs ≤ 816 := Nat.le_trans hsb (show 204 * rs.length ≤ 204 * 4 from Nat.mul_le_mul_left _ (by omega))
    have np0 := int_ne_bag (H' := H4) hB4 hp0
    refine x_cut (fun σ H' => ∃ (ep : Addr) (es : List Int), es.length = n ∧ (∀ e ∈ es, e.natAbs ≤ 948) ∧ RimsOk mod es ∧ SumOk arm mod (hh : Int) es ∧ Kp b H H' ∧ BagAt H' b l ∧ H' ep = some (.lst (es.map V.int)) ∧ σ = [some (.ref b), some (.int (arm : Nat)), some (.int (mod : Nat)), some (.int (hh : Nat)), some (.int (n : Nat)), some (.int (u1 : Nat)), some (.int (st : Nat)), some (.ref ep), none, none, none, none, none]) ?_ ?_
    · have cm1 : CMul 2 (hh : Int) := .inl ⟨by omega, by omega⟩
      have cm2 : CMul (arm : Int) (2 - 2 * (hh : Int) - (n : Int)) := .inl ⟨by omega, by omega⟩
      have ab : ((arm : Int) * (2 - 2 * (hh : Int) - (n : Int))).natAbs ≤ 132 := by
        rw [Int.natAbs_mul]
        exact Nat.mul_le_mul (show (arm : Int).natAbs ≤ 12 by omega) (show (2 - 2 * (hh : Int) - (n : Int)).natAbs ≤ 11 by omega)
      walk_at "go"
      refine x_sum (SqL.of hp0) ?_
      generalize hw : (arm : Int) * (2 - 2 * (hh : Int) - (n : Int)) = w at *
      walk_at "go"
      refine ⟨by show 1 ≤ sizeLine; decide, fun u hu => ?_⟩
      refine x_cat (upd_old hu hp0) upd_same (by rw [List.length_map]; exact Nat.le_trans (show _ ≤ 6 by show rs.length + 1 ≤ 6; omega) (by decide)) fun t ht => ?_
      have s5 : Same H4 (upd (upd H4 u (.lst [V.int (w - rs.sum)])) t (.lst (rs.map V.int ++ [V.int (w - rs.sum)]))) := Same.trans (Same.new hu) (Same.new ht)
      have ht5 : (upd (upd H4 u (.lst [V.int (w - rs.sum)])) t (.lst (rs.map V.int ++ [V.int (w - rs.sum)]))) t = some (.lst ((rs ++ [w - rs.sum]).map V.int)) := by rw [upd_same, List.map_append]; rfl
      revert s5 ht5
      generalize upd (upd H4 u (.lst [V.int (w - rs.sum)])) t (.lst (rs.map V.int ++ [V.int (w - rs.sum)])) = H5
      intro s5 ht5
      have rb : ∀ e ∈ rs ++ [w - rs.sum], e.natAbs ≤ 948 := fun e he => by
        rcases List.mem_append.mp he with he | he
        · exact Nat.le_trans (hrb e he) (by decide)
        · rw [List.mem_singleton.mp he]; omega
      have rl : (rs ++ [w - rs.sum]).length = n := by rw [List.length_append]; exact hrl
      have rsum : (rs ++ [w - rs.sum]).sum = (arm : Int) * (2 - 2 * (hh : Int) - ((rs ++ [w - rs.sum]).length : Int)) := by
        rw [rl, hw, List.sum_append, List.sum_singleton]; omega
      have rne : rs ++ [w - rs.sum] ≠ [] := fun z => by rw [z] at rl; exact absurd rl (by show ¬0 = n; omega)
      generalize rs ++ [w - rs.sum] = raw at *
      walk_at "go"
      refine w_lcL (xs := raw.map V.int) (SqL.of ht5) (by rw [List.length_map]; exact Nat.lt_of_le_of_lt (show _ ≤ 5 by omega) (by decide)) (fun i acc => acc = ((raw.map (redN mod)).map V.int).take i) rfl ?_ ?_
      · rintro i x H' acc hi s' rfl hai R S2 hR2 hS2
        obtain ⟨e, rfl, hei⟩ := int_at hi
        walk_at "go"
        refine ⟨rfl, ?_⟩
        walk_at "go"
        refine ⟨mod, e, rfl, by omega, ?_⟩
        refine hR2 _ _ (Same.refl _) ?_
        rw [take_snoc (show ((raw.map (redN mod)).map V.int)[i]? = some (.int (redN mod e)) by rw [List.getElem?_map, List.getElem?_map, hei]; rfl)]
      rintro r H6 acc hr0 s6 hr6 rfl
      rw [List.length_map, List.take_of_length_le (by rw [List.length_map, List.length_map]; exact Nat.le_refl _)] at hr6
      walk_at "go"
      refine ⟨r, _, rfl, SqL.of hr6, fun es q hperm hsort hq => ?_⟩
      walk_at "go"
      obtain ⟨o1, o2⟩ := rims_right hperm hsort rne rsum
      have kp6 : Kp b H4 (upd H6 q (.lst (es.map V.int))) := Kp.of (Same.trans s5 (Same.trans s6 (Same.new hq)))
      refine ⟨q, es, by rw [hperm.length_eq, List.length_map, rl], fun e he => ?_, o1, o2, Kp.trans kp4 kp6, hB4.same (Same.trans s5 (Same.trans s6 (Same.new hq))), upd_same, rfl⟩
      obtain ⟨x, hx, rfl⟩ := List.mem_map.mp (hperm.mem_iff.mp he)
      exact redN_abs (by omega) (rb x hx)
    rintro σ H5 ⟨ep, es, hel, heb, hR, hS, kp5, hB5, hep, rfl⟩
    have nep := int_ne_bag (H' := H5) hB5 hep
    have z5 : 5 ≤ sizeLine := by decide
    have out : ∀ (H6 : Hp) (m p sn : Option Int), BagAt H6 b l → Kp b H5 H6 → Formed (hh : Int) m p sn → brk arm mod (hh : Int) es m p sn = "" → (m.getD 0).natAbs ≤ 960 → (p.getD 0).natAbs ≤ 960 → ∀ q, H6 q = none → Q (.ref q) (upd H6 q (.lst [.int (hh : Nat), .ref ep, oV m, oV p, oV sn])) := fun H6 m p sn B6 k6 f6 b6 m6 p6 q hq =>
      k q ep es m p sn _ (B6.new hq) (Kp.trans kp5 (Kp.trans k6 (Kp.of (Same.new hq)))) ⟨upd_same, upd_old hq (k6 _ _ nep hep)⟩ f6 hel b6 ⟨fun e he => Nat.le_trans (heb e he) (by decide), m6, p6⟩
    walk_at "go"
    refine x_iteD (fun c1 => ?_) (fun c1 => ?_)
    · walk_at "go"
      obtain rfl : hh = 0 := by omega
      exact ⟨z5, fun q hq => out H5 none none none hB5 Kp.refl ⟨by decide, ⟨fun z => (by cases z), fun z => absurd z (by decide)⟩, ⟨fun z => (by cases z), fun z => absurd z (by decide)⟩, .inl rfl⟩ (brk_4 hR hS (by decide)) (Nat.zero_le _) (Nat.zero_le _) q hq⟩
    walk_at "go"
    refine x_iteD (fun c2 => ?_) (fun c2 => ?_)
    · walk_at "go"
      have h1 : (hh : Int) = 1 := c2
      refine ⟨by show 1 ≤ sizeLine; decide, fun u hu => ?_⟩
      walk_at "go"
      refine w_lcL (xs := es.map V.int) (SqL.of (upd_old hu hep)) (by rw [List.length_map]; exact Nat.lt_of_le_of_lt (show _ ≤ 5 by omega) (by decide)) (fun i acc => acc = ((es.map fun e => e + (arm : Int)).map V.int).take i) rfl ?_ ?_
      · rintro i x H' acc hi s' rfl hai R S2 hR2 hS2
        obtain ⟨e, rfl, hei⟩ := int_at hi
        walk_at "go"
        refine ⟨rfl, ?_⟩
        walk_at "go"
        refine hR2 _ _ (Same.refl _) ?_
        rw [take_snoc (show ((es.map fun e => e + (arm : Int)).map V.int)[i]? = some (.int (e + (arm : Int))) by rw [List.getElem?_map, List.getElem?_map, hei]; rfl)]
      rintro r H3 acc hr0 s3 hr3 rfl
      rw [List.length_map, List.take_of_length_le (by rw [List.length_map, List.length_map]; exact Nat.le_refl _)] at hr3
      have hu3 := s3 _ _ (show (upd H5 u (.lst [V.int (mod : Nat)])) u = some (.lst ([(mod : Int)].map V.int)) from upd_same)
      refine x_cat hu3 hr3 (by rw [List.length_map, List.length_map, List.length_map]; exact Nat.le_trans (show _ ≤ 6 by show 1 + es.length ≤ 6; omega) (by decide)) fun t ht => ?_
      have s4 : Same H5 (upd H3 t (.lst ([(mod : Int)].map V.int ++ (es.map fun e => e + (arm : Int)).map V.int))) := Same.trans (Same.new hu) (Same.trans s3 (Same.new ht))
      have ht4 : (upd H3 t (.lst ([(mod : Int)].map V.int ++ (es.map fun e => e + (arm : Int)).map V.int))) t = some (.lst (((mod : Int) :: es.map fun e => e + (arm : Int)).map V.int)) := by rw [upd_same, List.map_cons]; rfl
      revert s4 ht4
      generalize upd H3 t (.lst ([(mod : Int)].map V.int ++ (es.map fun e => e + (arm : Int)).map V.int)) = H6
      intro s4 ht4
      have hall : ∀ z ∈ (mod : Int) :: es.map (fun e => e + (arm : Int)), z.natAbs ≤ 960 := fun z hz => by
        rcases List.mem_cons.mp hz with e | hz
        · rw [e]; omega
        · obtain ⟨e, he, rfl⟩ := List.mem_map.mp hz
          have := heb e he
          omega
      walk_at "go"
      refine ⟨t, _, rfl, SqL.of ht4, fun z hz => by have := hall z hz; omega, ?_⟩
      have hg := gcdZ_le hall
      have hmeas : ∀ m : Int, 0 ≤ m → m ∣ ((gcdZ ((mod : Int) :: es.map fun e => e + (arm : Int)) : Nat) : Int) → MeasOk arm mod es m := fun m => meas_of
      generalize gcdZ ((mod : Int) :: es.map fun e => e + (arm : Int)) = most at hg hmeas
      have hB6 := hB5.same s4
      have fm : ∀ mv : Int, Formed (hh : Int) (some mv) none none := fun mv => by rw [h1]; exact ⟨by decide, ⟨fun _ => rfl, fun _ => rfl⟩, ⟨fun z => (by cases z), fun z => absurd z (by decide)⟩, .inl rfl⟩
      have eh : V.int (1 : Int) = V.int (hh : Int) := by rw [h1]
      walk_at "go"
      refine x_iteD (fun c3 => ?_) (fun c3 => ?_)
      · walk_at "go"
        refine pick_div hB6 (by omega) (by omega) fun d H7 hd d1 d2 hB7 kp7 => ?_
        walk_at "go"
        refine ⟨z5, fun q hq => ?_⟩
        rw [eh]
        exact out H7 (some (d : Int)) none none hB7 (Kp.trans (Kp.of s4) kp7) (fm _) (brk_3 hR hS h1 (hmeas _ (Int.natCast_nonneg _) (Int.natCast_dvd_natCast.mpr hd))) (by show ((d : Nat) : Int).natAbs ≤ 960; omega) (Nat.zero_le _) q hq
      · walk_at "go"
        refine ⟨b, l, 9, rfl, hB6, by decide, by decide, fun r H7 h7 hB7 kp7 => ?_⟩
        walk_at "go"
        refine ⟨z5, fun q hq => ?_⟩
        rw [eh]
        exact out H7 (some (r : Int)) none none hB7 (Kp.trans (Kp.of s4) kp7) (fm _) (brk_3 hR hS h1 (hmeas _ (Int.natCast_nonneg _) (by rw [show most = 0 by omega]; exact Int.dvd_zero _))) (by show ((r : Nat) : Int).natAbs ≤ 960; omega) (Nat.zero_le _) q hq
    walk_at "go"
    refine ⟨by show 2 ≤ sizeLine; decide, fun u hu => ?_⟩
    walk_at "go"
    refine x_cat (show _ = some (.lst ([(arm : Int), (mod : Int)].map V.int)) from upd_same) (upd_old hu hep) (by rw [List.length_map, List.length_map]; exact Nat.le_trans (show _ ≤ 7 by show 2 + es.length ≤ 7; omega) (by decide)) fun t ht => ?_
    have s6 : Same H5 (upd (upd H5 u (.lst [V.int (arm : Nat), V.int (mod : Nat)])) t (.lst ([(arm : Int), (mod : Int)].map V.int ++ es.map V.int))) := Same.trans (Same.new hu) (Same.new ht)
    have ht6 : (upd (upd H5 u (.lst [V.int (arm : Nat), V.int (mod : Nat)])) t (.lst ([(arm : Int), (mod : Int)].map V.int ++ es.map V.int))) t = some (.lst (((arm : Int) :: (mod : Int) :: es).map V.int)) := upd_same
    revert s6 ht6
    generalize upd (upd H5 u (.lst [V.int (arm : Nat), V.int (mod : Nat)])) t (.lst ([(arm : Int), (mod : Int)].map V.int ++ es.map V.int)) = H6
    intro s6 ht6
    walk_at "go"
    refine ⟨t, _, rfl, SqL.of ht6, fun z hz => ?_, ?_⟩
    · rcases List.mem_cons.mp hz with e | hz
      · rw [e]; omega
      · rcases List.mem_cons.mp hz with e | hz
        · rw [e]; omega
        · have := heb z hz; omega
    obtain ⟨g1, g2⟩ := gcdZ_head (ns := (mod : Int) :: es) ha1
    have hshare : ∀ p : Int, 1 ≤ p → p ∣ ((gcdZ ((arm : Int) :: (mod : Int) :: es) : Nat) : Int) → ShareOk arm mod es p := fun p => share_ofG
    generalize gcdZ ((arm : Int) :: (mod : Int) :: es) = gg at g1 g2 hshare
    have hB6 := hB5.same s6
    walk_at "go"
    refine pick_div hB6 g1 (by omega) fun pt H7 hd d1 d2 hB7 kp7 => ?_
    have kp57 : Kp b H5 H7 := Kp.trans (Kp.of s6) kp7
    have hSh := hshare (pt : Int) (by omega) (Int.natCast_dvd_natCast.mpr hd)
    have hep7 := kp57 _ _ nep hep
    have h2 : 2 ≤ (hh : Int) := by omega
    have fm : ∀ sv : Option Int, sv ∈ ([none, some 1, some 0, some (-1)] : List (Option Int)) → Formed (hh : Int) none (some (pt : Int)) sv := fun sv hs => by
      refine ⟨by omega, ⟨fun z => (by cases z), fun z => absurd z (by omega)⟩, ⟨fun _ => h2, fun _ => rfl⟩, ?_⟩
      simp at hs
      rcases hs with e | e | e | e
      · exact .inl e
      · exact .inr ⟨h2, .inl e⟩
      · exact .inr ⟨h2, .inr (.inl e)⟩
      · exact .inr ⟨h2, .inr (.inr e)⟩
    walk_at "go"
    refine ⟨by show 4 ≤ sizeLine; decide, fun v hv => ?_⟩
    refine w_lcL (xs := ([none, some 1, some 0, some (-1)] : List (Option Int)).map oV) (SqL.of upd_same) (by show 4 < sizeLine; decide) (fun i acc => ∃ ss : List (Option Int), acc = ss.map oV ∧ ss.length ≤ i ∧ ∀ z, z ∈ ss ↔ (z ∈ ([none, some 1, some 0, some (-1)] : List (Option Int)).take i ∧ brk arm mod (hh : Int) es none (some (pt : Int)) z = "")) ⟨[], rfl, Nat.le_refl _, fun z => ⟨fun h => (by cases h), fun h => (by cases h.1)⟩⟩ ?_ ?_
    · rintro i x H' acc hi s' ⟨ss, rfl, hsl, hss⟩ hai R S2 hR2 hS2
      rw [List.getElem?_map] at hi
      obtain ⟨z, hz, rfl⟩ := Option.map_eq_some_iff.mp hi
      have hzm := List.mem_of_getElem? hz
      have ht := take_snoc hz
      have hep8 := s' _ _ (upd_old hv hep7)
      walk_at "go"
      refine ⟨rfl, ?_⟩
      walk_at "go"
      refine ⟨z5, fun y hy => ?_⟩
      walk_at "go"
      refine ⟨arm, mod, y, ep, (hh : Int), es, none, some (pt : Int), z, rfl, ⟨upd_same, upd_old hy hep8⟩, fm z hzm, by omega, by omega, by omega, fun e he => by have := heb e he; omega, by omega, by show (0 : Int) < 1073741824; decide, by show (pt : Int) < 1073741824; omega, fun H9 s9 => ?_⟩
      walk_at "go"
      have s10 : Same H' H9 := Same.trans (Same.new hy) s9
      by_cases cb : brk arm mod (hh : Int) es none (some (pt : Int)) z = ""
      · rw [decide_eq_true cb]
        walk_at "go"
        refine hR2 _ _ s10 ⟨ss ++ [z], by rw [List.map_append]; rfl, by rw [List.length_append]; exact Nat.succ_le_succ hsl, fun w => ?_⟩
        rw [ht, List.mem_append, List.mem_append, hss, List.mem_singleton]
        constructor
        · rintro (⟨a, b⟩ | e)
          · exact ⟨.inl a, b⟩
          · exact ⟨.inr e, by rw [e]; exact cb⟩
        · rintro ⟨a | e, b⟩
          · exact .inl ⟨a, b⟩
          · exact .inr e
      · rw [decide_eq_false cb]
        walk_at "go"
        refine hS2 _ s10 ⟨ss, rfl, Nat.le_succ_of_le hsl, fun w => ?_⟩
        rw [ht, List.mem_append, hss, List.mem_singleton]
        constructor
        · rintro ⟨a, b⟩
          exact ⟨.inl a, b⟩
        · rintro ⟨a | e, b⟩
          · exact ⟨a, b⟩
          · exact absurd (e ▸ b) cb
    rintro r H8 acc hr0 s8 hr8 ⟨ss, rfl, hsl, hss⟩
    have hss' : ∀ z, z ∈ ss ↔ (z ∈ ([none, some 1, some 0, some (-1)] : List (Option Int)) ∧ brk arm mod (hh : Int) es none (some (pt : Int)) z = "") := hss
    obtain ⟨z0, hz0, hb0⟩ := bal_some arm mod es (pt : Int)
    have m0 : z0 ∈ ss := (hss' z0).mpr ⟨hz0, brk_6 hR hS h2 hSh hb0⟩
    have s78 : Same H7 H8 := Same.trans (Same.new hv) s8
    have hB8 := hB7.same s78
    have nrb : r ≠ b := fun z => by rw [z] at hr0; exact (hB7.new (o := _) hv).b_some hr0
    walk_at "go"
    have hsl4 : ss.length ≤ 4 := hsl
    refine ⟨b, l, r, _, rfl, hB8, nrb, hr8, by rw [List.length_map]; exact List.length_pos_of_mem m0, by rw [List.length_map]; omega, fun i v H9 hv9 hB9 kp9 => ?_⟩
    obtain ⟨sv, hsv, rfl⟩ := List.mem_map.mp (List.mem_of_getElem? hv9)
    obtain ⟨q1, q2⟩ := (hss' sv).mp hsv
    walk_at "go"
    exact ⟨z5, fun q hq => out H9 none (some (pt : Int)) sv hB9 (Kp.trans kp57 (Kp.trans (Kp.of s78) kp9)) (fm sv q1) q2 (Nat.zero_le _) (by show ((pt : Nat) : Int).natAbs ≤ 960; omega) q hq⟩
theorem KindAt.old {K : PySem.W.Frag} {H : Hp} {a q : Addr} {xs ys : List V} {arm mod : Nat} {h : Int} {es : List Int} {m p sn : Option Int} (x : KindAt K H a arm mod h es m p sn) (hq : H q = some (.lst xs)) : KindAt K (upd H q (.lst ys)) a arm mod h es m p sn := by
  obtain ⟨dx, bk, r, h1, ⟨db, h2⟩, h3⟩ := x
  exact ⟨dx, bk, r, by rw [upd_ne (ne_of_some h1 hq (by intro z; cases z))]; exact h1, ⟨db, by rw [upd_ne (ne_of_some h2 hq (by intro z; cases z))]; exact h2⟩, by rw [upd_ne (ne_of_some h3 hq (by intro z; cases z))]; exact h3⟩
theorem x_makeKS {C : Addr} {n m : Nat} {sp : Sp} {gV : List V → List V → List V} {E : L2.St → XK} {t tk : TA} {σ : L2.St} {H : Hp} {Q : VK} (h : t σ H fun vs H1 => tk σ H1 fun zs H2 => vs.length = n ∧ zs.length = m ∧ ∀ x dx, H2 x = none → H2 dx = none → dx ≠ x →
  sp (gV (.ref x :: vs) zs) (upd (upd H2 dx (.own x)) x (.ins C dx [])) (fun v H3 => v = .non ∧ Q (.ref x) H3) (E σ)) : tMakeKS C n m sp gV E t tk σ H Q := h
/-- Kind(..) may raise: all three ways -/
theorem kind_try {K : PySem.W.Frag} {H : Hp} {x dx xb rp : Addr} {arm mod : Nat} {h : Int} {es : List Int} {m p sn : Option Int} {Q : Hp → Prop} {E : XK} (hx : H x = none) (hd : H dx = none) (hB : BookAt K H xb arm mod) (ha2 : arm ≤ 12) (hm2 : mod ≤ 24) (hrp : H rp = some (.lst (es.map V.int)) ∨ H rp = some (.tup (es.map V.int))) (hl : es.length ≤ 900) (hhb : h.natAbs ≤ 1000000) (hm : m.getD 0 < 1073741824) (hp : p.getD 0 < 1073741824)
    (k1 : Formed h m p sn → brk arm mod h es m p sn = "" → ∀ H', Same H H' → KindAt K H' x arm mod h es m p sn → Q H')
    (k2 : ¬Formed h m p sn → ∀ (why : Str) d H', why ≠ "" → Same H H' → H' d = some (.xd [("why", .str why), ("line", .int 0)]) → E (.ref (He.ga K "BadKind")) (some d) H')
    (k3 : Formed h m p sn → brk arm mod h es m p sn ≠ "" → ∀ d H', Same H H' → H' d = some (.xd [("count", .str (brk arm mod h es m p sn))]) → E (.ref (He.ga K "NotOne")) (some d) H') :
    spKind K [.ref x, .ref xb, .int h, .ref rp, oV m, oV p, oV sn] (upd (upd H dx (.own x)) x (.ins (He.ga K "Kind") dx [])) (fun v H2 => v = .non ∧ Q H2) E := by
  have sm : Same H (upd (upd H dx (.own x)) x (.ins (He.ga K "Kind") dx [])) := same_made hx hd fun _ _ _ z => z
  exact ⟨x, dx, xb, rp, arm, mod, h, es, m, p, sn, rfl, upd_same, hB.same sm, by omega, by omega, hrp.elim (fun e => .inl (sm _ _ e)) (fun e => .inr (sm _ _ e)), hl, hhb, hm, hp, fun a b H' kp hK => ⟨rfl, k1 a b H' (same_made hx hd kp) hK⟩, fun a why d H' ne kp hd' => k2 a why d H' ne (same_made hx hd kp) hd', fun a b d H' kp hd' => k3 a b d H' (same_made hx hd kp) hd'⟩
structure KFacts (K : PySem.W.Frag) (mg : Str → Option Value) : Prop where
  gCE : mg "CombedError" = some (.ref (He.ga K "CombedError"))
  k1 : PySem.W.kitOne K (.ref (He.ga K "BadKind")) (.ref (He.ga K "CombedError")) = some true
  k2 : PySem.W.kitOne K (.ref (He.ga K "BadKind")) (.ref (He.ga K "NotOne")) = some false
  k3 : PySem.W.kitOne K (.ref (He.ga K "NotOne")) (.ref (He.ga K "CombedError")) = some true
  k4 : PySem.W.kitOne K (.ref (He.ga K "NotOne")) (.ref (He.ga K "BadKind")) = some false
  x1 : PySem.W.exmOne K (.ref (He.ga K "BadKind")) (.ref (He.ga K "BadKind")) = some true
  x2 : PySem.W.exmOne K (.ref (He.ga K "NotOne")) (.ref (He.ga K "BadKind")) = some false
  x3 : PySem.W.exmOne K (.ref (He.ga K "NotOne")) (.ref (He.ga K "NotOne")) = some true
def spKindN (K : PySem.W.Frag) : Sp := fun vs H Q E => ∃ (a dx bk rp : Addr) (arm mod : Nat) (h : Int) (es : List Int) (m p sn : Option Int), vs = [.ref a, .ref bk, .int h, .ref rp, oV m, oV p, oV sn] ∧ H a = some (.ins (He.ga K "Kind") dx []) ∧ BookAt K H bk arm mod ∧ arm ≤ 1000 ∧ mod ≤ 1000 ∧ (H rp = some (.lst (es.map V.int)) ∨ H rp = some (.tup (es.map V.int))) ∧ es.length ≤ 900 ∧ h.natAbs ≤ 1000000 ∧ m.getD 0 < 1073741824 ∧ p.getD 0 < 1073741824 ∧ Formed h m p sn ∧
  (brk arm mod h es m p sn = "" → ∀ H', Kp a H H' → KindAt K H' a arm mod h es m p sn → Q .non H') ∧
  (brk arm mod h es m p sn ≠ "" → ∀ d H', Kp a H H' → H' d = some (.xd [("count", .str (brk arm mod h es m p sn))]) → E (.ref (He.ga K "NotOne")) (some d) H')
theorem ok_kindN (B : Bi K mg) (EN : Er1 P K mg "NotOne" (He.ga K "NotOne") "count") (c_ill_formed : C8.Cal P w K mg base 1 "ill_formed" spIll []) (c_broken_count : C8.Cal P w K mg base 3 "broken_count" (spBroken K) []) (F : FnK K f fd) : FnOk P w K mg base (L2N.CX P w) 4 f fd ["self", "book", "handles", "rims", "measure", "share", "balance"] (spKindN K) := by
  refine ok_outN (fun_ofD F) sc_Kind_init (fun vs H Q E h => ?_) (fun cdv A outer s H vs Q E hr h => ?_)
  · obtain ⟨a, dx, bk, rp, arm, mod, hh, es, m, p, sn, rfl, _⟩ := h
    rfl
  · obtain ⟨a, dx, bk, rp, arm, mod, hh, es, m, p, sn, rfl, ha, hB, h1, h2, hrp, hl, hhb, hm, hp, hf, k1, k3⟩ := h
    have G := B
    have cK := G.cls_Kind
    have n1 := G.na_Kind_book
    have n2 := G.na_Kind_handles
    have n3 := G.na_Kind_rims
    have n4 := G.na_Kind_measure
    have n5 := G.na_Kind_share
    have n6 := G.na_Kind_balance
    refine ⟨_, ((pss_cons (ps_set (i := 7) sc_Kind_init.nd rfl (Or.inl rfl) (C8.pe_c c_ill_formed hr (by decide) rfl (pa_cons (pv 2) (pa_cons (pv 4) (pa_cons (pv 5) (pa_cons (pv 6) pa_nil))))))
      (pss_cons (ps_if (pt_cmpR op_noNn (pv 7) pe_non (nomark _))
        (pss_one ps_never)
        pss_nil)
      (pss_cons (ps_fld (pv 0) (pv 1) rfl)
      (pss_cons (ps_fld (pv 0) (pv 2) rfl)
      (C8.pss_cut (ps_fld (pv 0) (pe_callTy (call_tupOf rfl) (by rfl) G.tuple (by decide +kernel) (pa_cons (pv 3) pa_nil)) rfl)
      (pss_cons (ps_fld (pv 0) (pv 4) rfl)
      (pss_cons (ps_fld (pv 0) (pv 5) rfl)
      (pss_cons (ps_fld (pv 0) (pv 6) rfl)
      (pss_cons (ps_set (i := 8) sc_Kind_init.nd rfl (Or.inl rfl) (C8.pe_c c_broken_count hr (by decide) rfl (pa_cons (pv 1) (pa_cons (pv 2) (pa_cons (pe_fld (pv 0) (by rfl)) (pa_cons (pv 4) (pa_cons (pv 5) (pa_cons (pv 6) pa_nil))))))))
      (pss_one (ps_if (pt_cmpR op_noNn (pv 8) pe_non (nomark _))
        (pss_one (ps_raise1 rfl EN hr (L2N.takes_of rfl rfl rfl rfl) (by exact (pa_cons (pv 8) pa_nil))))
        pss_nil)))))))))))), ?_⟩
    try dsimp only [cxOf]
    walk_at "go"
    refine ⟨hh, m, p, sn, rfl, fun v H1 s1 v1 v2 => ?_⟩
    walk_at "go"
    have := v1 hf
    subst this
    rw [decide_eq_true rfl]
    walk_at "go"
    obtain ⟨dxb, hB0⟩ := id hB
    have bka : bk ≠ a := ne_of_some hB0 ha (by intro z; injection z with _ _ z3; cases z3)
    have ha1 := s1 _ _ ha
    refine x_sfldI (fs' := [("book", .ref bk)]) ha1 cK n1 rfl (by decide) ?_
    walk_at "go"
    refine x_sfldI (fs' := [("book", .ref bk), ("handles", .int hh)]) upd_same cK n2 rfl (by show 1 < 1000; decide) ?_
    rw [upd_upd]
    have kp1 : Kp a H (upd H1 a (.ins (He.ga K "Kind") dx [("book", .ref bk), ("handles", .int hh)])) := Kp.upd (Kp.of s1)
    have ha2 : (upd H1 a (.ins (He.ga K "Kind") dx [("book", .ref bk), ("handles", .int hh)])) a = some (.ins (He.ga K "Kind") dx [("book", .ref bk), ("handles", .int hh)]) := upd_same
    revert kp1 ha2
    generalize upd H1 a (.ins (He.ga K "Kind") dx [("book", .ref bk), ("handles", .int hh)]) = H2
    intro kp1 ha2
    refine x_cut (fun σ H' => ∃ r : Addr, r ≠ a ∧ Kp a H H' ∧ H' r = some (.tup (es.map V.int)) ∧ H' a = some (.ins (He.ga K "Kind") dx [("book", .ref bk), ("handles", .int hh), ("rims", .ref r)]) ∧ σ = [some (.ref a), some (.ref bk), some (.int hh), some (.ref rp), some (oV m), some (oV p), some (oV sn), some .non, none]) ?_ ?_
    · rcases hrp with hrp | hrp
      · have rpa : rp ≠ a := ne_of_some hrp ha (by intro z; cases z)
        have hrp2 := kp1 _ _ rpa hrp
        walk_at "go"
        refine x_tupL (SqL.of hrp2) fun q hq => ?_
        have qa : q ≠ a := fun e => by rw [e, ha2] at hq; cases hq
        walk_at "go"
        refine x_sfldI (fs' := [("book", .ref bk), ("handles", .int hh), ("rims", .ref q)]) (upd_old hq ha2) cK n3 rfl (by show 2 < 1000; decide) ?_
        exact ⟨q, qa, Kp.upd (Kp.trans kp1 (Kp.of (Same.new hq))), by rw [upd_ne qa]; exact upd_same, upd_same, rfl⟩
      · have rpa : rp ≠ a := ne_of_some hrp ha (by intro z; cases z)
        have hrp2 := kp1 _ _ rpa hrp
        walk_at "go"
        refine x_tupT (SqT.of hrp2) ?_
        walk_at "go"
        refine x_sfldI (fs' := [("book", .ref bk), ("handles", .int hh), ("rims", .ref rp)]) ha2 cK n3 rfl (by show 2 < 1000; decide) ?_
        exact ⟨rp, rpa, Kp.upd kp1, by rw [upd_ne rpa]; exact hrp2, upd_same, rfl⟩
    rintro σ H3 ⟨r, ra, kp3, hr3, ha3, rfl⟩
    walk_at "go"
    refine x_sfldI (fs' := [("book", .ref bk), ("handles", .int hh), ("rims", .ref r), ("measure", oV m)]) ha3 cK n4 rfl (by show 3 < 1000; decide) ?_
    walk_at "go"
    refine x_sfldI (fs' := [("book", .ref bk), ("handles", .int hh), ("rims", .ref r), ("measure", oV m), ("share", oV p)]) upd_same cK n5 rfl (by show 4 < 1000; decide) ?_
    rw [upd_upd]
    walk_at "go"
    refine x_sfldI (fs' := [("book", .ref bk), ("handles", .int hh), ("rims", .ref r), ("measure", oV m), ("share", oV p), ("balance", oV sn)]) upd_same cK n6 rfl (by show 5 < 1000; decide) ?_
    rw [upd_upd]
    have kp4 : Kp a H (upd H3 a (.ins (He.ga K "Kind") dx [("book", .ref bk), ("handles", .int hh), ("rims", .ref r), ("measure", oV m), ("share", oV p), ("balance", oV sn)])) := Kp.upd kp3
    have ha4 : (upd H3 a (.ins (He.ga K "Kind") dx [("book", .ref bk), ("handles", .int hh), ("rims", .ref r), ("measure", oV m), ("share", oV p), ("balance", oV sn)])) a = some (.ins (He.ga K "Kind") dx [("book", .ref bk), ("handles", .int hh), ("rims", .ref r), ("measure", oV m), ("share", oV p), ("balance", oV sn)]) := upd_same
    have hr4 : (upd H3 a (.ins (He.ga K "Kind") dx [("book", .ref bk), ("handles", .int hh), ("rims", .ref r), ("measure", oV m), ("share", oV p), ("balance", oV sn)])) r = some (.tup (es.map V.int)) := by rw [upd_ne ra]; exact hr3
    revert kp4 ha4 hr4
    generalize upd H3 a (.ins (He.ga K "Kind") dx [("book", .ref bk), ("handles", .int hh), ("rims", .ref r), ("measure", oV m), ("share", oV p), ("balance", oV sn)]) = H4
    intro kp4 ha4 hr4
    have hB4 : BookAt K H4 bk arm mod := ⟨dxb, kp4 _ _ bka hB0⟩
    walk_at "go"
    have hf' := hf
    unfold Formed at hf'
    refine ⟨bk, r, arm, mod, hh, es, m, p, sn, rfl, hB4, h1, h2, SqT.of hr4, hl, hhb, fun e => ?_, fun e => ?_, hm, hp, fun H5 s5 => ?_⟩
    · have := hf'.2.1.mpr e
      intro z; rw [z] at this; cases this
    · have := hf'.2.2.1.mpr e
      intro z; rw [z] at this; cases this
    have kp5 := Kp.trans kp4 (Kp.of s5)
    walk_at "go"
    unfold tV
    by_cases hb : brk arm mod hh es m p sn = ""
    · rw [if_pos hb]
      rw [decide_eq_true rfl]
      walk_at "go"
      exact k1 hb H5 kp5 ⟨dx, bk, r, s5 _ _ ha4, hB4.same s5, s5 _ _ hr4⟩
    · rw [if_neg hb]
      rw [decide_eq_false (fun z => by cases z)]
      walk_at "go"
      refine x_raise1 ?_
      walk_at "go"
      exact ⟨_, rfl, fun d hd => k3 hb d _ (Kp.trans kp5 (Kp.of (Same.new hd))) upd_same⟩
theorem kind_tryN {K : PySem.W.Frag} {H : Hp} {x dx xb rp : Addr} {arm mod : Nat} {h : Int} {es : List Int} {m p sn : Option Int} {Q : Hp → Prop} {E : XK} (hx : H x = none) (hd : H dx = none) (hB : BookAt K H xb arm mod) (ha2 : arm ≤ 12) (hm2 : mod ≤ 24) (hrp : H rp = some (.lst (es.map V.int)) ∨ H rp = some (.tup (es.map V.int))) (hl : es.length ≤ 900) (hhb : h.natAbs ≤ 1000000) (hm : m.getD 0 < 1073741824) (hp : p.getD 0 < 1073741824) (hf : Formed h m p sn)
    (k1 : brk arm mod h es m p sn = "" → ∀ H', Same H H' → KindAt K H' x arm mod h es m p sn → Q H')
    (k3 : brk arm mod h es m p sn ≠ "" → ∀ d H', Same H H' → H' d = some (.xd [("count", .str (brk arm mod h es m p sn))]) → E (.ref (He.ga K "NotOne")) (some d) H') :
    spKindN K [.ref x, .ref xb, .int h, .ref rp, oV m, oV p, oV sn] (upd (upd H dx (.own x)) x (.ins (He.ga K "Kind") dx [])) (fun v H2 => v = .non ∧ Q H2) E := by
  have sm : Same H (upd (upd H dx (.own x)) x (.ins (He.ga K "Kind") dx [])) := same_made hx hd fun _ _ _ z => z
  exact ⟨x, dx, xb, rp, arm, mod, h, es, m, p, sn, rfl, upd_same, hB.same sm, by omega, by omega, hrp.elim (fun e => .inl (sm _ _ e)) (fun e => .inr (sm _ _ e)), hl, hhb, hm, hp, hf, fun b H' kp hK => ⟨rfl, k1 b H' (same_made hx hd kp) hK⟩, fun b d H' kp hd' => k3 b d H' (same_made hx hd kp) hd'⟩
section
variable {σ : L2.St} {H : Hp} {Q : VK}
theorem x_callS {sp : Sp} {E : L2.St → XK} {tr : TA} (h : tr σ H fun vs H1 => sp vs H1 Q (E σ)) : tCallS sp E tr σ H Q := h
theorem x_xf {a C dd : Addr} {cls : Value} {g : Str} {fs : List (Str × V)} {v : V} {k : Nat} (ec : cls = .ref C) (e : σ[k]? = some (some (.ref a))) (hd : H dd = some (.xd fs)) (hl : fs.lookup g = some v) (h : Q v H) : tXf a cls (some dd) C g (tVar k) σ H Q :=
  x_var e ⟨rfl, ec, dd, fs, v, rfl, hd, hl, h⟩
end
theorem vals_rev {zs : List V} {ws : List Value} (r : Vals zs ws) : Vals zs.reverse ws.reverse := by
  have key : ∀ {zs : List V} {ws : List Value} (az : List V) (aw : List Value), Vals zs ws → Vals az aw → Vals (zs.reverseAux az) (ws.reverseAux aw) := by
    intro zs
    induction zs with
    | nil => intro ws az aw r q; cases r; exact q
    | cons z zs ih => intro ws az aw r q; cases r with | cons h t => (have k := ih (z :: az) (_ :: aw) t (.cons h q); exact k)
  exact key [] [] r .nil
theorem takesN0 {X : Cx} : L2N.Takes X (fun _ _ _ _ => False) := fun _ _ x => by
  obtain ⟨_, _, _, _, _, _, _, _, _, _, _, _, _, _, _, _, z⟩ := x
  exact z.elim
/-- a def that may be called, whatever it lets out -/
structure CalX (P : Program) (w : World) (K : PySem.W.Frag) (mg : Str → Option Value) (base : Heap) (k : Nat) (x : Str) (ps : List Str) (sp : Sp) : Prop where
  ex : ∃ (f : Addr) (fd : FuncData), FnOk P w K mg base (L2N.CX P w) k f fd ps sp ∧ mg x = some (.ref f) ∧ PySem.W.keepIn K (.ref f) = true ∧ Binds K fd ps []
/-- a def that may be called where an error is handled -/
structure CalH (P : Program) (w : World) (K : PySem.W.Frag) (mg : Str → Option Value) (base : Heap) (k : Nat) (x : Str) (ps : List Str) (sp : Sp) : Prop where
  ex : ∃ (f : Addr) (fd : FuncData), L2H.FnH P w K mg base CX0 k f fd ps sp ∧ mg x = some (.ref f) ∧ PySem.W.keepIn K (.ref f) = true ∧ Binds K fd ps []
theorem hot_suite {X : Cx} {a : Addr} {oe : Obj} {cls : Value} {d : Option Addr} {pn : List (Addr × Obj)} (hz : L2N.Zn cls d oe) (hf : ∃ vs, oe.data = .fields vs) : L2H.HotC (X.suite a ((a, oe) :: pn)) := by
  obtain ⟨vs, e⟩ := hf
  exact ⟨(a, oe), ⟨rfl, vs, e, hz.2.2 vs e⟩, List.mem_cons_self ..⟩
/-! ### texts alike, asked where an error is handled -/
def spLikeS : Sp := fun vs H Q _ => ∃ i j : Str, vs = [.str i, .str j] ∧ Q (.bl (decide (i = j))) H
theorem x_isSf {K : PySem.W.Frag} {H : Hp} {Q : VK} {z : Str} {n : String} (e : PySem.W.kitOne K (.type "str") (.type n) = some false) (h : Q (.bl false) H) : rIsi K [.str z, .ty n] H Q := x_isTy (.str _) e h
theorem ok_likeH (B : Bi K mg) (F : FnP K "_law_like" st_l_like f fd) : L2H.FnH P w K mg base CX0 1 f fd ["told", "due"] spLikeS := by
  obtain ⟨⟨oc, od, kV, doc, pm, an, cdv, ct, osl, rfl, lk, hcd⟩, kp⟩ := fun_ofD F
  refine L2H.fn_ofH lk hcd sc_l_like (fun vs H Q E h => ?_) (fun A outer s H vs Q E p hot hr h => ?_)
  · obtain ⟨i, j, rfl, _⟩ := h
    rfl
  · obtain ⟨i, j, rfl, k⟩ := h
    have G := B
    refine ⟨_, PSs.nox ((pss_cons (ps_if (PW.pt (pw_or (pt_val (pe_callB call_isi (by rfl) G.isinstance (by decide +kernel) (pa_cons (pv 1) (pa_cons (pe_bltn (v := .ty "list") (u := .type "list") (by rfl) G.list (by decide +kernel) rfl) pa_nil)))) (pw_or1 (pt_val (pe_callB call_isi (by rfl) G.isinstance (by decide +kernel) (pa_cons (pv 1) (pa_cons (pe_bltn (v := .ty "tuple") (u := .type "tuple") (by rfl) G.tuple (by decide +kernel) rfl) pa_nil)))))))
        (pss_cons ps_never
        (pss_one ps_never))
        pss_nil)
      (pss_cons (ps_if (pt_val (pe_callB call_isi (by rfl) G.isinstance (by decide +kernel) (pa_cons (pv 1) (pa_cons (pe_bltn (v := .ty "dict") (u := .type "dict") (by rfl) G.dict (by decide +kernel) rfl) pa_nil))))
        (pss_cons ps_never
        (pss_one ps_never))
        pss_nil)
      (pss_cons (ps_if (PW.pt (pw_or (pt_cmpR op_ne (pe_callB call_isi (by rfl) G.isinstance (by decide +kernel) (pa_cons (pv 0) (pa_cons (pe_bltn (v := .ty "bool") (u := .type "bool") (by rfl) G.bool (by decide +kernel) rfl) pa_nil))) (pe_callB call_isi (by rfl) G.isinstance (by decide +kernel) (pa_cons (pv 1) (pa_cons (pe_bltn (v := .ty "bool") (u := .type "bool") (by rfl) G.bool (by decide +kernel) rfl) pa_nil))) (nomark _)) (pw_or1 (pt_cmpR op_ne (pe_callB call_isi (by rfl) G.isinstance (by decide +kernel) (pa_cons (pv 0) (pa_cons (pe_bltn (v := .ty "int") (u := .type "int") (by rfl) G.int (by decide +kernel) rfl) pa_nil))) (pe_callB call_isi (by rfl) G.isinstance (by decide +kernel) (pa_cons (pv 1) (pa_cons (pe_bltn (v := .ty "int") (u := .type "int") (by rfl) G.int (by decide +kernel) rfl) pa_nil))) (nomark _)))))
        (pss_one (ps_ret pe_bl))
        pss_nil)
      (pss_one (ps_ret (pe_ifExp (pt_cmpR op_isNn (pv 1) pe_non (nomark _)) (pe_cmpR op_isNn (pv 0) pe_non (nomark _)) (pe_and (pe_cmpR op_eq (pe_callB call_isi (by rfl) G.isinstance (by decide +kernel) (pa_cons (pv 0) (pa_cons (pe_bltn (v := .ty "str") (u := .type "str") (by rfl) G.str (by decide +kernel) rfl) pa_nil))) (pe_callB call_isi (by rfl) G.isinstance (by decide +kernel) (pa_cons (pv 1) (pa_cons (pe_bltn (v := .ty "str") (u := .type "str") (by rfl) G.str (by decide +kernel) rfl) pa_nil))) (nomark _)) (pe_one (pe_cmpR op_eq (pv 0) (pv 1) (nomark _))))))))))), ?_⟩
    try dsimp only [cxOf, L2H.cxH]
    walk_at "go"
    refine x_isSf (kit_ty (by decide +kernel)) ?_
    walk_at "go"
    refine x_isSf (kit_ty (by decide +kernel)) ?_
    walk_at "go"
    refine x_isSf (kit_ty (by decide +kernel)) ?_
    walk_at "go"
    refine x_isSf (kit_ty (by decide +kernel)) ?_
    walk_at "go"
    refine x_isSf (kit_ty (by decide +kernel)) ?_
    walk_at "go"
    rw [decide_eq_true rfl]
    walk_at "go"
    refine x_isSf (kit_ty (by decide +kernel)) ?_
    walk_at "go"
    refine x_isSf (kit_ty (by decide +kernel)) ?_
    walk_at "go"
    rw [decide_eq_true rfl]
    walk_at "go"
    rw [decide_eq_false (fun z : V.str j = V.non => by cases z)]
    walk_at "go"
    rw [decide_eq_true rfl]
    walk_at "go"
    exact k
def spLikeI : Sp := fun vs H Q _ => ∃ i j : Int, vs = [.int i, .int j] ∧ Q (.bl (decide (i = j))) H
theorem ok_likeHi (B : Bi K mg) (F : FnP K "_law_like" st_l_like f fd) : L2H.FnH P w K mg base CX0 1 f fd ["told", "due"] spLikeI := by
  obtain ⟨⟨oc, od, kV, doc, pm, an, cdv, ct, osl, rfl, lk, hcd⟩, kp⟩ := fun_ofD F
  refine L2H.fn_ofH lk hcd sc_l_like (fun vs H Q E h => ?_) (fun A outer s H vs Q E p hot hr h => ?_)
  · obtain ⟨i, j, rfl, _⟩ := h
    rfl
  · obtain ⟨i, j, rfl, k⟩ := h
    have G := B
    refine ⟨_, PSs.nox ((pss_cons (ps_if (PW.pt (pw_or (pt_val (pe_callB call_isi (by rfl) G.isinstance (by decide +kernel) (pa_cons (pv 1) (pa_cons (pe_bltn (v := .ty "list") (u := .type "list") (by rfl) G.list (by decide +kernel) rfl) pa_nil)))) (pw_or1 (pt_val (pe_callB call_isi (by rfl) G.isinstance (by decide +kernel) (pa_cons (pv 1) (pa_cons (pe_bltn (v := .ty "tuple") (u := .type "tuple") (by rfl) G.tuple (by decide +kernel) rfl) pa_nil)))))))
        (pss_cons ps_never
        (pss_one ps_never))
        pss_nil)
      (pss_cons (ps_if (pt_val (pe_callB call_isi (by rfl) G.isinstance (by decide +kernel) (pa_cons (pv 1) (pa_cons (pe_bltn (v := .ty "dict") (u := .type "dict") (by rfl) G.dict (by decide +kernel) rfl) pa_nil))))
        (pss_cons ps_never
        (pss_one ps_never))
        pss_nil)
      (pss_cons (ps_if (PW.pt (pw_or (pt_cmpR op_ne (pe_callB call_isi (by rfl) G.isinstance (by decide +kernel) (pa_cons (pv 0) (pa_cons (pe_bltn (v := .ty "bool") (u := .type "bool") (by rfl) G.bool (by decide +kernel) rfl) pa_nil))) (pe_callB call_isi (by rfl) G.isinstance (by decide +kernel) (pa_cons (pv 1) (pa_cons (pe_bltn (v := .ty "bool") (u := .type "bool") (by rfl) G.bool (by decide +kernel) rfl) pa_nil))) (nomark _)) (pw_or1 (pt_cmpR op_ne (pe_callB call_isi (by rfl) G.isinstance (by decide +kernel) (pa_cons (pv 0) (pa_cons (pe_bltn (v := .ty "int") (u := .type "int") (by rfl) G.int (by decide +kernel) rfl) pa_nil))) (pe_callB call_isi (by rfl) G.isinstance (by decide +kernel) (pa_cons (pv 1) (pa_cons (pe_bltn (v := .ty "int") (u := .type "int") (by rfl) G.int (by decide +kernel) rfl) pa_nil))) (nomark _)))))
        (pss_one (ps_ret pe_bl))
        pss_nil)
      (pss_one (ps_ret (pe_ifExp (pt_cmpR op_isNn (pv 1) pe_non (nomark _)) (pe_cmpR op_isNn (pv 0) pe_non (nomark _)) (pe_and (pe_cmpR op_eq (pe_callB call_isi (by rfl) G.isinstance (by decide +kernel) (pa_cons (pv 0) (pa_cons (pe_bltn (v := .ty "str") (u := .type "str") (by rfl) G.str (by decide +kernel) rfl) pa_nil))) (pe_callB call_isi (by rfl) G.isinstance (by decide +kernel) (pa_cons (pv 1) (pa_cons (pe_bltn (v := .ty "str") (u := .type "str") (by rfl) G.str (by decide +kernel) rfl) pa_nil))) (nomark _)) (pe_one (pe_cmpR op_eq (pv 0) (pv 1) (nomark _))))))))))), ?_⟩
    try dsimp only [cxOf, L2H.cxH]
    walk_at "go"
    rw [decide_eq_true rfl]
    walk_at "go"
    rw [decide_eq_true rfl]
    walk_at "go"
    rw [decide_eq_false (fun z : V.int j = V.non => by cases z)]
    walk_at "go"
    rw [decide_eq_true rfl]
    walk_at "go"
    exact k
/-! ### block words: handles, then loops -/
def nmW (i : Nat) : Str := SX.S [97 + i]
theorem nmW_inj {i j : Nat} (e : nmW i = nmW j) : i = j := by
  have : (SX.S [97 + i]).cps = (SX.S [97 + j]).cps := congrArg PySem.Str.cps e
  have : [97 + i] = [97 + j] := congrArg Array.toList this
  injection this with this _
  omega
theorem nmW_name {i : Nat} (h : i < 26) : IsName (nmW i) := ⟨97 + i, [], rfl, by omega, by omega, by decide, fun d hd => by cases hd⟩
def bIx (h p : Nat) : Nat := if p < 4 * h then 2 * (p / 4) + p % 2 else 2 * h + (p - 4 * h) / 2
def blkW (h k : Nat) : List Str := (List.range (4 * h + 2 * k)).map fun p => nmW (bIx h p)
def mtB (h p : Nat) : Nat := if p < 4 * h then (if p % 4 < 2 then p + 2 else p - 2) else (if (p - 4 * h) % 2 = 0 then p + 1 else p - 1)
theorem blkW_len (h k : Nat) : (blkW h k).length = 4 * h + 2 * k := by unfold blkW; rw [List.length_map, List.length_range]
theorem blkW_at {h k p : Nat} (hp : p < 4 * h + 2 * k) : (blkW h k)[p]? = some (nmW (bIx h p)) := by
  unfold blkW
  rw [List.getElem?_map, List.getElem?_range hp]; rfl
theorem blkW_word : ∀ h, h < 4 → ∀ k, k < 4 → IsWord (blkW h k) := by
  have h1 : ∀ h, h < 4 → ∀ k, k < 4 → ∀ n ∈ blkW h k, (blkW h k).count n = 2 := by decide +kernel
  refine fun h hh k hk => ⟨h1 h hh k hk, fun n hn => ?_⟩
  obtain ⟨p, hp, rfl⟩ := List.mem_map.mp hn
  have hp := List.mem_range.mp hp
  show IsName (nmW (bIx h p))
  refine nmW_name ?_
  unfold bIx
  by_cases c : p < 4 * h
  · rw [if_pos c]; omega
  · rw [if_neg c]; omega
theorem blkW_bands : ∀ h, h < 4 → ∀ k, k < 4 → bandsOf (blkW h k) = (List.range (2 * h + k)).map nmW := by decide +kernel
def tabB (h k : Nat) : List (List Bool) := (List.range (2 * h + k)).map fun a => (List.range (2 * h + k)).map fun b => decide (a < 2 * h) && (decide (a % 2 = 0) && decide (b = a + 1) || decide (a % 2 = 1) && decide (b + 1 = a))
theorem blkW_tab : ∀ h, h < 4 → ∀ k, k < 4 → tabW (blkW h k) = tabB h k := by decide +kernel
theorem blkW_mt {h k p : Nat} (hh : h < 4) (hk : k < 4) (hp : p < 4 * h + 2 * k) : mtW (blkW h k) p = mtB h p := by
  have hw := blkW_word h hh k hk
  obtain ⟨f1, f2, f3, f4, f5⟩ := mt_facts hw (by rw [blkW_len]; exact hp : p < (blkW h k).length)
  have hm : mtB h p < 4 * h + 2 * k ∧ bIx h (mtB h p) = bIx h p ∧ mtB h p ≠ p := by
    unfold mtB bIx
    by_cases c : p < 4 * h
    · rw [if_pos c]
      by_cases d : p % 4 < 2
      · rw [if_pos d, if_pos (by omega), if_pos c]
        omega
      · rw [if_neg d, if_pos (by omega), if_pos c]
        omega
    · rw [if_neg c]
      by_cases d : (p - 4 * h) % 2 = 0
      · rw [if_pos d, if_neg (by omega), if_neg c]
        omega
      · rw [if_neg d, if_neg (by omega), if_neg c]
        omega
  have := f5 (mtB h p) (by rw [blkW_at hm.1, blkW_at hp, hm.2.1])
  rcases this with e | e
  · exact absurd e hm.2.2
  · exact e.symm
def InL (h p : Nat) : Prop := 4 * h ≤ p ∧ (p - 4 * h) % 2 = 0
theorem mtB_a {h p : Nat} (c : p < 4 * h) (d : p % 4 < 2) : mtB h p = p + 2 := by unfold mtB; rw [if_pos c, if_pos d]
theorem mtB_b {h p : Nat} (c : p < 4 * h) (d : 2 ≤ p % 4) : mtB h p = p - 2 := by unfold mtB; rw [if_pos c, if_neg (by omega)]
theorem mtB_c {h p : Nat} (c : 4 * h ≤ p) (d : (p - 4 * h) % 2 = 0) : mtB h p = p + 1 := by unfold mtB; rw [if_neg (by omega), if_pos d]
theorem mtB_d {h p : Nat} (c : 4 * h ≤ p) (d : (p - 4 * h) % 2 = 1) : mtB h p = p - 1 := by unfold mtB; rw [if_neg (by omega), if_neg (by omega)]
theorem blk_fix {h k p : Nat} (hh : h < 4) (hk : k < 4) (hp : p < 4 * h + 2 * k) (hi : InL h p) : nxW (blkW h k) p = p := by
  obtain ⟨i1, i2⟩ := hi
  unfold nxW Rk.prv
  rw [blkW_mt hh hk hp, mtB_c i1 i2, if_neg (by omega)]
  omega
/-- all other rims' places lead to the last one -/
theorem blk_last {h k : Nat} (hh : h < 4) (hk : k < 4) {C : List Nat} (hC : Clo (blkW h k) C) : ∀ p, p ∈ C → ¬InL h p → 4 * h + 2 * k - 1 ∈ C := by
  intro p
  induction p using Nat.strongRecOn with
  | _ p ih =>
    intro hp hi
    have hpl : p < 4 * h + 2 * k := by have := hC.lt p hp; rwa [blkW_len] at this
    have step : ∀ q, q ∈ C → q < 4 * h + 2 * k → ∀ m r, mtB h q = m → ((m = 0 ∧ r = 4 * h + 2 * k - 1) ∨ (m = r + 1)) → r ∈ C := fun q hq hql m r em hr => by
      have := hC.nx q hq
      unfold nxW Rk.prv at this
      rw [blkW_mt hh hk hql, blkW_len, em] at this
      rcases hr with ⟨e1, e2⟩ | e
      · rw [if_pos e1] at this; rw [e2]; exact this
      · rw [if_neg (by omega), show m - 1 = r by omega] at this; exact this
    by_cases c : p < 4 * h
    · -- a handle's foot
      have d1 : 4 * (p / 4) + 3 ∈ C → 4 * (p / 4) ∈ C := fun z => step _ z (by omega) _ _ (mtB_b (by omega) (by omega)) (.inr (by omega))
      have d2 : 4 * (p / 4) ∈ C → 4 * (p / 4) + 1 ∈ C := fun z => step _ z (by omega) _ _ (mtB_a (by omega) (by omega)) (.inr (by omega))
      have d3 : 4 * (p / 4) + 1 ∈ C → 4 * (p / 4) + 2 ∈ C := fun z => step _ z (by omega) _ _ (mtB_a (by omega) (by omega)) (.inr (by omega))
      have h2 : 4 * (p / 4) + 2 ∈ C := by
        have : p = 4 * (p / 4) ∨ p = 4 * (p / 4) + 1 ∨ p = 4 * (p / 4) + 2 ∨ p = 4 * (p / 4) + 3 := by omega
        rcases this with e | e | e | e
        · exact d3 (d2 (e ▸ hp))
        · exact d3 (e ▸ hp)
        · exact e ▸ hp
        · exact d3 (d2 (d1 (e ▸ hp)))
      by_cases z : p / 4 = 0
      · exact step _ h2 (by omega) _ _ (mtB_b (by omega) (by omega)) (.inl ⟨by omega, rfl⟩)
      · exact ih (4 * (p / 4) - 1) (by omega) (step _ h2 (by omega) _ _ (mtB_b (by omega) (by omega)) (.inr (by omega))) fun z => by have := z.1; omega
    · have hodd : (p - 4 * h) % 2 = 1 := by
        unfold InL at hi
        omega
      by_cases z : p = 1
      · exact step p hp hpl _ _ (mtB_d (by omega) hodd) (.inl ⟨by omega, rfl⟩)
      · refine ih (p - 2) (by omega) (step p hp hpl _ _ (mtB_d (by omega) hodd) (.inr (by omega))) fun z => ?_
        have := z.1
        have := z.2
        omega
/-! ### the rims of a block sheet -/
def blkO (arm mod h k : Nat) (gv : Nat → Int) : Own := ⟨arm, mod, blkW h k, (List.range (2 * h + k)).map fun i => (nmW i, redN mod (gv i))⟩
theorem nmW_nodup (n : Nat) : ((List.range n).map nmW).Nodup := Rk.nd_map List.nodup_range fun x _ y _ e => nmW_inj e
theorem blkO_keys (arm mod h k : Nat) (gv : Nat → Int) : (blkO arm mod h k gv).nums.map (·.1) = (List.range (2 * h + k)).map nmW := by
  unfold blkO
  rw [List.map_map]; rfl
theorem blkO_get {arm mod h k : Nat} {gv : Nat → Int} {i : Nat} (hi : i < 2 * h + k) : aGet (blkO arm mod h k gv).nums (nmW i) = some (redN mod (gv i)) :=
  aGet_nodup (l := (blkO arm mod h k gv).nums) (p := (nmW i, redN mod (gv i))) (by rw [blkO_keys]; exact nmW_nodup _) (List.mem_map.mpr ⟨i, List.mem_range.mpr hi, rfl⟩)
theorem redN_uniq {mod : Nat} {x r : Int} (h : 0 < mod → 0 ≤ r ∧ r < (mod : Int)) (d : (mod : Int) ∣ x - r) : redN mod x = r := by
  unfold redN
  split
  · rename_i e
    rw [e] at d
    have := Int.zero_dvd.mp d
    omega
  · rename_i e
    obtain ⟨a, b⟩ := h (by omega)
    obtain ⟨c, hc⟩ := d
    rw [show x = r + (mod : Int) * c by omega, Int.add_mul_emod_self_left]
    exact Int.emod_eq_of_lt a b
theorem blk_loop {arm mod h k : Nat} {gv : Nat → Int} (hh : h < 4) (hk : k < 4) {j : Nat} (hj : j < k) {r : Int} (hg : gv (2 * h + j) = r + (arm : Int)) (hr : 0 < mod → 0 ≤ r ∧ r < (mod : Int)) : rNum (blkO arm mod h k gv) [4 * h + 2 * j] = r := by
  have hp : 4 * h + 2 * j < 4 * h + 2 * k := by omega
  have e1 : mtW (blkW h k) (4 * h + 2 * j) = 4 * h + 2 * j + 1 := by rw [blkW_mt hh hk hp, mtB_c (by omega) (by omega)]
  have e2 : numAt (blkO arm mod h k gv) (4 * h + 2 * j) = redN mod (gv (2 * h + j)) := by
    unfold numAt
    have : (blkO arm mod h k gv).feet[4 * h + 2 * j]? = some (nmW (2 * h + j)) := by
      have e := blkW_at hp
      unfold bIx at e
      rw [if_neg (by omega), show (4 * h + 2 * j - 4 * h) / 2 = j by omega] at e
      exact e
    rw [this]
    show (aGet (blkO arm mod h k gv).nums (nmW (2 * h + j))).getD 0 = _
    rw [blkO_get (by omega)]; rfl
  have e3 : rHa (blkW h k) [4 * h + 2 * j] = -2 := by
    show haN (blkW h k) (4 * h + 2 * j) + 0 = -2
    unfold haN
    rw [e1, if_pos (by omega), if_neg (by omega)]; rfl
  have e4 : rWo (blkO arm mod h k gv) [4 * h + 2 * j] = redN mod (r + (arm : Int)) := by
    show woN (blkO arm mod h k gv) (4 * h + 2 * j) + 0 = _
    unfold woN
    rw [show mtW (blkO arm mod h k gv).feet (4 * h + 2 * j) = 4 * h + 2 * j + 1 from e1, if_pos (by omega), e2, hg]
    omega
  unfold rNum
  rw [e4, show rHa (blkO arm mod h k gv).feet [4 * h + 2 * j] = -2 from e3]
  refine redN_uniq hr ?_
  show (mod : Int) ∣ (arm : Int) * (-2 / 2) + redN mod (r + (arm : Int)) - r
  rw [show (arm : Int) * (-2 / 2) + redN mod (r + (arm : Int)) - r = redN mod (r + (arm : Int)) - (r + (arm : Int)) by rw [show (-2 / 2 : Int) = -1 from rfl]; omega]
  exact red_sub _ _
theorem nodup_flat {Cs : List (List Nat)} : Cs.flatten.Nodup → ∀ C ∈ Cs, C.Nodup := by
  induction Cs with
  | nil => intro _ C h; cases h
  | cons D Cs ih =>
    intro h C hC
    rw [List.flatten_cons] at h
    obtain ⟨h1, h2, _⟩ := List.nodup_append.mp h
    rcases List.mem_cons.mp hC with e | e
    · rw [e]; exact h1
    · exact ih h2 C e
theorem flat_one {Cs : List (List Nat)} : (∀ C ∈ Cs, ∃ p, C = [p]) → Cs = Cs.flatten.map fun p => [p] := by
  induction Cs with
  | nil => intro _; rfl
  | cons D Cs ih =>
    intro h
    obtain ⟨p, rfl⟩ := h D (List.mem_cons_self ..)
    rw [List.flatten_cons, List.singleton_append, List.map_cons, ← ih fun C hC => h C (List.mem_cons_of_mem _ hC)]
theorem blk_rims {arm mod h k : Nat} {gv : Nat → Int} {ini : List Int} {la : Int} (hh : h < 4) (hk : k < 4) (hl : ini.length = k) (hg : ∀ j r, ini[j]? = some r → gv (2 * h + j) = r + (arm : Int)) (hr : RimsOk mod (ini ++ [la])) (hs : SumOk arm mod (h : Int) (ini ++ [la])) {es : List (Int × List Str × Bool)} (hE : RimsL (blkO arm mod h k gv) es) : (es.map (·.1)).Perm (ini ++ [la]) := by
  obtain ⟨_, _, hb⟩ := hr
  have hw := blkW_word h hh k hk
  have hsum := rims_sum (S := blkO arm mod h k gv) hw hE
  have hbn : (bandsOf (blkO arm mod h k gv).feet).length = 2 * h + k := by
    show (bandsOf (blkW h k)).length = _
    rw [blkW_bands h hh k hk, List.length_map, List.length_range]
  rw [hbn] at hsum
  unfold SumOk at hs
  rw [List.sum_append, List.sum_singleton, List.length_append, List.length_singleton, hl] at hs
  have hla := fun m => hb m la (List.mem_append_right _ (List.mem_singleton.mpr rfl))
  -- the last number is told by the sum
  have fin : ∀ x : Int, (mod : Int) ∣ redN mod x + ini.sum - (arm : Int) * (1 - ((2 * h + k : Nat) : Int)) → redN mod x = la := fun x hx => by
    refine redN_uniq hla ?_
    obtain ⟨a, ha⟩ := hx
    obtain ⟨b, hb⟩ := hs
    obtain ⟨c, hc⟩ := red_sub mod x
    refine ⟨a - b - c, ?_⟩
    rw [Int.mul_sub, Int.mul_sub, ← ha, ← hb, ← hc]
    have : (arm : Int) * (2 - 2 * (h : Int) - ((k + 1 : Nat) : Int)) = (arm : Int) * (1 - ((2 * h + k : Nat) : Int)) := by congr 1; omega
    rw [this]
    omega
  rcases hE with ⟨he, rfl⟩ | ⟨hn, Cs, hC, rfl⟩
  · have h0 : (blkW h k).length = 0 := by rw [show blkW h k = [] from he]; rfl
    rw [blkW_len] at h0
    have : ini = [] := List.eq_nil_of_length_eq_zero (by omega)
    subst this
    rw [List.nil_append]
    have e := fin (arm : Int) (by rw [show (([] : List Int).sum) = 0 from rfl]; exact hsum)
    show [redN mod (arm : Int)].Perm [la]
    rw [e]
  · have hn2 : 0 < 4 * h + 2 * k := by
      rw [← blkW_len]
      exact List.length_pos_iff.mpr hn
    obtain ⟨Cz, hCz, hz⟩ := List.mem_flatten.mp (hC.all (4 * h + 2 * k - 1) (by show _ < (blkW h k).length; rw [blkW_len]; omega))
    obtain ⟨A, B, rfl⟩ := List.append_of_mem hCz
    have hp : (A ++ Cz :: B).Perm (Cz :: (A ++ B)) := List.perm_middle
    have hnd : (Cz ++ (A ++ B).flatten).Nodup := by
      have := hp.flatten.nodup_iff.mp hC.nd
      rwa [List.flatten_cons] at this
    obtain ⟨nd1, nd2, nd3⟩ := List.nodup_append.mp hnd
    have one : ∀ C ∈ A ++ B, ∃ p, C = [p] ∧ InL h p ∧ p < 4 * h + 2 * k := fun C h1 => by
      have h2 := hC.clo C (hp.mem_iff.mpr (List.mem_cons_of_mem _ h1))
      obtain ⟨p, h3⟩ := List.exists_mem_of_ne_nil _ h2.ne
      have h4 : p < 4 * h + 2 * k := by have := h2.lt p h3; rwa [show (blkO arm mod h k gv).feet = blkW h k from rfl, blkW_len] at this
      have h5 : InL h p := Classical.byContradiction fun z => by
        have := blk_last hh hk h2 p h3 z
        exact nd3 _ hz _ (List.mem_flatten.mpr ⟨C, h1, this⟩) rfl
      exact ⟨p, h2.fix (nodup_flat nd2 C h1) h3 (blk_fix hh hk h4 h5), h5, h4⟩
    have hL := flat_one fun C h1 => let ⟨p, e, _⟩ := one C h1; ⟨p, e⟩
    have hLp : (A ++ B).flatten.Perm ((List.range k).map fun j => 4 * h + 2 * j) := by
      refine (List.perm_ext_iff_of_nodup nd2 (Rk.nd_map List.nodup_range fun x _ y _ e => by omega)).mpr fun a => ?_
      constructor
      · intro ha
        obtain ⟨C, h1, h2⟩ := List.mem_flatten.mp ha
        obtain ⟨p, e, ⟨i1, i2⟩, h4⟩ := one C h1
        rw [e] at h2
        have : a = p := List.mem_singleton.mp h2
        subst this
        exact List.mem_map.mpr ⟨(a - 4 * h) / 2, List.mem_range.mpr (by omega), by omega⟩
      · intro ha
        obtain ⟨j, hj, rfl⟩ := List.mem_map.mp ha
        have hj := List.mem_range.mp hj
        have hin := hp.flatten.mem_iff.mp (hC.all (4 * h + 2 * j) (by show _ < (blkW h k).length; rw [blkW_len]; omega))
        rw [List.flatten_cons] at hin
        rcases List.mem_append.mp hin with z | z
        · exfalso
          have := (hC.clo Cz hCz).fix nd1 z (blk_fix hh hk (by omega) ⟨by omega, by omega⟩)
          rw [this] at hz
          have := List.mem_singleton.mp hz
          omega
        · exact z
    have hmap : ((A ++ B).map fun C => rNum (blkO arm mod h k gv) C).Perm ini := by
      rw [hL, List.map_map]
      refine (hLp.map _).trans ?_
      rw [List.map_map]
      have : ((List.range k).map fun j => rNum (blkO arm mod h k gv) [4 * h + 2 * j]) = ini := by
        refine List.ext_getElem? fun j => ?_
        rw [List.getElem?_map]
        by_cases c : j < k
        · rw [List.getElem?_range c]
          have hj : ini[j]? = some ini[j] := List.getElem?_eq_getElem (by omega)
          rw [hj]
          show some (rNum (blkO arm mod h k gv) [4 * h + 2 * j]) = some _
          rw [blk_loop hh hk c (hg j _ hj) fun m => hb m _ (List.mem_append_left _ (List.mem_of_getElem? hj))]
        · rw [List.getElem?_eq_none (by rw [List.length_range]; omega), List.getElem?_eq_none (by omega)]; rfl
      exact List.Perm.of_eq this
    have hall : ((A ++ Cz :: B).map fun C => rNum (blkO arm mod h k gv) C).Perm (rNum (blkO arm mod h k gv) Cz :: ini) := (hp.map _).trans (List.Perm.cons _ hmap)
    rw [List.map_map] at hsum ⊢
    have e0 : ((A ++ Cz :: B).map ((fun x : Int × List Str × Bool => x.1) ∘ fun C => (rNum (blkO arm mod h k gv) C, C.map (psW (blkO arm mod h k gv).feet), rOu (blkO arm mod h k gv).feet C))) = (A ++ Cz :: B).map fun C => rNum (blkO arm mod h k gv) C := rfl
    rw [e0] at hsum ⊢
    rw [sum_perm hall, List.sum_cons] at hsum
    have e1 : rNum (blkO arm mod h k gv) Cz = la := fin _ hsum
    rw [e1] at hall
    exact hall.trans (List.perm_append_comm (l₁ := [la]) (l₂ := ini))
/-! ### the parity of a number's ones -/
def pxW (n s : Nat) : Nat := n ^^^ n / 2 ^ s
def parW (n : Nat) : Nat := [32, 16, 8, 4, 2, 1].foldl pxW n &&& 1
theorem bitXor_nat (a b : Nat) : Builtin.bitXor (a : Int) (b : Int) = ((a ^^^ b : Nat) : Int) := by rw [Bits.bitXor_pp (Int.natCast_nonneg _) (Int.natCast_nonneg _)]; rfl
theorem bitAnd_nat (a b : Nat) : Builtin.bitAnd (a : Int) (b : Int) = ((a &&& b : Nat) : Int) := by rw [PyProof.Rows.bitAnd_pp (Int.natCast_nonneg _) (Int.natCast_nonneg _)]; rfl
theorem px_nat (n s : Nat) : Builtin.bitXor (n : Int) ((n : Int) / 2 ^ s) = ((pxW n s : Nat) : Int) := by
  unfold pxW
  rw [← bitXor_nat, Int.natCast_ediv, Int.natCast_pow]; rfl
def spParity : Sp := fun vs H Q _ => ∃ n : Nat, vs = [.int n] ∧ ∀ H', Same H H' → Q (.int (parW n : Nat)) H'
theorem ok_parity (B : Bi K mg) (F : FnP K "_law_parity" st_l_parity f fd) : FnOk P w K mg base CX0 1 f fd ["num"] spParity := by
  refine F.ok sc_l_parity (fun vs H Q E h => ?_) (fun cdv A outer s H vs Q E hr h => ?_)
  · obtain ⟨n, rfl, _⟩ := h
    rfl
  · obtain ⟨n, rfl, k⟩ := h
    have G := B
    refine ⟨_, PSs.nox ((pss_cons (ps_for PassesOwn.never rfl (pi_list (pe_lst (pa_cons pe_int (pa_cons pe_int (pa_cons pe_int (pa_cons pe_int (pa_cons pe_int (pa_cons pe_int pa_nil)))))))) (pg_name (i := 1) sc_l_parity.nd rfl (Or.inl rfl))
        (pss_one (ps_set (i := 0) sc_l_parity.nd rfl (Or.inl rfl) (pe_op op_xor (pv 0) (pe_op op_shr (pv 0) (pv 1))))))
      (pss_one (ps_ret (pe_op op_and (pv 0) pe_int))))), ?_⟩
    try dsimp only [cxOf]
    walk_at "go"
    refine ⟨by show 6 ≤ sizeLine; decide, fun q hq => ?_⟩
    have sq := Same.new (o := HO.lst [V.int 32, V.int 16, V.int 8, V.int 4, V.int 2, V.int 1]) hq
    have hq1 : (upd H q (HO.lst [V.int 32, V.int 16, V.int 8, V.int 4, V.int 2, V.int 1])) q = some (.lst (([32, 16, 8, 4, 2, 1] : List Nat).map fun s : Nat => V.int (s : Nat))) := upd_same
    revert sq hq1
    generalize upd H q (HO.lst [V.int 32, V.int 16, V.int 8, V.int 4, V.int 2, V.int 1]) = H1
    intro sq hq1
    refine w_forL (SqL.of hq1) (fun i σ H' => H' = H1 ∧ ∃ u, σ = [some (.int (((([32, 16, 8, 4, 2, 1] : List Nat).take i).foldl pxW n : Nat) : Int)), u]) ⟨rfl, none, rfl⟩ (fun i σ H' _ ⟨e, _⟩ => by rw [e]; exact SqL.of hq1) ?_ ?_
    · rintro i x σ H' hi ⟨rfl, u, rfl⟩
      obtain ⟨s, hs, rfl⟩ : ∃ s : Nat, ([32, 16, 8, 4, 2, 1] : List Nat)[i]? = some s ∧ x = .int (s : Nat) := by
        rw [List.getElem?_map] at hi
        cases e : ([32, 16, 8, 4, 2, 1] : List Nat)[i]? with
        | none => rw [e] at hi; cases hi
        | some s => rw [e] at hi; exact ⟨s, rfl, (Option.some.inj hi).symm⟩
      have hs32 : s ≤ 32 := by
        have := List.mem_of_getElem? hs
        simp only [List.mem_cons, List.not_mem_nil, or_false] at this
        omega
      walk_at "go"
      rw [take_snoc hs, List.foldl_append, Int.toNat_natCast, px_nat]
      exact ⟨rfl, _, rfl⟩
    · rintro σ H' ⟨rfl, u, rfl⟩
      rw [List.length_map, List.take_length]
      walk_at "go"
      rw [show (1 : Int) = ((1 : Nat) : Int) from rfl, bitAnd_nat]
      exact k _ sq
/-! ### the sign of a form, as the law reckons it -/
structure AS where
  vals : List Nat
  vecs : List Nat
  lines : List Nat
  left : List Nat
  odd : Nat
  zero : Bool
def arfK (one two : Nat) (hits : List Nat) (s : List Nat × List Nat × List Nat) (k : Nat) : List Nat × List Nat × List Nat :=
  let a := parW (s.2.1.getD k 0 &&& s.2.2.getD two 0)
  let b := if k ∈ hits then 1 else 0
  (s.1.set k ((s.1.getD k 0 + a * s.1.getD one 0 + b * s.1.getD two 0 + a * b) % 2), s.2.1.set k (s.2.1.getD k 0 ^^^ a * s.2.1.getD one 0 ^^^ b * s.2.1.getD two 0), s.2.2.set k (s.2.2.getD k 0 ^^^ a * s.2.2.getD one 0 ^^^ b * s.2.2.getD two 0))
def arfHits (s : AS) (one : Nat) (rest : List Nat) : List Nat := rest.filter fun k => decide (parW (s.vecs.getD one 0 &&& s.lines.getD k 0) = 1)
def arfLeft (hits rest : List Nat) : List Nat := rest.filter fun k => decide (hits = []) || decide (k ≠ hits.headD 0)
def arfS (s : AS) : AS := match s.left with
  | [] => s
  | one :: rest =>
    let hits := arfHits s one rest
    match hits with
    | [] => ⟨s.vals, s.vecs, s.lines, arfLeft hits rest, s.odd, s.zero || decide (s.vals.getD one 0 = 1)⟩
    | two :: _ =>
      let t := (arfLeft hits rest).foldl (arfK one two hits) (s.vals, s.vecs, s.lines)
      ⟨t.1, t.2.1, t.2.2, arfLeft hits rest, s.odd + s.vals.getD one 0 * s.vals.getD two 0, s.zero⟩
def arfI : Nat → AS → AS
  | 0, s => s
  | n + 1, s => arfS (arfI n s)
def lineW (row : List Bool) : Nat := ((List.range row.length).map fun k => (row.getD k false).toNat * 2 ^ k).sum
def arf0 (bits : List Nat) (T : List (List Bool)) : AS := ⟨bits, (List.range bits.length).map fun k => 2 ^ k, T.map lineW, List.range bits.length, 0, false⟩
def arfW (bits : List Nat) (T : List (List Bool)) : Int :=
  let s := arfI bits.length (arf0 bits T)
  if s.zero = true then 0 else if s.odd % 2 = 0 then 1 else -1
/-- the places that are left are places -/
def AS.Ok (n : Nat) (s : AS) : Prop := s.vals.length = n ∧ s.vecs.length = n ∧ s.lines.length = n ∧ (∀ k ∈ s.left, k < n) ∧ (∀ k, s.vals.getD k 0 ≤ 1) ∧ s.left.length ≤ n
theorem arfK_len {n one two : Nat} {hits : List Nat} {t : List Nat × List Nat × List Nat} {k : Nat} (h : t.1.length = n ∧ t.2.1.length = n ∧ t.2.2.length = n) : (arfK one two hits t k).1.length = n ∧ (arfK one two hits t k).2.1.length = n ∧ (arfK one two hits t k).2.2.length = n := by
  unfold arfK
  simp only [List.length_set]
  exact h
theorem arfF_len {n one two : Nat} {hits : List Nat} : ∀ {ks : List Nat} {t : List Nat × List Nat × List Nat}, (t.1.length = n ∧ t.2.1.length = n ∧ t.2.2.length = n) → (ks.foldl (arfK one two hits) t).1.length = n ∧ (ks.foldl (arfK one two hits) t).2.1.length = n ∧ (ks.foldl (arfK one two hits) t).2.2.length = n
  | [], t, h => h
  | k :: ks, t, h => arfF_len (ks := ks) (arfK_len h)
theorem set_le {l : List Nat} {k v : Nat} (h : ∀ j, l.getD j 0 ≤ 1) (hv : v ≤ 1) : ∀ j, (l.set k v).getD j 0 ≤ 1 := fun j => by
  rw [List.getD_eq_getElem?_getD, List.getElem?_set]
  by_cases e : k = j
  · rw [if_pos e]
    by_cases c : k < l.length
    · rw [if_pos c]; exact hv
    · rw [if_neg c]; exact Nat.zero_le _
  · rw [if_neg e, ← List.getD_eq_getElem?_getD]; exact h j
theorem arfF_le {one two : Nat} {hits : List Nat} : ∀ {ks : List Nat} {t : List Nat × List Nat × List Nat}, (∀ j, t.1.getD j 0 ≤ 1) → ∀ j, (ks.foldl (arfK one two hits) t).1.getD j 0 ≤ 1
  | [], t, h => h
  | k :: ks, t, h => arfF_le (ks := ks) (by unfold arfK; exact set_le h (by omega))
theorem AS.Ok.step {n : Nat} {s : AS} (h : s.Ok n) : (arfS s).Ok n := by
  obtain ⟨h1, h2, h3, h4, h0, hL⟩ := h
  unfold arfS
  cases e : s.left with
  | nil => exact ⟨h1, h2, h3, h4, h0, hL⟩
  | cons one rest =>
    have h5 : ∀ hits, ∀ k ∈ arfLeft hits rest, k < n := fun hits k hk => h4 k (by rw [e]; exact List.mem_cons_of_mem _ (List.mem_filter.mp hk).1)
    have h6 : ∀ hits, (arfLeft hits rest).length ≤ n := fun hits => by
      have := List.length_filter_le (fun k => decide (hits = []) || decide (k ≠ hits.headD 0)) rest
      rw [e, List.length_cons] at hL
      unfold arfLeft
      omega
    dsimp only
    cases e2 : arfHits s one rest with
    | nil => exact ⟨h1, h2, h3, h5 _, h0, h6 _⟩
    | cons two hs =>
      obtain ⟨g1, g2, g3⟩ := arfF_len (one := one) (two := two) (hits := two :: hs) (ks := arfLeft (two :: hs) rest) (t := (s.vals, s.vecs, s.lines)) ⟨h1, h2, h3⟩
      exact ⟨g1, g2, g3, h5 _, arfF_le h0, h6 _⟩
theorem arfI_ok {n : Nat} {s : AS} (h : s.Ok n) : ∀ i, (arfI i s).Ok n
  | 0 => h
  | i + 1 => (arfI_ok h i).step
theorem arfI_end {s : AS} {i : Nat} (h : (arfI i s).left = []) : ∀ j, i ≤ j → arfI j s = arfI i s := fun j hj => by
  obtain ⟨d, rfl⟩ := Nat.le.dest hj
  induction d with
  | zero => rfl
  | succ d ih =>
    show arfS (arfI (i + d) s) = _
    rw [ih (Nat.le_add_right ..)]
    unfold arfS
    rw [h]
theorem filt_snoc {l : List Nat} {p : Nat → Bool} {i k : Nat} (h : l[i]? = some k) : (l.take (i + 1)).filter p = (l.take i).filter p ++ (if p k = true then [k] else []) := by
  rw [take_snoc h, List.filter_append]
  congr 1
  by_cases c : p k = true
  · rw [if_pos c, List.filter_cons_of_pos c]; rfl
  · rw [if_neg c, List.filter_cons_of_neg c]; rfl
theorem parW_le (n : Nat) : parW n ≤ 1 := Nat.and_le_right
def asgE : Stmt → Expr
  | .Assign _ e _ => e
  | _ => .Constant .none 0 ⟨0, 0, 0, 0⟩
theorem op_eqDK {X : Cx} {K : PySem.W.Frag} (hK : X.K = K) (hu : X.A.units + 64 < cLine) : OpR X (compareOp .Eq) (rEqD K) := by
  subst hK
  exact op_eqD hu
theorem cr_sumK {X : Cx} {K : PySem.W.Frag} (hK : X.K = K) (hc : X.calm = true) : CallR X (.builtin "sum") (rSum K) := by
  subst hK
  exact cr_sum hc
theorem getD_atN {l : List Nat} {k : Nat} (h : k < l.length) : l[k]? = some (l.getD k 0) := by rw [List.getD_eq_getElem?_getD, List.getElem?_eq_getElem h]; rfl
theorem cshl (b i : Nat) (hb : b ≤ 1) (hi : i ≤ 1000) : CShl (b : Int) (0 + (i : Int)) := by
  refine ⟨by omega, ?_⟩
  have : Builtin.Int.intBits (b : Int) ≤ 1 := by
    have : b = 0 ∨ b = 1 := by omega
    rcases this with e | e <;> rw [e] <;> decide +kernel
  have h2 : (2 : Int) ^ 27 = 134217728 := by decide
  rw [h2]
  omega
theorem shl_nat (b i : Nat) : V.int ((b : Int) * 2 ^ (0 + (i : Int)).toNat) = .int ((b * 2 ^ i : Nat) : Int) := by
  rw [show (0 + (i : Int)).toNat = i by omega, Int.natCast_mul, Int.natCast_pow]; rfl
theorem sum_nat : ∀ l : List Nat, (l.map fun m : Nat => (m : Int)).sum = ((l.sum : Nat) : Int)
  | [] => rfl
  | a :: l => by rw [List.map_cons, List.sum_cons, List.sum_cons, sum_nat l]; omega
theorem x_eqNilN {K : PySem.W.Frag} {H : Hp} {Q : VK} {p q : Addr} {l : List Nat} (hp : SqL K H p (l.map fun m : Nat => V.int (m : Nat))) (hq : SqL K H q []) (k : Q (.bl (decide (l = []))) H) : rEqD K (.ref p) (.ref q) H Q := by
  refine x_eqIL (ns := l.map fun m : Nat => (m : Int)) (ms := []) (by rw [List.map_map]; exact hp) hq ?_
  have : decide (l = []) = decide ((l.map fun m : Nat => (m : Int)) = []) := decide_eq_decide.mpr List.map_eq_nil_iff.symm
  rw [← this]
  exact k
theorem x_listRg {ta : TE} {σ : L2.St} {H : Hp} {Q : VK} (h : ta σ H fun x H1 => ∃ n : Nat, x = .int n ∧ n ≤ 1000 ∧ ∀ q, H1 q = none → Q (.ref q) (upd H1 q (.lst ((List.range n).map fun i : Nat => V.int (i : Nat))))) (mono : ∀ R R' : VK, (∀ v H, R v H → R' v H) → ta σ H R → ta σ H R') : tLstRg (tRg1 ta) σ H Q := by
  refine mono _ _ (fun x H1 ⟨n, e, hn, k⟩ => ⟨(n : Int), e, RgOk.of_le (by omega) (by omega) (by omega) (by omega), fun q hq => ?_⟩) h
  have : rgV 0 (n : Int) = (List.range n).map fun i : Nat => V.int (i : Nat) := by
    unfold rgV
    rw [Int.sub_zero, Int.toNat_natCast]
    refine List.map_congr_left fun i _ => ?_
    rw [Int.zero_add]
  rw [this]
  exact k q hq
theorem x_lstRg1 {ta : TE} {σ : L2.St} {H : Hp} {Q : VK} (h : ta σ H fun x H1 => ∃ n, x = .int n ∧ RgOk 0 n ∧ ∀ q, H1 q = none → Q (.ref q) (upd H1 q (.lst (rgV 0 n)))) : tLstRg (tRg1 ta) σ H Q := h
theorem rgV_nat (n : Nat) : rgV 0 (n : Int) = (List.range n).map fun i : Nat => V.int (i : Nat) := by
  unfold rgV
  rw [Int.sub_zero, Int.toNat_natCast]
  refine List.map_congr_left fun i _ => ?_
  rw [Int.zero_add]
theorem cut_tail (x : V) (xs : List V) : cutV (x :: xs) (some 1) none = xs := by
  unfold cutV
  have e1 : HT.sIx (x :: xs).length 0 (some 1) = 1 := by
    unfold HT.sIx
    rw [List.length_cons]
    show (if (1 : Int) < 0 then _ else min (1 : Int).toNat (xs.length + 1)) = 1
    rw [if_neg (by decide)]
    show min 1 (xs.length + 1) = 1
    omega
  rw [e1, HT.sIx_none, List.length_cons]
  show List.take (xs.length + 1 - 1) xs = xs
  exact List.take_of_length_le (by omega)
theorem x_inN {K : PySem.W.Frag} {H : Hp} {Q : VK} {p : Addr} {l : List Nat} {k : Nat} (s : SqL K H p (l.map fun m : Nat => V.int (m : Nat))) (h : Q (.bl (decide (k ∈ l))) H) : rIn K false (.int (k : Nat)) (.ref p) H Q := by
  have e : inV (.int (k : Nat)) (l.map fun m : Nat => V.int (m : Nat)) = decide (k ∈ l) := by
    clear s h
    induction l with
    | nil => rfl
    | cons a l ih =>
      show (eqV (.int (a : Nat)) (.int (k : Nat)) || inV (.int (k : Nat)) (l.map fun m : Nat => V.int (m : Nat))) = _
      rw [ih]
      by_cases e : a = k
      · subst e
        rw [show eqV (.int (a : Nat)) (.int (a : Nat)) = true from by simp [eqV], decide_eq_true (List.mem_cons_self ..)]
        rfl
      · rw [show eqV (.int (a : Nat)) (.int (k : Nat)) = false from by simp [eqV]; omega]
        rw [Bool.false_or]
        exact decide_eq_decide.mpr ⟨fun z => List.mem_cons_of_mem _ z, fun z => (List.mem_cons.mp z).elim (fun q => absurd q.symm e) id⟩
  refine ⟨p, _, rfl, .inl s, rfl, ?_, by rw [if_neg Bool.false_ne_true, e]; exact h⟩
  rw [List.all_eq_true]
  intro x hx
  obtain ⟨b, _, rfl⟩ := List.mem_map.mp hx
  rfl
abbrev nV (m : Nat) : V := .int (m : Nat)
theorem atN {l : List Nat} {k : Nat} {z : Int} (e : z = (k : Nat)) (hk : k < l.length) : atI (l.map nV) z = some (.int (l.getD k 0 : Nat)) := atI_of e (by rw [List.getElem?_map, getD_atN hk]; rfl)
def spArf (K : PySem.W.Frag) : Sp := fun vs H Q _ => ∃ (p t : Addr) (bits : List Nat) (T : List (List Bool)), vs = [.ref p, .ref t] ∧ H p = some (.lst (bits.map nV)) ∧ TblAt K H t T ∧ T.length = bits.length ∧ (∀ row ∈ T, row.length = bits.length) ∧ bits.length ≤ 800 ∧ (∀ k, bits.getD k 0 ≤ 1) ∧ ∀ H', Same H H' → Q (.int (arfW bits T)) H'
theorem ok_arf (B : Bi K mg) (c_l_parity : C8.Cal P w K mg base 1 "_law_parity" spParity []) (F : FnP K "_law_arf" st_l_arf f fd) : FnOk P w K mg base CX0 2 f fd ["bits", "table"] (spArf K) := by
  refine F.ok sc_l_arf (fun vs H Q E h => ?_) (fun cdv A outer s H vs Q E hr h => ?_)
  · obtain ⟨p, t, bits, T, rfl, _⟩ := h
    rfl
  · obtain ⟨p, t, bits, T, rfl, hp, hT, hTl, hTr, hl, hb1, k⟩ := h
    have G := B
    refine ⟨_, PSs.nox ((pss_cons (ps_set (i := 2) sc_l_arf.nd rfl (Or.inl rfl) (pe_callTy callListS (by rfl) G.list (by decide +kernel) (pa_cons (pv 0) pa_nil)))
      (pss_cons (ps_set (i := 3) sc_l_arf.nd rfl (Or.inr rfl) (pe_lc (own := [("k", 12)]) rfl sc_l_arf.nd (pi_range1 (by rfl) G.range (pa_cons (pe_callB callLenS (by rfl) G.len PySem.boot_len (pa_cons (pv 2) pa_nil)) pa_nil)) (blkOk_by (own := [("k", 12)]) (N := ["bits", "table", "vals", "vecs", "lines", "left", "odd", "zero", "turn", "one", "hits", "two", "k", "a", "b", "line"]) (sc := defScope st_l_arf) (by decide +kernel)) (fun _ _ _ _ _ => (pg_name (i := 12) sc_l_arf.nd rfl (Or.inl rfl))) (fun _ _ _ _ _ => pts_nil) (fun _ _ _ _ _ => (pe_op op_shlW pe_int (pv 12)))))
      (C8.pss_cut (ps_set (i := 4) sc_l_arf.nd rfl (Or.inr rfl) (pe_lc (own := [("line", 15)]) rfl sc_l_arf.nd (pi_list (pv 1)) (blkOk_by (own := [("line", 15)]) (N := ["bits", "table", "vals", "vecs", "lines", "left", "odd", "zero", "turn", "one", "hits", "two", "k", "a", "b", "line"]) (sc := defScope st_l_arf) (by decide +kernel)) (fun _ _ _ _ _ => (pg_name (i := 15) sc_l_arf.nd rfl (Or.inr rfl))) (fun _ _ _ _ _ => pts_nil) (fun _ _ _ _ _ => (pe_callB (cr_sumK (K := K) rfl rfl) (by rfl) G.sum (by decide +kernel) (pa_cons (pe_lc (own := [("k", 12)]) rfl sc_l_arf.nd (pi_range1 (by rfl) G.range (pa_cons (pe_callB (callLenSK (K := K) rfl) (by rfl) G.len PySem.boot_len (pa_cons (pv 15) pa_nil)) pa_nil)) (blkOk_by (own := [("k", 12)]) (N := ["bits", "table", "vals", "vecs", "lines", "left", "odd", "zero", "turn", "one", "hits", "two", "k", "a", "b", "line"]) (sc := lcRel (asgE ((defBody st_l_arf).getD 2 (.Pass ⟨0, 0, 0, 0⟩))) (defScope st_l_arf)) (by decide +kernel)) (fun _ _ _ _ _ => (pg_name (i := 12) sc_l_arf.nd rfl (Or.inl rfl))) (fun _ _ _ _ _ => pts_nil) (fun _ _ _ _ _ => (pe_op op_shlW (pe_ix (ix_listK (K := K) rfl) (pv 15) (pv 12) (fun _ _ => rfl)) (pv 12)))) pa_nil)))))
      (pss_cons (ps_set (i := 5) sc_l_arf.nd rfl (Or.inl rfl) (pe_listRg rfl (by rfl) G.list (prg_1 (by rfl) G.range (pe_callB callLenS (by rfl) G.len PySem.boot_len (pa_cons (pv 2) pa_nil)))))
      (pss_cons (ps_set (i := 6) sc_l_arf.nd rfl (Or.inl rfl) pe_int)
      (pss_cons (ps_set (i := 7) sc_l_arf.nd rfl (Or.inl rfl) pe_bl)
      (C8.pss_cut (ps_for PassesOwn.never rfl (pi_range1 (by rfl) G.range (pa_cons (pe_callB callLenS (by rfl) G.len PySem.boot_len (pa_cons (pv 2) pa_nil)) pa_nil)) (pg_name (i := 8) sc_l_arf.nd rfl (Or.inl rfl))
        (pss_cons (ps_if (pt_cmpR (op_eqD hr.units) (pv 5) (pe_lst pa_nil) (nomark _))
          (pss_one ps_break)
          pss_nil)
        (pss_cons (ps_set (i := 9) sc_l_arf.nd rfl (Or.inr rfl) (pe_ix ix_list (pv 5) pe_int (fun _ _ => rfl)))
        (pss_cons (ps_set (i := 10) sc_l_arf.nd rfl (Or.inr rfl) (pe_lc (own := [("k", 12)]) rfl sc_l_arf.nd (pi_list (pe_slice sl_list (pv 5) (po_some pe_int) po_none)) (blkOk_by (own := [("k", 12)]) (N := ["bits", "table", "vals", "vecs", "lines", "left", "odd", "zero", "turn", "one", "hits", "two", "k", "a", "b", "line"]) (sc := defScope st_l_arf) (by decide +kernel)) (fun _ _ _ _ _ => (pg_name (i := 12) sc_l_arf.nd rfl (Or.inl rfl))) (fun _ _ _ _ _ => (pts_one (pt_cmpR op_eq (C8.pe_c c_l_parity hr (by decide) rfl (pa_cons (pe_op op_and (pe_ix (ix_listK (K := K) rfl) (pv 3) (pv 9) (fun _ _ => rfl)) (pe_ix (ix_listK (K := K) rfl) (pv 4) (pv 12) (fun _ _ => rfl))) pa_nil)) pe_int (nomark _)))) (fun _ _ _ _ _ => (pv 12))))
        (pss_cons (ps_setLc (i := 5) (own := [("k", 12)]) rfl sc_l_arf.nd rfl rfl (sw_true rfl rfl rfl (by decide +kernel)) (pi_list (pe_slice sl_list (pv 5) (po_some pe_int) po_none)) (blkOk_by (own := [("k", 12)]) (N := ["bits", "table", "vals", "vecs", "lines", "left", "odd", "zero", "turn", "one", "hits", "two", "k", "a", "b", "line"]) (sc := defScope st_l_arf) (by decide +kernel)) (fun _ _ _ _ _ => (pg_name (i := 12) sc_l_arf.nd rfl (Or.inl rfl))) (fun _ _ _ _ _ => (pts_one (PW.pt (pw_or (pt_cmpR (op_eqDK (K := K) rfl hr.units) (pv 10) (pe_lst pa_nil) (nomark _)) (pw_or1 (pt_cmpR op_ne (pv 12) (pe_ix (ix_listK (K := K) rfl) (pv 10) pe_int (fun _ _ => rfl)) (nomark _))))))) (fun _ _ _ _ _ => (pv 12)))
        (pss_cons (ps_if (pt_cmpR (op_eqD hr.units) (pv 10) (pe_lst pa_nil) (nomark _))
          (pss_cons (ps_set (i := 7) sc_l_arf.nd rfl (Or.inl rfl) (pe_or (pv 7) (pe_one (pe_cmpR op_eq (pe_ix ix_list (pv 2) (pv 9) (fun _ _ => rfl)) pe_int (nomark _)))))
          (pss_one ps_continue))
          pss_nil)
        (pss_cons (ps_set (i := 11) sc_l_arf.nd rfl (Or.inl rfl) (pe_ix ix_list (pv 10) pe_int (fun _ _ => rfl)))
        (pss_cons (ps_set (i := 6) sc_l_arf.nd rfl (Or.inl rfl) (pe_op op_add (pv 6) (pe_op op_mul (pe_ix ix_list (pv 2) (pv 9) (fun _ _ => rfl)) (pe_ix ix_list (pv 2) (pv 11) (fun _ _ => rfl)))))
        (pss_one (ps_for PassesOwn.never rfl (pi_list (pv 5)) (pg_name (i := 12) sc_l_arf.nd rfl (Or.inl rfl))
          (pss_cons (ps_set (i := 13) sc_l_arf.nd rfl (Or.inl rfl) (C8.pe_c c_l_parity hr (by decide) rfl (pa_cons (pe_op op_and (pe_ix ix_list (pv 3) (pv 12) (fun _ _ => rfl)) (pe_ix ix_list (pv 4) (pv 11) (fun _ _ => rfl))) pa_nil)))
          (pss_cons (ps_set (i := 14) sc_l_arf.nd rfl (Or.inl rfl) (pe_callTy call_intB (by rfl) G.int (by decide +kernel) (pa_cons (pe_cmpR op_in_seq (pv 12) (pv 10) (by rfl)) pa_nil)))
          (pss_cons (ps_asg (pe_op op_mod (pe_callTy call_intI (by rfl) G.int (by decide +kernel) (pa_cons (pe_op op_add (pe_op op_add (pe_op op_add (pe_ix ix_list (pv 2) (pv 12) (fun _ _ => rfl)) (pe_op op_mul (pv 13) (pe_ix ix_list (pv 2) (pv 9) (fun _ _ => rfl)))) (pe_op op_mul (pv 14) (pe_ix ix_list (pv 2) (pv 11) (fun _ _ => rfl)))) (pe_op op_mul (pv 13) (pv 14))) pa_nil)) pe_int) (pg_sub (pv 2) (pv 12) set_list))
          (pss_cons (ps_asg (pe_op op_xor (pe_op op_xor (pe_ix ix_list (pv 3) (pv 12) (fun _ _ => rfl)) (pe_op op_mul (pv 13) (pe_ix ix_list (pv 3) (pv 9) (fun _ _ => rfl)))) (pe_op op_mul (pv 14) (pe_ix ix_list (pv 3) (pv 11) (fun _ _ => rfl)))) (pg_sub (pv 3) (pv 12) set_list))
          (pss_one (ps_asg (pe_op op_xor (pe_op op_xor (pe_ix ix_list (pv 4) (pv 12) (fun _ _ => rfl)) (pe_op op_mul (pv 13) (pe_ix ix_list (pv 4) (pv 9) (fun _ _ => rfl)))) (pe_op op_mul (pv 14) (pe_ix ix_list (pv 4) (pv 11) (fun _ _ => rfl)))) (pg_sub (pv 4) (pv 12) set_list)))))))))))))))))
      (pss_cons (ps_if (pt_val (pv 7))
        (pss_one (ps_ret pe_int))
        pss_nil)
      (pss_one (ps_ret (pe_ifExp (pt_cmpR op_eq (pe_op op_mod (pe_callTy call_intI (by rfl) G.int (by decide +kernel) (pa_cons (pv 6) pa_nil)) pe_int) pe_int (nomark _)) pe_int (pe_un un_neg pe_int))))))))))))), ?_⟩
    try dsimp only [cxOf]
    walk_at "go"
    refine x_listL (SqL.of hp) fun vl hvl => ?_
    have s1 := Same.new (o := HO.lst (bits.map nV)) hvl
    have hv1 : (upd H vl (HO.lst (bits.map nV))) vl = some (.lst (bits.map nV)) := upd_same
    revert s1 hv1
    show Same H (upd H vl (HO.lst (bits.map nV))) → _ → _
    generalize upd H vl (HO.lst (bits.map nV)) = H1
    intro s1 hv1
    walk_at "go"
    rw [List.length_map]
    refine w_lcR1 (by omega) (by omega) (by rw [Int.toNat_natCast]; exact Nat.lt_of_le_of_lt hl (by decide)) (fun i acc => acc = ((List.range i).map fun k => 2 ^ k).map nV) rfl ?_ ?_
    · rintro i H' acc hi s' rfl hai R S2 hR hS2
      have hi : i < bits.length := by omega
      have cs := cshl 1 i (by decide) (by omega)
      have cs' : CShl 1 (0 + (i : Int)) := cs
      walk_at "go"
      refine ⟨rfl, ?_⟩
      walk_at "go"
      refine hR _ _ (Same.refl _) ?_
      rw [List.range_succ, List.map_append, List.map_append]
      exact congrArg (fun v => _ ++ [v]) (show V.int (1 * 2 ^ (0 + (i : Int)).toNat) = nV (2 ^ i) from by have := shl_nat 1 i; rwa [Nat.one_mul] at this)
    rintro ve H2 acc hve s2 hv2 rfl
    rw [Int.toNat_natCast] at hv2
    have s02 := Same.trans s1 s2
    have hv1' := s2 _ _ hv1
    have hT2 := hT.same s02
    walk_at "go"
    refine x_cut (fun σ H3 => Same H2 H3 ∧ ∃ li u, H2 li = none ∧ H3 li = some (.lst ((T.map lineW).map nV)) ∧ σ = [some (.ref p), some (.ref t), some (.ref vl), some (.ref ve), some (.ref li), none, none, none, none, none, none, none, none, none, none, u]) ?_ ?_
    · obtain ⟨rs, r1, r2, r3⟩ := hT2.ex
      walk_at "go"
      refine w_lcL (SqL.of r1) (by rw [List.length_map, r2, hTl]; exact Nat.lt_of_le_of_lt hl (by decide)) (fun i acc => acc = ((T.map lineW).take i).map nV) rfl ?_ ?_
      · rintro i x H3 acc hx s3 rfl hai R S2 hR hS2
        obtain ⟨r, hr1, rfl⟩ : ∃ r, rs[i]? = some r ∧ x = .ref r := by
          rw [List.getElem?_map] at hx
          cases e : rs[i]? with
          | none => rw [e] at hx; cases hx
          | some r => rw [e] at hx; exact ⟨r, rfl, (Option.some.inj hx).symm⟩
        obtain ⟨row, hrow⟩ : ∃ row, T[i]? = some row := by
          have := (List.getElem?_eq_some_iff.mp hr1).1
          exact ⟨_, List.getElem?_eq_getElem (by omega)⟩
        have hrl := hTr row (List.mem_of_getElem? hrow)
        have hr3 := s3 _ _ (r3 i r row hr1 hrow)
        walk_at "go"
        refine ⟨rfl, ?_⟩
        walk_at "go"
        rw [List.length_map]
        refine w_lcR1 (by omega) (by omega) (by rw [Int.toNat_natCast]; exact Nat.lt_of_le_of_lt (show _ ≤ 800 by omega) (by decide)) (fun j acc => acc = ((List.range j).map fun k => (row.getD k false).toNat * 2 ^ k).map nV) rfl ?_ ?_
        · rintro j H4 acc hj s4 rfl haj R2 S3 hR2 hS3
          have hj : j < row.length := by omega
          have hr4 := s4 _ _ hr3
          have ab : atI (row.map bV) (0 + (j : Int)) = some (.int (((row.getD j false).toNat : Nat) : Int)) := atI_of (k := j) (by omega) (by rw [List.getElem?_map, List.getD_eq_getElem?_getD, List.getElem?_eq_getElem hj]; rfl)
          have cs : CShl (((row.getD j false).toNat : Nat) : Int) (0 + (j : Int)) := cshl _ j (by cases row.getD j false <;> decide) (by omega)
          walk_at "go"
          refine ⟨rfl, ?_⟩
          walk_at "go"
          refine hR2 _ _ (Same.refl _) ?_
          rw [List.range_succ, List.map_append, List.map_append]
          exact congrArg (fun v => _ ++ [v]) (shl_nat _ j)
        · rintro q H4 acc hq s4 hq4 rfl
          rw [Int.toNat_natCast] at hq4
          walk_at "go"
          refine ⟨q, ((List.range row.length).map fun k => (row.getD k false).toNat * 2 ^ k).map fun m : Nat => (m : Int), rfl, SqL.of (by rw [hq4, List.map_map (g := V.int)]; rfl), ?_⟩
          refine hR _ _ s4 ?_
          rw [take_snoc (show (T.map lineW)[i]? = some (lineW row) by rw [List.getElem?_map, hrow]; rfl), List.map_append]
          refine congrArg (fun v => _ ++ [v]) ?_
          exact congrArg V.int (sum_nat _)
      · rintro li H4 acc hli s4 hl4 rfl
        rw [List.take_of_length_le (by rw [List.length_map, List.length_map, r2]; exact Nat.le_refl _)] at hl4
        walk_at "go"
        exact ⟨s4, li, _, hli, hl4, rfl⟩
    rintro σ H3 ⟨s3, li, u15, hli, hl3, rfl⟩
    have hv3 := s3 _ _ hv1'
    have he3 := s3 _ _ hv2
    have hve2 : H ve = none := Same.free s1 hve
    have hli2 : H li = none := Same.free s02 hli
    have nve : vl ≠ ve := ne_of_none hv1 hve
    have nvi : vl ≠ li := ne_of_none hv1' hli
    have nei : ve ≠ li := ne_of_none hv2 hli
    have s03 := Same.trans s02 s3
    walk_at "go"
    refine x_lstRg1 ?_
    walk_at "go"
    rw [List.length_map]
    refine ⟨RgOk.of_le (by omega) (by omega) (by omega) (by omega), fun lf0 hlf0 => ?_⟩
    rw [rgV_nat]
    have hvF := upd_old (o := HO.lst ((List.range bits.length).map nV)) hlf0 hv3
    have heF := upd_old (o := HO.lst ((List.range bits.length).map nV)) hlf0 he3
    have hlF := upd_old (o := HO.lst ((List.range bits.length).map nV)) hlf0 hl3
    have hfF : (upd H3 lf0 (HO.lst ((List.range bits.length).map nV))) lf0 = some (.lst ((List.range bits.length).map nV)) := upd_same
    have sF := Same.trans s03 (Same.new (o := HO.lst ((List.range bits.length).map nV)) hlf0)
    have n1 : vl ≠ lf0 := ne_of_none hv3 hlf0
    have n2 : ve ≠ lf0 := ne_of_none he3 hlf0
    have n3 : li ≠ lf0 := ne_of_none hl3 hlf0
    show gName 5 _ _ (upd H3 lf0 (HO.lst ((List.range bits.length).map nV))) _
    revert hvF heF hlF hfF sF
    generalize upd H3 lf0 (HO.lst ((List.range bits.length).map nV)) = HF
    intro hvF heF hlF hfF sF
    have ok0 : (arf0 bits T).Ok bits.length := ⟨rfl, by show ((List.range bits.length).map _).length = _; rw [List.length_map, List.length_range], by show (T.map _).length = _; rw [List.length_map, hTl], fun k hk => List.mem_range.mp hk, hb1, by show (List.range _).length ≤ _; rw [List.length_range]; exact Nat.le_refl _⟩
    walk_at "go"
    refine x_cut (fun σ H' => Same H H' ∧ ∃ (lf : Addr) (u8 u9 u10 u11 u12 u13 u14 u15 : Option V), σ = [some (.ref p), some (.ref t), some (.ref vl), some (.ref ve), some (.ref li), some (.ref lf), some (.int ((arfI bits.length (arf0 bits T)).odd : Nat)), some (.bl (arfI bits.length (arf0 bits T)).zero), u8, u9, u10, u11, u12, u13, u14, u15]) ?_ ?_
    · walk_at "go"
      rw [List.length_map]
      refine w_forR1 (by omega) (by omega) (fun i σ H' => Same H H' ∧ ∃ (lf : Addr) (u8 u9 u10 u11 u12 u13 u14 u15 : Option V), lf ≠ vl ∧ lf ≠ ve ∧ lf ≠ li ∧
          H' vl = some (.lst ((arfI i (arf0 bits T)).vals.map nV)) ∧ H' ve = some (.lst ((arfI i (arf0 bits T)).vecs.map nV)) ∧ H' li = some (.lst ((arfI i (arf0 bits T)).lines.map nV)) ∧ H' lf = some (.lst ((arfI i (arf0 bits T)).left.map nV)) ∧
          σ = [some (.ref p), some (.ref t), some (.ref vl), some (.ref ve), some (.ref li), some (.ref lf), some (.int ((arfI i (arf0 bits T)).odd : Nat)), some (.bl (arfI i (arf0 bits T)).zero), u8, u9, u10, u11, u12, u13, u14, u15])
        ⟨sF, lf0, none, none, none, none, none, none, none, _, Ne.symm n1, Ne.symm n2, Ne.symm n3, hvF, heF, hlF, hfF, rfl⟩ ?_ ?_
      · rintro i σ H' hi ⟨s', lf, u8, u9, u10, u11, u12, u13, u14, u15, m1, m2, m3, hv, he, hl', hf, rfl⟩
        have hi : i < bits.length := by omega
        obtain ⟨k1, k2, k3, k4, k5, k6⟩ := arfI_ok ok0 i
        generalize eS : arfI i (arf0 bits T) = S at k1 k2 k3 k4 k5 k6 hv he hl' hf
        walk_at "go"
        refine ⟨Nat.zero_le _, fun q0 hq0 => ?_⟩
        have hf0 := upd_old (o := HO.lst []) hq0 hf
        walk_at "go"
        refine x_eqNilN (l := S.left) (SqL.of hf0) (SqL.of upd_same) ?_
        have s1' := Same.trans s' (Same.new (o := HO.lst []) hq0)
        have hv0 := upd_old (o := HO.lst []) hq0 hv
        have he0 := upd_old (o := HO.lst []) hq0 he
        have hl0 := upd_old (o := HO.lst []) hq0 hl'
        revert s1' hv0 he0 hl0 hf0
        generalize upd H' q0 (HO.lst []) = H4
        intro hf0 s1' hv0 he0 hl0
        walk_at "go"
        refine x_iteD (fun hE => ?_) (fun hE => ?_)
        · walk_at "go"
          have e := arfI_end (s := arf0 bits T) (i := i) (by rw [eS]; exact hE) bits.length (by omega)
          rw [eS] at e
          exact ⟨s1', lf, _, _, _, _, _, _, _, _, by rw [e]; rfl⟩
        · cases hS : S.left with
          | nil => exact absurd hS hE
          | cons one rest =>
            rw [hS] at hf0
            have a0 : atI ((one :: rest).map nV) 0 = some (.int (one : Nat)) := atI_of (k := 0) rfl rfl
            walk_at "go"
            refine x_slL (SqL.of hf0) fun q1 hq1 => ?_
            have ec : cutV ((one :: rest).map nV) (some 1) none = rest.map nV := cut_tail _ _
            rw [ec]
            have ol : one < bits.length := k4 one (by rw [hS]; exact List.mem_cons_self ..)
            have rl : ∀ k ∈ rest, k < bits.length := fun k hk => k4 k (by rw [hS]; exact List.mem_cons_of_mem _ hk)
            have hv1 := upd_old (o := HO.lst (rest.map nV)) hq1 hv0
            have he1 := upd_old (o := HO.lst (rest.map nV)) hq1 he0
            have hl1 := upd_old (o := HO.lst (rest.map nV)) hq1 hl0
            have hf1 := upd_old (o := HO.lst (rest.map nV)) hq1 hf0
            have hq1' : (upd H4 q1 (HO.lst (rest.map nV))) q1 = some (.lst (rest.map nV)) := upd_same
            have s2' := Same.trans s1' (Same.new (o := HO.lst (rest.map nV)) hq1)
            revert hv1 he1 hl1 hf1 hq1' s2'
            generalize upd H4 q1 (HO.lst (rest.map nV)) = H5
            intro hv1 he1 hl1 hf1 hq1' s2'
            have rln : rest.length ≤ 800 := by rw [hS, List.length_cons] at k6; omega
            refine w_lcL (SqL.of hq1') (by rw [List.length_map]; exact Nat.lt_of_le_of_lt rln (by decide)) (fun i acc => acc = (arfHits S one (rest.take i)).map nV) rfl ?_ ?_
            · rintro j x H6 acc hx s6 rfl hai R S2 hR hS2
              obtain ⟨kk, hk1, rfl⟩ : ∃ kk, rest[j]? = some kk ∧ x = nV kk := by
                rw [List.getElem?_map] at hx
                cases e : rest[j]? with
                | none => rw [e] at hx; cases hx
                | some r => rw [e] at hx; exact ⟨r, rfl, (Option.some.inj hx).symm⟩
              have kl := rl kk (List.mem_of_getElem? hk1)
              have he6 := s6 _ _ he1
              have hl6 := s6 _ _ hl1
              have b1 := atN (l := S.vecs) (k := one) (z := (one : Nat)) rfl (by omega)
              have b2 := atN (l := S.lines) (k := kk) (z := (kk : Nat)) rfl (by omega)
              walk_at "go"
              refine ⟨rfl, ?_⟩
              walk_at "go"
              rw [bitAnd_nat]
              refine ⟨_, rfl, fun H7 s7 => ?_⟩
              walk_at "go"
              refine x_iteD (fun hc => ?_) (fun hc => ?_)
              · walk_at "go"
                refine hR _ _ s7 ?_
                unfold arfHits
                rw [filt_snoc hk1, if_pos (decide_eq_true (by omega)), List.map_append]; rfl
              · refine hS2 _ s7 ?_
                unfold arfHits
                rw [filt_snoc hk1, if_neg (by rw [decide_eq_false (by omega)]; decide), List.append_nil]
            · rintro hl H6 acc hhl s6 hh6 rfl
              rw [List.length_map, List.take_length] at hh6
              have hv6 := s6 _ _ hv1
              have he6 := s6 _ _ he1
              have hl6 := s6 _ _ hl1
              have hf6 := s6 _ _ hf1
              have s3' := Same.trans s2' s6
              have nhv : vl ≠ hl := ne_of_none hv1 hhl
              have nhe : ve ≠ hl := ne_of_none he1 hhl
              have nhl : li ≠ hl := ne_of_none hl1 hhl
              generalize hH : arfHits S one rest = hits at hh6
              walk_at "go"
              refine x_slL (SqL.of hf6) fun q2 hq2 => ?_
              rw [ec]
              have hv7 := upd_old (o := HO.lst (rest.map nV)) hq2 hv6
              have he7 := upd_old (o := HO.lst (rest.map nV)) hq2 he6
              have hl7 := upd_old (o := HO.lst (rest.map nV)) hq2 hl6
              have hh7 := upd_old (o := HO.lst (rest.map nV)) hq2 hh6
              have hq2' : (upd H6 q2 (HO.lst (rest.map nV))) q2 = some (.lst (rest.map nV)) := upd_same
              have s4' := Same.trans s3' (Same.new (o := HO.lst (rest.map nV)) hq2)
              revert hv7 he7 hl7 hh7 hq2' s4'
              generalize upd H6 q2 (HO.lst (rest.map nV)) = H7
              intro hv7 he7 hl7 hh7 hq2' s4'
              refine w_lcL (SqL.of hq2') (by rw [List.length_map]; exact Nat.lt_of_le_of_lt rln (by decide)) (fun i acc => acc = (arfLeft hits (rest.take i)).map nV) rfl ?_ ?_
              · rintro j x H8 acc hx s8 rfl hai R S2 hR hS2
                obtain ⟨kk, hk1, rfl⟩ : ∃ kk, rest[j]? = some kk ∧ x = nV kk := by
                  rw [List.getElem?_map] at hx
                  cases e : rest[j]? with
                  | none => rw [e] at hx; cases hx
                  | some r => rw [e] at hx; exact ⟨r, rfl, (Option.some.inj hx).symm⟩
                have hh8 := s8 _ _ hh7
                walk_at "go"
                refine ⟨rfl, ?_⟩
                walk_at "go"
                refine ⟨Nat.zero_le _, fun q3 hq3 => ?_⟩
                have hh9 := upd_old (o := HO.lst []) hq3 hh8
                have s9 : Same H8 (upd H8 q3 (.lst [])) := Same.new hq3
                walk_at "go"
                refine x_eqNilN (l := hits) (SqL.of hh9) (SqL.of upd_same) ?_
                revert hh9 s9
                generalize upd H8 q3 (.lst []) = H9
                intro hh9 s9
                walk_at "go"
                refine x_iteD (fun hc => ?_) (fun hc => ?_)
                · walk_at "go"
                  refine hR _ _ s9 ?_
                  unfold arfLeft
                  rw [filt_snoc hk1, if_pos (by rw [decide_eq_true hc]; rfl), List.map_append]; rfl
                · have ah : atI (hits.map nV) 0 = some (.int (hits.headD 0 : Nat)) := by
                    cases hits with
                    | nil => exact absurd rfl hc
                    | cons a l => exact atI_of (k := 0) rfl rfl
                  walk_at "go"
                  refine x_iteN (fun hc2 => ?_) (fun hc2 => ?_)
                  · walk_at "go"
                    refine hR _ _ s9 ?_
                    unfold arfLeft
                    rw [filt_snoc hk1, if_pos (by rw [decide_eq_true (show kk ≠ hits.headD 0 by omega), Bool.or_true]), List.map_append]; rfl
                  · refine hS2 _ s9 ?_
                    unfold arfLeft
                    rw [filt_snoc hk1, if_neg (by rw [decide_eq_false hc, decide_eq_false (show ¬kk ≠ hits.headD 0 by omega)]; decide), List.append_nil]
              · rintro lf' H8 acc hlf' s8 hf8 rfl
                rw [List.length_map, List.take_length] at hf8
                have hv8 := s8 _ _ hv7
                have he8 := s8 _ _ he7
                have hl8 := s8 _ _ hl7
                have hh8 := s8 _ _ hh7
                have s5' := Same.trans s4' s8
                have nlv : lf' ≠ vl := Ne.symm (ne_of_none hv7 hlf')
                have nle : lf' ≠ ve := Ne.symm (ne_of_none he7 hlf')
                have nli : lf' ≠ li := Ne.symm (ne_of_none hl7 hlf')
                have nlh : lf' ≠ hl := Ne.symm (ne_of_none hh7 hlf')
                walk_at "go"
                refine ⟨Nat.zero_le _, fun q3 hq3 => ?_⟩
                have hh9 := upd_old (o := HO.lst []) hq3 hh8
                walk_at "go"
                refine x_eqNilN (l := hits) (SqL.of hh9) (SqL.of upd_same) ?_
                have hv9 := upd_old (o := HO.lst []) hq3 hv8
                have he9 := upd_old (o := HO.lst []) hq3 he8
                have hl9 := upd_old (o := HO.lst []) hq3 hl8
                have hf9 := upd_old (o := HO.lst []) hq3 hf8
                have s6' := Same.trans s5' (Same.new (o := HO.lst []) hq3)
                revert hh9 hv9 he9 hl9 hf9 s6'
                generalize upd H8 q3 (.lst []) = H9
                intro hh9 hv9 he9 hl9 hf9 s6'
                walk_at "go"
                have a1 := atN (l := S.vals) (k := one) (z := (one : Nat)) rfl (by omega)
                have eN : arfI (i + 1) (arf0 bits T) = arfS S := by rw [← eS]; rfl
                refine x_iteD (fun hc => ?_) (fun hc => ?_)
                · have eT : arfS S = ⟨S.vals, S.vecs, S.lines, arfLeft hits rest, S.odd, S.zero || decide (S.vals.getD one 0 = 1)⟩ := by
                    unfold arfS
                    rw [hS]
                    dsimp only
                    rw [hH, hc]
                  walk_at "go"
                  cases hz : S.zero with
                  | true =>
                    walk_at "go"
                    exact ⟨s6', lf', _, _, _, _, _, _, _, _, nlv, nle, nli, by rw [eN, eT]; exact hv9, by rw [eN, eT]; exact he9, by rw [eN, eT]; exact hl9, by rw [eN, eT]; exact hf9, by rw [eN, eT, hz]; rfl⟩
                  | false =>
                    walk_at "go"
                    have ez : decide (((S.vals.getD one 0 : Nat) : Int) = 1) = (S.zero || decide (S.vals.getD one 0 = 1)) := by rw [hz, Bool.false_or]; exact decide_eq_decide.mpr (by omega)
                    exact ⟨s6', lf', _, _, _, _, _, _, _, _, nlv, nle, nli, by rw [eN, eT]; exact hv9, by rw [eN, eT]; exact he9, by rw [eN, eT]; exact hl9, by rw [eN, eT]; exact hf9, by rw [eN, eT, ez]; rfl⟩
                · obtain ⟨two, hs, eh⟩ : ∃ two hs, hits = two :: hs := by
                    cases hits with
                    | nil => exact absurd rfl hc
                    | cons a l => exact ⟨a, l, rfl⟩
                  have ah : atI (hits.map nV) 0 = some (.int (two : Nat)) := by rw [eh]; exact atI_of (k := 0) rfl rfl
                  have tl : two < bits.length := rl two (by
                    have : two ∈ arfHits S one rest := by rw [hH, eh]; exact List.mem_cons_self ..
                    exact (List.mem_filter.mp this).1)
                  have a2 := atN (l := S.vals) (k := two) (z := (two : Nat)) rfl (by omega)
                  have k51 := k5 one
                  have k52 := k5 two
                  have cm : CMul ((S.vals.getD one 0 : Nat) : Int) ((S.vals.getD two 0 : Nat) : Int) := .inl ⟨by omega, by omega⟩
                  have eT : arfS S = ⟨((arfLeft hits rest).foldl (arfK one two hits) (S.vals, S.vecs, S.lines)).1, ((arfLeft hits rest).foldl (arfK one two hits) (S.vals, S.vecs, S.lines)).2.1, ((arfLeft hits rest).foldl (arfK one two hits) (S.vals, S.vecs, S.lines)).2.2, arfLeft hits rest, S.odd + S.vals.getD one 0 * S.vals.getD two 0, S.zero⟩ := by
                    unfold arfS
                    rw [hS]
                    dsimp only
                    rw [hH, eh]
                  walk_at "go"
                  refine w_forL (SqL.of hf9) (fun z σ H' => Same H H' ∧ H' vl = some (.lst ((((arfLeft hits rest).take z).foldl (arfK one two hits) (S.vals, S.vecs, S.lines)).1.map nV)) ∧ H' ve = some (.lst ((((arfLeft hits rest).take z).foldl (arfK one two hits) (S.vals, S.vecs, S.lines)).2.1.map nV)) ∧ H' li = some (.lst ((((arfLeft hits rest).take z).foldl (arfK one two hits) (S.vals, S.vecs, S.lines)).2.2.map nV)) ∧ H' lf' = some (.lst ((arfLeft hits rest).map nV)) ∧ H' hl = some (.lst (hits.map nV)) ∧
                    ∃ u12 u13 u14 u15 : Option V, σ = [some (.ref p), some (.ref t), some (.ref vl), some (.ref ve), some (.ref li), some (.ref lf'), some (.int ((S.odd + S.vals.getD one 0 * S.vals.getD two 0 : Nat) : Int)), some (.bl S.zero), some (.int (0 + (i : Int))), some (.int (one : Nat)), some (.ref hl), some (.int (two : Nat)), u12, u13, u14, u15])
                    ⟨s6', hv9, he9, hl9, hf9, hh9, _, _, _, _, by rw [Int.natCast_add, Int.natCast_mul]; rfl⟩ (fun z σ H' _ h => SqL.of h.2.2.2.2.1) ?_ ?_
                  · rintro z x σ H' hx ⟨sI, hvI, heI, hlI, hfI, hhI, u12, u13, u14, u15, rfl⟩
                    obtain ⟨kk, hk1, rfl⟩ : ∃ kk, (arfLeft hits rest)[z]? = some kk ∧ x = nV kk := by
                      rw [List.getElem?_map] at hx
                      cases e : (arfLeft hits rest)[z]? with
                      | none => rw [e] at hx; cases hx
                      | some r => rw [e] at hx; exact ⟨r, rfl, (Option.some.inj hx).symm⟩
                    have kl : kk < bits.length := rl kk (List.mem_filter.mp (List.mem_of_getElem? hk1)).1
                    rw [take_snoc hk1, List.foldl_append]
                    obtain ⟨L1, L2, L3⟩ := arfF_len (n := bits.length) (one := one) (two := two) (hits := hits) (ks := (arfLeft hits rest).take z) (t := (S.vals, S.vecs, S.lines)) ⟨k1, k2, k3⟩
                    have L4 := arfF_le (one := one) (two := two) (hits := hits) (ks := (arfLeft hits rest).take z) (t := (S.vals, S.vecs, S.lines)) k5
                    generalize ((arfLeft hits rest).take z).foldl (arfK one two hits) (S.vals, S.vecs, S.lines) = t3 at hvI heI hlI L1 L2 L3 L4 ⊢
                    obtain ⟨va, vc, ln⟩ := t3
                    have c1 := atN (l := va) (k := kk) (z := (kk : Nat)) rfl (by show kk < va.length; rw [show va.length = bits.length from L1]; exact kl)
                    have c2 := atN (l := va) (k := one) (z := (one : Nat)) rfl (by rw [show va.length = bits.length from L1]; exact ol)
                    have c3 := atN (l := va) (k := two) (z := (two : Nat)) rfl (by rw [show va.length = bits.length from L1]; exact tl)
                    have d1 := atN (l := vc) (k := kk) (z := (kk : Nat)) rfl (by rw [show vc.length = bits.length from L2]; exact kl)
                    have d2 := atN (l := vc) (k := one) (z := (one : Nat)) rfl (by rw [show vc.length = bits.length from L2]; exact ol)
                    have d3 := atN (l := vc) (k := two) (z := (two : Nat)) rfl (by rw [show vc.length = bits.length from L2]; exact tl)
                    have f1 := atN (l := ln) (k := kk) (z := (kk : Nat)) rfl (by rw [show ln.length = bits.length from L3]; exact kl)
                    have f2 := atN (l := ln) (k := one) (z := (one : Nat)) rfl (by rw [show ln.length = bits.length from L3]; exact ol)
                    have f3 := atN (l := ln) (k := two) (z := (two : Nat)) rfl (by rw [show ln.length = bits.length from L3]; exact tl)
                    walk_at "go"
                    rw [bitAnd_nat]
                    refine ⟨_, rfl, fun H10 s10 => ?_⟩
                    have hvJ := s10 _ _ hvI
                    have heJ := s10 _ _ heI
                    have hlJ := s10 _ _ hlI
                    have hfJ := s10 _ _ hfI
                    have hhJ := s10 _ _ hhI
                    have sJ := Same.trans sI s10
                    have hpw := parW_le (vc.getD kk 0 &&& ln.getD two 0)
                    generalize ea : parW (vc.getD kk 0 &&& ln.getD two 0) = aa at hpw
                    walk_at "go"
                    refine x_inN (SqL.of hhJ) ?_
                    walk_at "go"
                    refine x_intB ?_
                    generalize eb : (if kk ∈ hits then 1 else 0 : Nat) = bb
                    have hbb : bb ≤ 1 := by rw [← eb]; split <;> decide
                    rw [show (if decide (kk ∈ hits) = true then (1 : Int) else 0) = ((bb : Nat) : Int) by rw [← eb]; by_cases c : kk ∈ hits <;> simp [c]]
                    have m1 : CMul ((aa : Nat) : Int) ((va.getD one 0 : Nat) : Int) := .inl ⟨by omega, by omega⟩
                    have m2 : CMul ((bb : Nat) : Int) ((va.getD two 0 : Nat) : Int) := .inl ⟨by omega, by omega⟩
                    have m3 : CMul ((aa : Nat) : Int) ((bb : Nat) : Int) := .inl ⟨by omega, by omega⟩
                    have m4 : CMul ((aa : Nat) : Int) ((vc.getD one 0 : Nat) : Int) := .inl ⟨by omega, by omega⟩
                    have m5 : CMul ((bb : Nat) : Int) ((vc.getD two 0 : Nat) : Int) := .inl ⟨by omega, by omega⟩
                    have m6 : CMul ((aa : Nat) : Int) ((ln.getD one 0 : Nat) : Int) := .inl ⟨by omega, by omega⟩
                    have m7 : CMul ((bb : Nat) : Int) ((ln.getD two 0 : Nat) : Int) := .inl ⟨by omega, by omega⟩
                    walk_at "go"
                    have nls : sizeLine = sizeLine := rfl
                    refine x_setL (k := kk) hvJ (ixN_of rfl (by rw [List.length_map, show va.length = bits.length from L1]; exact kl)) ?_
                    rw [show V.int ((((va.getD kk 0 : Nat) : Int) + ((aa : Nat) : Int) * ((va.getD one 0 : Nat) : Int) + ((bb : Nat) : Int) * ((va.getD two 0 : Nat) : Int) + ((aa : Nat) : Int) * ((bb : Nat) : Int)) % 2) = nV ((va.getD kk 0 + aa * va.getD one 0 + bb * va.getD two 0 + aa * bb) % 2) by simp only [nV, Int.natCast_add, Int.natCast_mul, Int.natCast_emod]; rfl]
                    generalize env : (va.getD kk 0 + aa * va.getD one 0 + bb * va.getD two 0 + aa * bb) % 2 = nv
                    have hvK : upd H10 vl (.lst ((va.map nV).set kk (nV nv))) vl = some (.lst ((va.set kk nv).map nV)) := by rw [upd_same, List.map_set]
                    have heK : upd H10 vl (.lst ((va.map nV).set kk (nV nv))) ve = some (.lst (vc.map nV)) := by rw [upd_ne (Ne.symm nve)]; exact heJ
                    have hlK : upd H10 vl (.lst ((va.map nV).set kk (nV nv))) li = some (.lst (ln.map nV)) := by rw [upd_ne (Ne.symm nvi)]; exact hlJ
                    have hfK : upd H10 vl (.lst ((va.map nV).set kk (nV nv))) lf' = some (.lst ((arfLeft hits rest).map nV)) := by rw [upd_ne nlv]; exact hfJ
                    have hhK : upd H10 vl (.lst ((va.map nV).set kk (nV nv))) hl = some (.lst (hits.map nV)) := by rw [upd_ne (Ne.symm nhv)]; exact hhJ
                    have sK : Same H (upd H10 vl (.lst ((va.map nV).set kk (nV nv)))) := Same.mut sJ hvl
                    revert hvK heK hlK hfK hhK sK
                    generalize upd H10 vl (.lst ((va.map nV).set kk (nV nv))) = HK
                    intro hvK heK hlK hfK hhK sK
                    walk_at "go"
                    rw [← Int.natCast_mul, bitXor_nat, ← Int.natCast_mul, bitXor_nat]
                    refine x_setL (k := kk) heK (ixN_of rfl (by rw [List.length_map, show vc.length = bits.length from L2]; exact kl)) ?_
                    generalize enc : vc.getD kk 0 ^^^ aa * vc.getD one 0 ^^^ bb * vc.getD two 0 = nc
                    have heM : upd HK ve (.lst ((vc.map nV).set kk (nV nc))) ve = some (.lst ((vc.set kk nc).map nV)) := by rw [upd_same, List.map_set]
                    have hvM : upd HK ve (.lst ((vc.map nV).set kk (nV nc))) vl = some (.lst ((va.set kk nv).map nV)) := by rw [upd_ne nve]; exact hvK
                    have hlM : upd HK ve (.lst ((vc.map nV).set kk (nV nc))) li = some (.lst (ln.map nV)) := by rw [upd_ne (Ne.symm nei)]; exact hlK
                    have hfM : upd HK ve (.lst ((vc.map nV).set kk (nV nc))) lf' = some (.lst ((arfLeft hits rest).map nV)) := by rw [upd_ne nle]; exact hfK
                    have hhM : upd HK ve (.lst ((vc.map nV).set kk (nV nc))) hl = some (.lst (hits.map nV)) := by rw [upd_ne (Ne.symm nhe)]; exact hhK
                    have sM : Same H (upd HK ve (.lst ((vc.map nV).set kk (nV nc)))) := Same.mut sK hve2
                    revert heM hvM hlM hfM hhM sM
                    generalize upd HK ve (.lst ((vc.map nV).set kk (nV nc))) = HM
                    intro heM hvM hlM hfM hhM sM
                    walk_at "go"
                    rw [← Int.natCast_mul, bitXor_nat, ← Int.natCast_mul, bitXor_nat]
                    refine x_setL (k := kk) hlM (ixN_of rfl (by rw [List.length_map, show ln.length = bits.length from L3]; exact kl)) ?_
                    have eK : List.foldl (arfK one two hits) (va, vc, ln) [kk] = (va.set kk nv, vc.set kk nc, ln.set kk (ln.getD kk 0 ^^^ aa * ln.getD one 0 ^^^ bb * ln.getD two 0)) := by
                      show arfK one two hits (va, vc, ln) kk = _
                      rw [← env, ← enc, ← ea, ← eb]
                      rfl
                    rw [eK]
                    refine ⟨Same.mut sM hli2, by rw [upd_ne nvi]; exact hvM, by rw [upd_ne nei]; exact heM, by rw [upd_same, List.map_set], by rw [upd_ne nli]; exact hfM, by rw [upd_ne (Ne.symm nhl)]; exact hhM, _, _, _, _, rfl⟩
                  · rintro σ H' ⟨sI, hvI, heI, hlI, hfI, hhI, u12, u13, u14, u15, rfl⟩
                    rw [List.length_map, List.take_length] at hvI heI hlI
                    exact ⟨sI, lf', _, _, _, _, _, _, _, _, nlv, nle, nli, by rw [eN, eT]; exact hvI, by rw [eN, eT]; exact heI, by rw [eN, eT]; exact hlI, by rw [eN, eT]; exact hfI, by rw [eN, eT]⟩
      · rintro σ H' ⟨s', lf, u8, u9, u10, u11, u12, u13, u14, u15, m1, m2, m3, hv, he, hl', hf, rfl⟩
        rw [Int.toNat_natCast]
        exact ⟨s', lf, _, _, _, _, _, _, _, _, rfl⟩
    · rintro σ H' ⟨s', lf, u8, u9, u10, u11, u12, u13, u14, u15, rfl⟩
      have kk := k H' s'
      unfold arfW at kk
      dsimp only at kk
      generalize arfI bits.length (arf0 bits T) = S at kk ⊢
      cases hz : S.zero with
      | true =>
        walk_at "go"
        rw [hz, if_pos rfl] at kk
        exact kk
      | false =>
        rw [hz, if_neg Bool.false_ne_true] at kk
        walk_at "go"
        refine x_iteD (fun hc => ?_) (fun hc => ?_)
        · walk_at "go"
          rw [if_pos (by omega)] at kk
          exact kk
        · walk_at "go"
          rw [if_neg (by omega)] at kk
          exact kk
theorem valsD2 (l : List (Str × Int)) : (dD V.int l).map (fun p => p.2) = (l.map fun p => p.2).map V.int := by
  unfold dD
  rw [List.map_map, List.map_map]
  rfl
def bitsN (S : Own) : List Nat := (bandsOf S.feet).map fun b => (((aGet S.nums b).getD 0) / ((partN S : Nat) : Int) % 2).toNat
def SgnOf (S : Own) (v : V) : Prop := (HasBal S.arm S.mod (partN S : Nat) ∧ v = .int (arfW (bitsN S) (tabW S.feet))) ∨ (¬HasBal S.arm S.mod (partN S : Nat) ∧ v = .non)
def spParted : Sp := fun vs H Q _ => ∃ (o fa na : Addr) (S : Own), vs = [.ref o] ∧ OwnAt H o fa na S ∧ S.Ok ∧ ∀ (q : Addr) (v : V) H', Same H H' → H' q = some (.tup [.int (partN S : Nat), v]) → SgnOf S v → Q (.ref q) H'
theorem ok_parted (B : Bi K mg) (c_l_divisor : C8.Cal P w K mg base 1 "_law_divisor" (spLDiv K) []) (c_l_bands : C8.Cal P w K mg base 2 "_law_bands" (spBands K) []) (c_l_table : C8.Cal P w K mg base 2 "_law_table" (spLTable K) []) (c_l_arf : C8.Cal P w K mg base 2 "_law_arf" (spArf K) []) (F : FnP K "_law_parted" st_l_parted f fd) : FnOk P w K mg base CX0 3 f fd ["own"] spParted := by
  refine F.ok sc_l_parted (fun vs H Q E h => ?_) (fun cdv A outer s H vs Q E hr h => ?_)
  · obtain ⟨o, fa, na, S, rfl, _⟩ := h
    rfl
  · obtain ⟨o, fa, na, S, rfl, hO, hK, k⟩ := h
    have G := B
    have hO1 := hO.o_
    have hO3 := hO.n_
    have ha1 := hK.a1
    have ha2 := hK.a2
    have hm2 := hK.m2
    have hln := hK.ln
    refine ⟨_, PSs.nox ((pss_cons (ps_asg (pv 0) (pg_unl rfl (pgs_cons (pg_name (i := 1) sc_l_parted.nd rfl (Or.inl rfl)) (pgs_cons (pg_name (i := 2) sc_l_parted.nd rfl (Or.inl rfl)) (pgs_cons (pg_name (i := 3) sc_l_parted.nd rfl (Or.inl rfl)) (pgs_cons (pg_name (i := 4) sc_l_parted.nd rfl (Or.inr rfl)) pgs_nil))))))
      (pss_cons (ps_set (i := 5) sc_l_parted.nd rfl (Or.inr rfl) (C8.pe_c c_l_divisor hr (by decide) rfl (pa_cons (pe_op op_cat (pe_lst (pa_cons (pv 1) (pa_cons (pv 2) pa_nil))) (pe_listVals rfl (pv 4) (by rfl) G.list (by decide +kernel))) pa_nil)))
      (pss_cons (ps_if (PW.pt (pw_or (pt_cmpR op_eq (pe_op op_mod (pe_callTy call_intI (by rfl) G.int (by decide +kernel) (pa_cons (pe_op op_fdiv (pv 1) (pv 5)) pa_nil)) pe_int) pe_int (nomark _)) (pw_or1 (pt_cmpR op_eq (pe_op op_mod (pe_callTy call_intI (by rfl) G.int (by decide +kernel) (pa_cons (pe_op op_fdiv (pv 2) (pv 5)) pa_nil)) pe_int) pe_int (nomark _)))))
        (pss_one (ps_ret (pe_tup (pa_cons (pv 5) (pa_cons pe_non pa_nil)))))
        pss_nil)
      (pss_one (ps_ret (pe_tup (pa_cons (pv 5) (pa_cons (C8.pe_c c_l_arf hr (by decide) rfl (pa_cons (pe_lc (own := [("name", 6)]) rfl sc_l_parted.nd (pi_list (C8.pe_c c_l_bands hr (by decide) rfl (pa_cons (pv 3) pa_nil))) (blkOk_by (own := [("name", 6)]) (N := ["own", "arm", "mod", "feet", "nums", "part", "name"]) (sc := defScope st_l_parted) (by decide +kernel)) (fun _ _ _ _ _ => (pg_name (i := 6) sc_l_parted.nd rfl (Or.inl rfl))) (fun _ _ _ _ _ => pts_nil) (fun _ _ _ _ _ => (pe_op op_mod (pe_callTy call_intI (by rfl) G.int (by decide +kernel) (pa_cons (pe_op op_fdiv (pe_dget (hu_of hr) (pv 4) (pv 6) (fun _ _ => rfl)) (pv 5)) pa_nil)) pe_int))) (pa_cons (C8.pe_c c_l_table hr (by decide) rfl (pa_cons (pv 3) pa_nil)) pa_nil))) pa_nil))))))))), ?_⟩
    try dsimp only [cxOf]
    walk_at "go"
    refine ⟨by show 2 ≤ sizeLine; decide, fun p hp => ?_⟩
    have hO3' := upd_old (o := HO.lst [V.int (S.arm : Nat), .int (S.mod : Nat)]) hp hO3
    walk_at "go"
    intro q hq
    rw [valsD2]
    refine x_cat (xs := [V.int (S.arm : Nat), .int (S.mod : Nat)]) (ys := (S.nums.map fun p => p.2).map V.int) (upd_old hq upd_same) upd_same (by rw [List.length_map, List.length_map]; have := hK.nl; exact Nat.le_trans (show _ ≤ 1002 by show 2 + S.nums.length ≤ 1002; omega) (by decide)) fun r hr => ?_
    have s3 := Same.trans (Same.new hp) (Same.trans (Same.new (o := HO.lst ((S.nums.map fun p => p.2).map V.int)) hq) (Same.new (o := HO.lst ([V.int (S.arm : Nat), .int (S.mod : Nat)] ++ (S.nums.map fun p => p.2).map V.int)) hr))
    walk_at "go"
    refine ⟨r, (S.arm : Int) :: (S.mod : Int) :: S.nums.map fun p => p.2, rfl, SqL.of upd_same, fun z hz => ?_, ?_⟩
    · rcases List.mem_cons.mp hz with e | hz
      · rw [e, Int.natAbs_natCast]; omega
      · rcases List.mem_cons.mp hz with e | hz
        · rw [e, Int.natAbs_natCast]; omega
        · obtain ⟨p, hp, e⟩ := List.mem_map.mp hz
          rw [← e]
          have := hK.bd p hp
          omega
    have ep : gcdZ ((S.arm : Int) :: (S.mod : Int) :: S.nums.map fun p => p.2) = partN S := rfl
    rw [ep]
    have hO4 := hO.same s3
    revert s3 hO4
    generalize (upd (upd (upd H p (.lst [V.int (S.arm : Nat), .int (S.mod : Nat)])) q (.lst ((S.nums.map fun p => p.2).map V.int))) r (.lst ([V.int (S.arm : Nat), .int (S.mod : Nat)] ++ (S.nums.map fun p => p.2).map V.int))) = H3
    intro s3 hO4
    have hO41 := hO4.o_
    obtain ⟨he1, he2⟩ := gcdZ_head (ns := (S.mod : Int) :: S.nums.map fun p => p.2) hK.a1
    rw [ep] at he1 he2
    unfold SgnOf HasBal at k
    have hep : partN S = partN S := rfl
    have hbits : bitsN S = (bandsOf S.feet).map fun b => (((aGet S.nums b).getD 0) / ((partN S : Nat) : Int) % 2).toNat := rfl
    generalize partN S = e at he1 he2 k hbits
    walk_at "go"
    refine x_iteD (fun c1 => ?_) (fun c1 => ?_)
    · walk_at "go"
      refine ⟨by show 2 ≤ sizeLine; decide, fun q2 hq2 => ?_⟩
      exact k q2 _ _ (Same.trans s3 (Same.new hq2)) upd_same (.inr ⟨fun z => by omega, rfl⟩)
    · walk_at "go"
      refine x_iteD (fun c2 => ?_) (fun c2 => ?_)
      · walk_at "go"
        refine ⟨by show 2 ≤ sizeLine; decide, fun q2 hq2 => ?_⟩
        exact k q2 _ _ (Same.trans s3 (Same.new hq2)) upd_same (.inr ⟨fun z => by omega, rfl⟩)
      · walk_at "go"
        refine ⟨fa, S.feet, rfl, hO4.f_, hK.wd, by omega, fun bp H4 hbp0 s4 hbp => ?_⟩
        have hO5 := hO4.same s4
        have bl : (bandsOf S.feet).length ≤ 400 := Nat.le_trans (bandsOf_len _) hln
        walk_at "go"
        refine w_lcL (SqL.of hbp) (by rw [List.length_map]; exact Nat.lt_of_le_of_lt bl (by decide)) (fun i acc => acc = ((bitsN S).take i).map nV) rfl ?_ ?_
        · rintro i x H5 acc hx s5 rfl hai R S2 hR hS2
          obtain ⟨b, hb, rfl⟩ : ∃ b, (bandsOf S.feet)[i]? = some b ∧ x = .str b := by
            rw [List.getElem?_map] at hx
            cases e : (bandsOf S.feet)[i]? with
            | none => rw [e] at hx; cases hx
            | some r => rw [e] at hx; exact ⟨r, rfl, (Option.some.inj hx).symm⟩
          obtain ⟨z, gz⟩ := has_num hK ((mem_bandsOf _ _).mp (List.mem_of_getElem? hb))
          have hn5 := s5 _ _ hO5.n_
          have he0 : (0 : Int) < (e : Int) := by omega
          walk_at "go"
          refine ⟨rfl, ?_⟩
          walk_at "go"
          refine x_dgetS (v := .int z) (.inl hn5) (by rw [valV_dD, gz]; rfl) ?_
          walk_at "go"
          refine hR _ _ (Same.refl _) ?_
          have : (bitsN S)[i]? = some ((z / (e : Int) % 2).toNat) := by rw [hbits, List.getElem?_map, hb]; show some (((aGet S.nums b).getD 0 / (e : Int) % 2).toNat) = some _; rw [gz]; rfl
          rw [take_snoc this, List.map_append]
          refine congrArg (fun v => _ ++ [v]) ?_
          show V.int _ = V.int (((z / (e : Int) % 2).toNat : Nat) : Int)
          congr 1
          omega
        · rintro bq H5 acc hbq s5 hb5 rfl
          rw [List.length_map, List.take_of_length_le (by rw [hbits, List.length_map]; exact Nat.le_refl _)] at hb5
          have hO6 := hO5.same s5
          walk_at "go"
          refine ⟨fa, S.feet, rfl, hO6.f_, hK.wd, by omega, fun t H6 ht0 s6 hT => ?_⟩
          walk_at "go"
          have lb : (bitsN S).length = (bandsOf S.feet).length := by rw [hbits, List.length_map]
          refine ⟨bq, t, bitsN S, tabW S.feet, rfl, s6 _ _ hb5, hT, by rw [tabW_len, lb], fun row hrow => ?_, by omega, fun j => ?_, fun H7 s7 => ?_⟩
          · unfold tabW at hrow
            obtain ⟨b, _, rfl⟩ := List.mem_map.mp hrow
            rw [lb]
            unfold Rk.rowB
            rw [List.length_map]
          · rw [hbits, List.getD_eq_getElem?_getD, List.getElem?_map]
            cases (bandsOf S.feet)[j]? with
            | none => exact Nat.zero_le _
            | some b =>
              show ((aGet S.nums b).getD 0 / (e : Int) % 2).toNat ≤ 1
              omega
          · walk_at "go"
            refine ⟨by show 2 ≤ sizeLine; decide, fun q2 hq2 => ?_⟩
            exact k q2 _ _ (Same.trans s3 (Same.trans s4 (Same.trans s5 (Same.trans s6 (Same.trans s7 (Same.new hq2)))))) upd_same (.inl ⟨⟨by omega, by omega⟩, rfl⟩)
def numB (S : Own) (k : Nat) : Int := (aGet S.nums ((bandsOf S.feet).getD k "")).getD 0
def innerN (S : Own) : List Int := ((List.range (bandsOf S.feet).length).filter fun k => ((tabW S.feet).getD k []).contains true).map fun k => numB S k - (S.arm : Int)
theorem flat_len : ∀ {Cs : List (List Nat)}, (∀ C ∈ Cs, C ≠ []) → Cs.length ≤ Cs.flatten.length
  | [], _ => Nat.zero_le _
  | C :: Cs, h => by
    have h1 := flat_len (Cs := Cs) fun D hD => h D (List.mem_cons_of_mem _ hD)
    have h2 := List.length_pos_iff.mpr (h C (List.mem_cons_self ..))
    rw [List.length_cons, List.flatten_cons, List.length_append]
    omega
theorem rims_le {S : Own} {es : List (Int × List Str × Bool)} (h : RimsL S es) : es.length ≤ S.feet.length + 1 := by
  rcases h with ⟨e, rfl⟩ | ⟨_, Cs, hC, rfl⟩
  · rw [e]; exact Nat.le_refl _
  · have h1 := flat_len fun C h => (hC.clo C h).ne
    have h2 := hC.perm.length_eq
    rw [List.length_range] at h2
    rw [List.length_map]
    omega
theorem sum_absN {f : Nat → Int} {b : Nat} (h : ∀ p, (f p).natAbs ≤ b) : ∀ C : List Nat, (C.map f).sum.natAbs ≤ b * C.length
  | [] => Nat.zero_le _
  | p :: C => by
    have h1 := sum_absN h C
    have h2 := h p
    rw [List.map_cons, List.sum_cons, List.length_cons, Nat.mul_succ]
    omega
theorem num_abs {S : Own} (k : S.Ok) (b : Str) : ((aGet S.nums b).getD 0).natAbs ≤ 1000 := by
  cases e : aGet S.nums b with
  | none => exact Nat.zero_le _
  | some z => exact k.bd (b, z) (aGet_mem e)
theorem len_flat {C : List Nat} : ∀ {Cs : List (List Nat)}, C ∈ Cs → C.length ≤ Cs.flatten.length
  | [], h => by cases h
  | D :: Cs, h => by
    rw [List.flatten_cons, List.length_append]
    rcases List.mem_cons.mp h with e | e
    · rw [e]; omega
    · have := len_flat e
      omega
theorem rims_abs {S : Own} (k : S.Ok) {es : List (Int × List Str × Bool)} (h : RimsL S es) : ∀ z ∈ es.map (·.1), z.natAbs ≤ 1000000 := by
  have ha := k.a2
  have hm := k.m2
  rcases h with ⟨e, rfl⟩ | ⟨_, Cs, hC, rfl⟩
  · intro z hz
    have : z = redN S.mod (S.arm : Int) := List.mem_singleton.mp hz
    rw [this]
    exact redN_abs (by omega) (by omega)
  · intro z hz
    rw [List.map_map] at hz
    obtain ⟨C, hC1, rfl⟩ := List.mem_map.mp hz
    show (rNum S C).natAbs ≤ _
    have hl : C.length ≤ 400 := by
      have h1 := len_flat hC1
      have h2 := hC.perm.length_eq
      rw [List.length_range] at h2
      have := k.ln
      omega
    have h1 : (rWo S C).natAbs ≤ 1000 * C.length := sum_absN (f := woN S) (fun p => by
      have : (numAt S p).natAbs ≤ 1000 := by
        unfold numAt
        split
        · exact num_abs k _
        · exact Nat.zero_le _
      unfold woN
      split <;> omega) C
    have h2 : (rHa S.feet C).natAbs ≤ 2 * C.length := sum_absN (f := haN S.feet) (fun p => by
      unfold haN
      split <;> split <;> decide) C
    have h3 : ((S.arm : Int) * (rHa S.feet C / 2)).natAbs ≤ 12 * 401 := by
      rw [Int.natAbs_mul]
      exact Nat.mul_le_mul (by omega) (by omega)
    exact redN_abs (by omega) (by omega)
theorem x_inB {K : PySem.W.Frag} {H : Hp} {Q : VK} {p : Addr} {l : List Bool} (s : SqL K H p (l.map bV)) (h : Q (.bl (l.contains true)) H) : rIn K false (.int 1) (.ref p) H Q := by
  have e : inV (.int 1) (l.map bV) = l.contains true := by
    clear s h
    induction l with
    | nil => rfl
    | cons a l ih =>
      show (eqV (bV a) (.int 1) || inV (.int 1) (l.map bV)) = _
      rw [ih, List.contains_cons]
      cases a <;> rfl
  refine ⟨p, _, rfl, .inl s, rfl, ?_, by rw [if_neg Bool.false_ne_true, e]; exact h⟩
  rw [List.all_eq_true]
  intro x hx
  obtain ⟨b, _, rfl⟩ := List.mem_map.mp hx
  rfl
theorem filt_range {p : Nat → Bool} {f : Nat → Int} (i : Nat) : (((List.range (i + 1)).filter p).map f) = ((List.range i).filter p).map f ++ (if p i = true then [f i] else []) := by
  rw [List.range_succ, List.filter_append, List.map_append]
  congr 1
  by_cases c : p i = true
  · rw [if_pos c, List.filter_cons_of_pos c]; rfl
  · rw [if_neg c, List.filter_cons_of_neg c]; rfl
/-- the counts that the law reckons -/
def KindOf (S : Own) (h : Int) (ls : List Int) (m p sn : Option Int) : Prop := ∃ es : List (Int × List Str × Bool), RimsL S es ∧ ls.Perm (es.map (·.1)) ∧ ls.Pairwise (· ≤ ·) ∧
  ((((S.nums.length : Int) + 1 - (es.length : Int)) / 2 = 0 ∧ h = 0 ∧ m = none ∧ p = none ∧ sn = none) ∨
   (1 < ((S.nums.length : Int) + 1 - (es.length : Int)) / 2 ∧ h = ((S.nums.length : Int) + 1 - (es.length : Int)) / 2 ∧ m = none ∧ p = some ((partN S : Nat) : Int) ∧ SgnOf S (oV sn)) ∨
   (((S.nums.length : Int) + 1 - (es.length : Int)) / 2 ≠ 0 ∧ ¬1 < ((S.nums.length : Int) + 1 - (es.length : Int)) / 2 ∧ h = 1 ∧ m = some ((gcdZ ((S.mod : Int) :: (innerN S ++ ls.map fun e => e + (S.arm : Int))) : Nat) : Int) ∧ p = none ∧ sn = none))
def spLKind : Sp := fun vs H Q _ => ∃ (o fa na : Addr) (S : Own), vs = [.ref o] ∧ OwnAt H o fa na S ∧ S.Ok ∧ ∀ (q ep : Addr) (h : Int) (ls : List Int) (m p sn : Option Int) H', Same H H' → CtsAt H' q ep h ls m p sn → KindOf S h ls m p sn → Q (.ref q) H'
theorem ok_lkind (B : Bi K mg) (c_l_rims : C8.Cal P w K mg base 2 "_law_rims" spLRims []) (c_l_divisor : C8.Cal P w K mg base 1 "_law_divisor" (spLDiv K) []) (c_l_bands : C8.Cal P w K mg base 2 "_law_bands" (spBands K) []) (c_l_table : C8.Cal P w K mg base 2 "_law_table" (spLTable K) []) (c_l_parted : C8.Cal P w K mg base 3 "_law_parted" spParted []) (F : FnP K "_law_kind" st_l_kind f fd) : FnOk P w K mg base CX0 4 f fd ["own"] spLKind := by
  refine F.ok sc_l_kind (fun vs H Q E h => ?_) (fun cdv A outer s H vs Q E hr h => ?_)
  · obtain ⟨o, fa, na, S, rfl, _⟩ := h
    rfl
  · obtain ⟨o, fa, na, S, rfl, hO, hK, k⟩ := h
    have G := B
    have hO1 := hO.o_
    have hO3 := hO.n_
    have ha1 := hK.a1
    have ha2 := hK.a2
    have hm2 := hK.m2
    have hln := hK.ln
    refine ⟨_, PSs.nox ((pss_cons (ps_asg (pv 0) (pg_unl rfl (pgs_cons (pg_name (i := 1) sc_l_kind.nd rfl (Or.inr rfl)) (pgs_cons (pg_name (i := 2) sc_l_kind.nd rfl (Or.inl rfl)) (pgs_cons (pg_name (i := 3) sc_l_kind.nd rfl (Or.inl rfl)) (pgs_cons (pg_name (i := 4) sc_l_kind.nd rfl (Or.inr rfl)) pgs_nil))))))
      (C8.pss_cut (ps_set (i := 5) sc_l_kind.nd rfl (Or.inl rfl) (pe_callB cr_sortedI (by rfl) G.sorted (by decide +kernel) (pa_cons (pe_lc (own := [("rim", 12)]) rfl sc_l_kind.nd (pi_list (C8.pe_c c_l_rims hr (by decide) rfl (pa_cons (pv 0) pa_nil))) (blkOk_by (own := [("rim", 12)]) (N := ["own", "arm", "mod", "feet", "nums", "edges", "hands", "part", "sign", "names", "table", "inner", "rim", "k", "num"]) (sc := defScope st_l_kind) (by decide +kernel)) (fun _ _ _ _ _ => (pg_name (i := 12) sc_l_kind.nd rfl (Or.inl rfl))) (fun _ _ _ _ _ => pts_nil) (fun _ _ _ _ _ => (pe_ix (ix_listK (K := K) rfl) (pv 12) pe_int (fun _ _ => rfl)))) pa_nil)))
      (pss_cons (ps_set (i := 6) sc_l_kind.nd rfl (Or.inl rfl) (pe_op op_fdiv (pe_op op_sub (pe_op op_add (pe_callB call_lenDi (by rfl) G.len PySem.boot_len (pa_cons (pv 4) pa_nil)) pe_int) (pe_callB callLenS (by rfl) G.len PySem.boot_len (pa_cons (pv 5) pa_nil))) pe_int))
      (pss_cons (ps_if (pt_cmpR op_eq (pv 6) pe_int (nomark _))
        (pss_one (ps_ret (pe_lst (pa_cons pe_int (pa_cons (pv 5) (pa_cons pe_non (pa_cons pe_non (pa_cons pe_non pa_nil))))))))
        pss_nil)
      (pss_cons (ps_if (pt_cmpR op_gt (pv 6) pe_int (nomark _))
        (pss_cons (ps_asg (C8.pe_c c_l_parted hr (by decide) rfl (pa_cons (pv 0) pa_nil)) (pg_tup rfl (pgs_cons (pg_name (i := 7) sc_l_kind.nd rfl (Or.inl rfl)) (pgs_cons (pg_name (i := 8) sc_l_kind.nd rfl (Or.inl rfl)) pgs_nil))))
        (pss_one (ps_ret (pe_lst (pa_cons (pv 6) (pa_cons (pv 5) (pa_cons pe_non (pa_cons (pv 7) (pa_cons (pv 8) pa_nil)))))))))
        pss_nil)
      (pss_cons (ps_set (i := 9) sc_l_kind.nd rfl (Or.inr rfl) (C8.pe_c c_l_bands hr (by decide) rfl (pa_cons (pv 3) pa_nil)))
      (pss_cons (ps_set (i := 10) sc_l_kind.nd rfl (Or.inr rfl) (C8.pe_c c_l_table hr (by decide) rfl (pa_cons (pv 3) pa_nil)))
      (pss_cons (ps_setLc (i := 11) (own := [("k", 13)]) rfl sc_l_kind.nd rfl rfl (sw_true rfl rfl rfl (by decide +kernel)) (pi_range1 (by rfl) G.range (pa_cons (pe_callB callLenS (by rfl) G.len PySem.boot_len (pa_cons (pv 9) pa_nil)) pa_nil)) (blkOk_by (own := [("k", 13)]) (N := ["own", "arm", "mod", "feet", "nums", "edges", "hands", "part", "sign", "names", "table", "inner", "rim", "k", "num"]) (sc := defScope st_l_kind) (by decide +kernel)) (fun _ _ _ _ _ => (pg_name (i := 13) sc_l_kind.nd rfl (Or.inl rfl))) (fun _ _ _ _ _ => (pts_one (pt_cmpR (op_inSeqK (K := K) rfl) pe_int (pe_ix (ix_listK (K := K) rfl) (pv 10) (pv 13) (fun _ _ => rfl)) (by rfl)))) (fun _ _ _ _ _ => (pe_op op_sub (pe_dget (hu_of hr) (pv 4) (pe_ix (ix_listK (K := K) rfl) (pv 9) (pv 13) (fun _ _ => rfl)) (fun _ _ => rfl)) (pv 1))))
      (pss_one (ps_ret (pe_lst (pa_cons pe_int (pa_cons (pv 5) (pa_cons (C8.pe_c c_l_divisor hr (by decide) rfl (pa_cons (pe_op op_cat (pe_op op_cat (pe_lst (pa_cons (pv 2) pa_nil)) (pv 11)) (pe_lc (own := [("num", 14)]) rfl sc_l_kind.nd (pi_list (pv 5)) (blkOk_by (own := [("num", 14)]) (N := ["own", "arm", "mod", "feet", "nums", "edges", "hands", "part", "sign", "names", "table", "inner", "rim", "k", "num"]) (sc := defScope st_l_kind) (by decide +kernel)) (fun _ _ _ _ _ => (pg_name (i := 14) sc_l_kind.nd rfl (Or.inl rfl))) (fun _ _ _ _ _ => pts_nil) (fun _ _ _ _ _ => (pe_op op_add (pv 14) (pv 1))))) pa_nil)) (pa_cons pe_non (pa_cons pe_non pa_nil))))))))))))))))), ?_⟩
    try dsimp only [cxOf]
    walk_at "go"
    refine x_cut (fun σ H' => Same H H' ∧ ∃ (ep : Addr) (ls : List Int) (es : List (Int × List Str × Bool)), RimsL S es ∧ ls.Perm (es.map (·.1)) ∧ ls.Pairwise (· ≤ ·) ∧ H' ep = some (.lst (ls.map V.int)) ∧ σ = [some (.ref o), some (.int (S.arm : Nat)), some (.int (S.mod : Nat)), some (.ref fa), some (.ref na), some (.ref ep), none, none, none, none, none, none, none, none, none]) ?_ ?_
    · walk_at "go"
      refine ⟨o, fa, na, S, rfl, hO, hK, fun p es H1 hp0 s1 hR hRL => ?_⟩
      obtain ⟨xs, hx1, hx2, hx3⟩ := hR
      walk_at "go"
      have hel := rims_le hRL
      refine w_lcL (SqL.of hx1) (Nat.lt_of_le_of_lt (show _ ≤ 401 by omega) (by decide)) (fun i acc => acc = ((es.map (·.1)).take i).map V.int) rfl ?_ ?_
      · rintro i x H2 acc hx s2 rfl hai R S2 hR hS2
        have hi := (List.getElem?_eq_some_iff.mp hx).1
        obtain ⟨e, he⟩ : ∃ e, es[i]? = some e := ⟨_, List.getElem?_eq_getElem (by omega)⟩
        obtain ⟨q, r, rfl, _, _, g1, g2⟩ := hx3 i x e hx he
        have g1' := s2 _ _ g1
        walk_at "go"
        refine ⟨rfl, ?_⟩
        walk_at "go"
        refine hR _ _ (Same.refl _) ?_
        rw [take_snoc (show (es.map (·.1))[i]? = some e.1 by rw [List.getElem?_map, he]; rfl), List.map_append]; rfl
      · rintro r H2 acc hr0 s2 hr2 rfl
        rw [List.take_of_length_le (by rw [List.length_map]; omega)] at hr2
        walk_at "go"
        refine ⟨r, _, rfl, SqL.of hr2, fun ls q hperm hsort hq => ?_⟩
        walk_at "go"
        exact ⟨Same.trans s1 (Same.trans s2 (Same.new hq)), q, ls, es, hRL, hperm, hsort, upd_same, rfl⟩
    · rintro σ H1 ⟨s1, ep, ls, es, hRL, hperm, hsort, hep, rfl⟩
      have hll : ls.length = es.length := by rw [hperm.length_eq, List.length_map]
      have hel := rims_le hRL
      have hO2 := hO.same s1
      have hO21 := hO2.o_
      have hO23 := hO2.n_
      walk_at "go"
      refine x_lenDi hO23 ?_
      rw [show (dD V.int S.nums).length = S.nums.length from dD_len _ _]
      have hKo : ∀ h m p sn, ((((S.nums.length : Int) + 1 - (es.length : Int)) / 2 = 0 ∧ h = 0 ∧ m = none ∧ p = none ∧ sn = none) ∨
   (1 < ((S.nums.length : Int) + 1 - (es.length : Int)) / 2 ∧ h = ((S.nums.length : Int) + 1 - (es.length : Int)) / 2 ∧ m = none ∧ p = some ((partN S : Nat) : Int) ∧ SgnOf S (oV sn)) ∨
   (((S.nums.length : Int) + 1 - (es.length : Int)) / 2 ≠ 0 ∧ ¬1 < ((S.nums.length : Int) + 1 - (es.length : Int)) / 2 ∧ h = 1 ∧ m = some ((gcdZ ((S.mod : Int) :: (innerN S ++ ls.map fun e => e + (S.arm : Int))) : Nat) : Int) ∧ p = none ∧ sn = none)) → KindOf S h ls m p sn := fun h m p sn hc => ⟨es, hRL, hperm, hsort, hc⟩
      walk_at "go"
      rw [List.length_map, hll]
      generalize ((S.nums.length : Int) + 1 - (es.length : Int)) / 2 = hh at hKo ⊢
      have z5 : 5 ≤ sizeLine := by decide
      refine x_iteD (fun c0 => ?_) (fun c0 => ?_)
      · walk_at "go"
        refine ⟨z5, fun q hq => ?_⟩
        exact k q ep 0 ls none none none _ (Same.trans s1 (Same.new hq)) ⟨upd_same, upd_old hq hep⟩ (hKo _ _ _ _ (.inl ⟨c0, rfl, rfl, rfl, rfl⟩))
      · walk_at "go"
        refine x_iteD (fun c1 => ?_) (fun c1 => ?_)
        · walk_at "go"
          refine ⟨o, fa, na, S, rfl, hO2, hK, fun q v H2 s2 hq hsg => ?_⟩
          obtain ⟨sn, rfl⟩ : ∃ sn : Option Int, v = oV sn := by
            rcases hsg with ⟨_, e⟩ | ⟨_, e⟩
            · exact ⟨some _, e⟩
            · exact ⟨none, e⟩
          have hep2 := s2 _ _ hep
          walk_at "go"
          refine ⟨z5, fun q2 hq2 => ?_⟩
          exact k q2 ep hh ls none (some ((partN S : Nat) : Int)) sn _ (Same.trans s1 (Same.trans s2 (Same.new hq2))) ⟨upd_same, upd_old hq2 hep2⟩ (hKo _ _ _ _ (.inr (.inl ⟨c1, rfl, rfl, rfl, hsg⟩)))
        · walk_at "go"
          refine ⟨fa, S.feet, rfl, hO2.f_, hK.wd, by omega, fun bp H2 hbp0 s2 hbp => ?_⟩
          have hO3 := hO2.same s2
          walk_at "go"
          refine ⟨fa, S.feet, rfl, hO3.f_, hK.wd, by omega, fun t H3 ht0 s3 hT => ?_⟩
          have hO4 := hO3.same s3
          have hbp3 := s3 _ _ hbp
          have hbl : (bandsOf S.feet).length ≤ 400 := Nat.le_trans (bandsOf_len _) hln
          have hn4 := hO4.n_
          obtain ⟨rs, r1, r2, r3⟩ := hT.ex
          rw [tabW_len] at r2
          walk_at "go"
          rw [List.length_map]
          refine w_lcR1 (by omega) (by omega) (by rw [Int.toNat_natCast]; exact Nat.lt_of_le_of_lt hbl (by decide)) (fun i acc => acc = (((List.range i).filter fun k => ((tabW S.feet).getD k []).contains true).map fun k => numB S k - (S.arm : Int)).map V.int) rfl ?_ ?_
          · rintro i H4 acc hi s4 rfl hai R S2 hR hS2
            have hi : i < (bandsOf S.feet).length := by omega
            have hb : (bandsOf S.feet)[i]? = some ((bandsOf S.feet).getD i "") := by rw [List.getD_eq_getElem?_getD, List.getElem?_eq_getElem hi]; rfl
            obtain ⟨z, gz⟩ := has_num hK ((mem_bandsOf _ _).mp (List.mem_of_getElem? hb))
            have ez : numB S i = z := by unfold numB; rw [gz]; rfl
            have hn5 := s4 _ _ hn4
            have hbp4 := s4 _ _ hbp3
            have hr1 : rs[i]? = some rs[i] := List.getElem?_eq_getElem (by omega)
            generalize rs[i] = r at hr1
            have hrow : (tabW S.feet)[i]? = some ((tabW S.feet).getD i []) := by rw [List.getD_eq_getElem?_getD, List.getElem?_eq_getElem (by rw [tabW_len]; exact hi)]; rfl
            have hr4 := s4 _ _ (r3 i r _ hr1 hrow)
            have r14 := s4 _ _ r1
            have at1 : atI (rs.map V.ref) (0 + (i : Int)) = some (.ref r) := atI_of (k := i) (by omega) (by rw [List.getElem?_map, hr1]; rfl)
            have at2 : atI ((bandsOf S.feet).map V.str) (0 + (i : Int)) = some (.str ((bandsOf S.feet).getD i "")) := atI_of (k := i) (by omega) (by rw [List.getElem?_map, hb]; rfl)
            walk_at "go"
            refine ⟨rfl, ?_⟩
            walk_at "go"
            refine x_inB (SqL.of hr4) ?_
            walk_at "go"
            cases hc : ((tabW S.feet).getD i []).contains true with
            | true =>
              walk_at "go"
              refine x_dgetS (v := .int z) (.inl hn5) (by rw [valV_dD, gz]; rfl) ?_
              walk_at "go"
              refine hR _ _ (Same.refl _) ?_
              rw [filt_range, if_pos hc, List.map_append, ez]; rfl
            | false =>
              walk_at "go"
              refine hS2 _ (Same.refl _) ?_
              rw [filt_range, if_neg (by rw [hc]; decide), List.append_nil]
          · rintro inr H4 acc hin0 s4 hin rfl
            rw [Int.toNat_natCast] at hin
            have hin : H4 inr = some (.lst ((innerN S).map V.int)) := hin
            have hep4 := s4 _ _ (s3 _ _ (s2 _ _ hep))
            walk_at "go"
            have hinl : (innerN S).length ≤ 400 := by
              unfold innerN
              rw [List.length_map]
              have := List.length_filter_le (fun k => ((tabW S.feet).getD k []).contains true) (List.range (bandsOf S.feet).length)
              rw [List.length_range] at this
              omega
            refine ⟨by show 1 ≤ sizeLine; decide, fun p1 hp1 => ?_⟩
            have hin1 := upd_old (o := HO.lst [V.int (S.mod : Nat)]) hp1 hin
            have hep1 := upd_old (o := HO.lst [V.int (S.mod : Nat)]) hp1 hep4
            walk_at "go"
            refine x_cat (xs := [V.int (S.mod : Nat)]) (ys := (innerN S).map V.int) upd_same hin1 (by rw [List.length_map]; exact Nat.le_trans (show _ ≤ 401 by show 1 + (innerN S).length ≤ 401; omega) (by decide)) fun p2 hp2 => ?_
            have hep2 := upd_old (o := HO.lst ([V.int (S.mod : Nat)] ++ (innerN S).map V.int)) hp2 hep1
            have hc2 : (upd (upd H4 p1 (HO.lst [V.int (S.mod : Nat)])) p2 (HO.lst ([V.int (S.mod : Nat)] ++ (innerN S).map V.int))) p2 = some (.lst ([V.int (S.mod : Nat)] ++ (innerN S).map V.int)) := upd_same
            have s5 : Same H4 (upd (upd H4 p1 (HO.lst [V.int (S.mod : Nat)])) p2 (HO.lst ([V.int (S.mod : Nat)] ++ (innerN S).map V.int))) := Same.trans (Same.new hp1) (Same.new hp2)
            revert hep2 hc2 s5
            generalize (upd (upd H4 p1 (HO.lst [V.int (S.mod : Nat)])) p2 (HO.lst ([V.int (S.mod : Nat)] ++ (innerN S).map V.int))) = H5
            intro hep2 hc2 s5
            walk_at "go"
            refine w_lcL (SqL.of hep2) (by rw [List.length_map, hll]; exact Nat.lt_of_le_of_lt (show _ ≤ 401 by omega) (by decide)) (fun i acc => acc = ((ls.map fun e => e + (S.arm : Int)).take i).map V.int) rfl ?_ ?_
            · rintro i x H6 acc hx s6 rfl hai R S2 hR hS2
              obtain ⟨e, he, rfl⟩ : ∃ e, ls[i]? = some e ∧ x = .int e := by
                rw [List.getElem?_map] at hx
                cases e : ls[i]? with
                | none => rw [e] at hx; cases hx
                | some r => rw [e] at hx; exact ⟨r, rfl, (Option.some.inj hx).symm⟩
              walk_at "go"
              refine ⟨rfl, ?_⟩
              walk_at "go"
              refine hR _ _ (Same.refl _) ?_
              rw [take_snoc (show (ls.map fun e => e + (S.arm : Int))[i]? = some (e + (S.arm : Int)) by rw [List.getElem?_map, he]; rfl), List.map_append]; rfl
            · rintro p3 H6 acc hp3 s6 h6 rfl
              rw [List.length_map, List.take_of_length_le (by rw [List.length_map]; exact Nat.le_refl _)] at h6
              refine x_cat (xs := [V.int (S.mod : Nat)] ++ (innerN S).map V.int) (ys := (ls.map fun e => e + (S.arm : Int)).map V.int) (s6 _ _ hc2) h6 (by rw [List.length_map, List.length_map, List.length_append, List.length_map]; exact Nat.le_trans (show _ ≤ 802 by show 1 + (innerN S).length + ls.length ≤ 802; omega) (by decide)) fun p4 hp4 => ?_
              have s7 : Same H (upd H6 p4 (.lst ([V.int (S.mod : Nat)] ++ (innerN S).map V.int ++ (ls.map fun e => e + (S.arm : Int)).map V.int))) := Same.trans s1 (Same.trans s2 (Same.trans s3 (Same.trans s4 (Same.trans s5 (Same.trans s6 (Same.new hp4))))))
              have hep6 := upd_old (o := HO.lst ([V.int (S.mod : Nat)] ++ (innerN S).map V.int ++ (ls.map fun e => e + (S.arm : Int)).map V.int)) hp4 (s6 _ _ hep2)
              walk_at "go"
              refine ⟨p4, (S.mod : Int) :: (innerN S ++ ls.map fun e => e + (S.arm : Int)), rfl, SqL.of (by rw [upd_same, List.map_cons, List.map_append]; rfl), fun z hz => ?_, ?_⟩
              · rcases List.mem_cons.mp hz with e | hz
                · rw [e]; omega
                · rcases List.mem_append.mp hz with hz | hz
                  · obtain ⟨kk, _, rfl⟩ := List.mem_map.mp hz
                    have := num_abs hK ((bandsOf S.feet).getD kk "")
                    unfold numB
                    omega
                  · obtain ⟨e, he, rfl⟩ := List.mem_map.mp hz
                    have := rims_abs hK hRL e (hperm.mem_iff.mp he)
                    omega
              · walk_at "go"
                refine ⟨z5, fun q2 hq2 => ?_⟩
                exact k q2 ep 1 ls (some _) none none _ (Same.trans s7 (Same.new hq2)) ⟨upd_same, upd_old hq2 hep6⟩ (hKo _ _ _ _ (.inr (.inr ⟨c0, c1, rfl, rfl, rfl, rfl⟩)))
/-! ### the sign of block sheets -/
def hbB (h : Nat) (c : Bool) : List Nat := (List.range (2 * h)).map fun i => if i % 2 = 1 then 1 else if i / 2 + 1 = h ∨ (c = true ∧ i / 2 + 2 = h) then 0 else 1
def allB : Nat → List (List Nat)
  | 0 => [[]]
  | k + 1 => (allB k).flatMap fun l => [0 :: l, 1 :: l]
theorem allB_mem : ∀ l : List Nat, (∀ x ∈ l, x ≤ 1) → l ∈ allB l.length
  | [], _ => List.mem_singleton.mpr rfl
  | x :: l, h => by
    show x :: l ∈ (allB l.length).flatMap fun l => [0 :: l, 1 :: l]
    refine List.mem_flatMap.mpr ⟨l, allB_mem l fun y hy => h y (List.mem_cons_of_mem _ hy), ?_⟩
    have := h x (List.mem_cons_self ..)
    rcases show x = 0 ∨ x = 1 by omega with e | e
    · rw [e]; exact List.mem_cons_self ..
    · rw [e]; exact List.mem_cons_of_mem _ (List.mem_cons_self ..)
theorem arf_blk : ∀ h, h < 4 → 2 ≤ h → ∀ k, k < 4 → ∀ c : Bool, ∀ lb ∈ allB k, arfW (hbB h c ++ lb) (tabB h k) = if lb.any (fun x => decide (x = 1)) = true then 0 else if (h + (if c = true then 0 else 1)) % 2 = 0 then 1 else -1 := by decide +kernel
theorem red_parB {e mod : Nat} (he : 0 < e) (hm : (e : Int) ∣ (mod : Int)) (hv : ((mod : Int) / (e : Int)) % 2 = 0) {n : Int} (hn : (e : Int) ∣ n) : (redN mod n / (e : Int)) % 2 = (n / (e : Int)) % 2 := by
  obtain ⟨q, hq⟩ := red_sub mod n
  obtain ⟨a, rfl⟩ := hn
  obtain ⟨m, hm⟩ := hm
  have e0 : (e : Int) ≠ 0 := by omega
  rw [hm, Int.mul_ediv_cancel_left _ e0] at hv
  have h2 : redN mod ((e : Int) * a) = (e : Int) * (a + m * q) := by
    rw [Int.mul_add, ← Int.mul_assoc, ← hm]; omega
  rw [h2, Int.mul_ediv_cancel_left _ e0, Int.mul_ediv_cancel_left _ e0]
  obtain ⟨m', hm'⟩ : ∃ m', m = 2 * m' := ⟨m / 2, by omega⟩
  rw [hm', Int.mul_assoc]
  omega
/-! ### the counts of block sheets -/
def sgK (h : Nat) : Int := if h % 2 = 0 then 1 else -1
def shiftK (h : Nat) (m p : Int) (sn : Option Int) (i : Nat) : Int := if h = 1 then m else if i = h then p else if i + 1 = h ∧ sn = some (sgK h) then p else 0
def gvK (arm h : Nat) (ini : List Int) (m p : Int) (sn : Option Int) (i : Nat) : Int := if i < 2 * h then (if i % 2 = 0 then (arm : Int) + shiftK h m p sn (i / 2 + 1) else (arm : Int)) else ini.getD (i - 2 * h) 0 + (arm : Int)
theorem brk_ok {arm mod : Nat} {h : Int} {es : List Int} {m p s : Option Int} (e : brk arm mod h es m p s = "") : RimsOk mod es ∧ SumOk arm mod h es ∧ (h = 1 → MeasOk arm mod es (m.getD 0)) ∧ (2 ≤ h → ShareOk arm mod es (p.getD 0) ∧ BalOk arm mod es (p.getD 0) s) := by
  have h1 : RimsOk mod es := Classical.byContradiction fun z => by rw [brk_1 z] at e; exact absurd e (by decide)
  have h2 : SumOk arm mod h es := Classical.byContradiction fun z => by rw [brk_2 h1 z] at e; exact absurd e (by decide)
  refine ⟨h1, h2, fun c => Classical.byContradiction fun z => by rw [brk_3n h1 h2 c z] at e; exact absurd e (by decide), fun c => ?_⟩
  have h3 : ShareOk arm mod es (p.getD 0) := Classical.byContradiction fun z => by rw [brk_5 h1 h2 c z] at e; exact absurd e (by decide)
  exact ⟨h3, Classical.byContradiction fun z => by rw [brk_6n h1 h2 c h3 z] at e; exact absurd e (by decide)⟩
section
variable {arm mod h k : Nat} {ini : List Int} {la m p : Int} {sn : Option Int}
theorem gvK_a {i : Nat} (hi : i < h) : gvK arm h ini m p sn (2 * i) = (arm : Int) + shiftK h m p sn (i + 1) := by
  unfold gvK
  rw [if_pos (by omega), if_pos (by omega), show 2 * i / 2 = i by omega]
theorem gvK_b {i : Nat} (hi : i < h) : gvK arm h ini m p sn (2 * i + 1) = (arm : Int) := by
  unfold gvK
  rw [if_pos (by omega), if_neg (by omega)]
theorem gvK_c {j : Nat} : gvK arm h ini m p sn (2 * h + j) = ini.getD j 0 + (arm : Int) := by
  unfold gvK
  rw [if_neg (by omega), show 2 * h + j - 2 * h = j by omega]
theorem ini_at {j : Nat} {r : Int} (e : ini[j]? = some r) : ini.getD j 0 = r := by rw [List.getD_eq_getElem?_getD, e]; rfl
/-- the share of a block sheet -/
theorem blk_part (hl : ini.length = k) (h2 : 2 ≤ h) (hs : ShareOk arm mod (ini ++ [la]) p) (ha : 1 ≤ arm) : ((partN (blkO arm mod h k (gvK arm h ini m p sn)) : Nat) : Int) = p := by
  obtain ⟨p1, pa, pm, pe⟩ := hs
  obtain ⟨q, rfl⟩ : ∃ q : Nat, p = (q : Int) := ⟨p.toNat, by omega⟩
  have hv : ∀ i, i < 2 * h + k → (q : Int) ∣ gvK arm h ini m (q : Int) sn i := fun i hi => by
    by_cases c : i < 2 * h
    · obtain ⟨j, hj⟩ : ∃ j, i = 2 * j ∨ i = 2 * j + 1 := ⟨i / 2, by omega⟩
      rcases hj with e | e
      · rw [e, gvK_a (by omega)]
        refine Int.dvd_add pa ?_
        unfold shiftK
        rw [if_neg (by omega)]
        split
        · exact Int.dvd_refl _
        · split
          · exact Int.dvd_refl _
          · exact Int.dvd_zero _
      · rw [e, gvK_b (by omega)]; exact pa
    · obtain ⟨j, rfl⟩ : ∃ j, i = 2 * h + j := ⟨i - 2 * h, by omega⟩
      rw [gvK_c]
      have hj : ini[j]? = some ini[j] := List.getElem?_eq_getElem (by omega)
      rw [ini_at hj]
      exact Int.dvd_add (pe _ (List.mem_append_left _ (List.mem_of_getElem? hj))) pa
  congr 1
  refine Nat.dvd_antisymm ?_ ?_
  · have hp := (dvd_gcdZ (partN (blkO arm mod h k (gvK arm h ini m (q : Int) sn))) _).mp (Nat.dvd_refl (partN (blkO arm mod h k (gvK arm h ini m (q : Int) sn))))
    have d1 := hp (arm : Int) (List.mem_cons_self ..)
    have d2 := hp (mod : Int) (List.mem_cons_of_mem _ (List.mem_cons_self ..))
    have d3 := hp (redN mod (gvK arm h ini m (q : Int) sn (2 * (h - 1)))) (List.mem_cons_of_mem _ (List.mem_cons_of_mem _ (List.mem_map.mpr ⟨(nmW (2 * (h - 1)), redN mod (gvK arm h ini m (q : Int) sn (2 * (h - 1)))), List.mem_map.mpr ⟨2 * (h - 1), List.mem_range.mpr (by omega), rfl⟩, rfl⟩)))
    rw [dvd_redN d2, gvK_a (by omega)] at d3
    have e : shiftK h m (q : Int) sn (h - 1 + 1) = (q : Int) := by
      unfold shiftK
      rw [if_neg (by omega), if_pos (by omega)]
    rw [e] at d3
    exact Int.natCast_dvd_natCast.mp ((Int.dvd_add_right d1).mp d3)
  · refine (dvd_gcdZ _ _).mpr fun z hz => ?_
    rcases List.mem_cons.mp hz with e | hz
    · rw [e]; exact pa
    · rcases List.mem_cons.mp hz with e | hz
      · rw [e]; exact pm
      · obtain ⟨x, hx, rfl⟩ := List.mem_map.mp hz
        obtain ⟨i, hi, rfl⟩ := List.mem_map.mp hx
        exact (dvd_redN pm).mpr (hv i (List.mem_range.mp hi))
end
section
variable {arm mod h k : Nat} {ini : List Int} {la m p : Int} {sn : Option Int}
theorem bitsN_blk (hh : h < 4) (hk : k < 4) (gv : Nat → Int) : bitsN (blkO arm mod h k gv) = (List.range (2 * h + k)).map fun i => (redN mod (gv i) / ((partN (blkO arm mod h k gv) : Nat) : Int) % 2).toNat := by
  unfold bitsN
  rw [show bandsOf (blkO arm mod h k gv).feet = (List.range (2 * h + k)).map nmW from blkW_bands h hh k hk, List.map_map]
  refine List.map_congr_left fun i hi => ?_
  show ((aGet (blkO arm mod h k gv).nums (nmW i)).getD 0 / _ % 2).toNat = _
  rw [blkO_get (List.mem_range.mp hi)]
  rfl
theorem blk_bits (hh : h < 4) (hk : k < 4) (hl : ini.length = k) (h2 : 2 ≤ h) (hs : ShareOk arm mod (ini ++ [la]) p) (ha : 1 ≤ arm) (hb : HasBal arm mod p) : bitsN (blkO arm mod h k (gvK arm h ini m p sn)) = hbB h (decide (sn = some (sgK h))) ++ ini.map fun r => ((r + (arm : Int)) / p % 2).toNat := by
  rw [bitsN_blk hh hk, blk_part hl h2 hs ha]
  obtain ⟨p1, pa, pm, pe⟩ := hs
  obtain ⟨q, rfl⟩ : ∃ q : Nat, p = (q : Int) := ⟨p.toNat, by omega⟩
  obtain ⟨b1, b2⟩ := hb
  have q0 : (q : Int) ≠ 0 := by omega
  rw [List.range_add, List.map_append, List.map_map]
  congr 1
  · unfold hbB
    refine List.map_congr_left fun i hi => ?_
    have hi := List.mem_range.mp hi
    obtain ⟨j, hj⟩ : ∃ j, i = 2 * j ∨ i = 2 * j + 1 := ⟨i / 2, by omega⟩
    rcases hj with e | e
    · subst e
      rw [if_neg (by omega), show 2 * j / 2 = j by omega, gvK_a (by omega)]
      by_cases c : j + 1 = h ∨ (decide (sn = some (sgK h)) = true ∧ j + 2 = h)
      · rw [if_pos c]
        have e : shiftK h m (q : Int) sn (j + 1) = (q : Int) := by
          unfold shiftK
          rw [if_neg (by omega)]
          rcases c with c | ⟨c1, c2⟩
          · rw [if_pos c]
          · rw [if_neg (by omega), if_pos ⟨by omega, of_decide_eq_true c1⟩]
        rw [e, red_parB (by omega) pm b2 (Int.dvd_add pa (Int.dvd_refl _))]
        rw [Int.add_ediv_of_dvd_right (Int.dvd_refl _), Int.ediv_self q0]
        omega
      · rw [if_neg c]
        have e : shiftK h m (q : Int) sn (j + 1) = 0 := by
          unfold shiftK
          rw [if_neg (by omega), if_neg (fun z => c (.inl z)), if_neg (fun z => c (.inr ⟨decide_eq_true z.2, by omega⟩))]
        rw [e, Int.add_zero, red_parB (by omega) pm b2 pa, b1]; rfl
    · subst e
      rw [if_pos (by omega), gvK_b (by omega), red_parB (by omega) pm b2 pa, b1]; rfl
  · rw [← hl]
    refine List.ext_getElem? fun j => ?_
    rw [List.getElem?_map, List.getElem?_map]
    by_cases c : j < ini.length
    · rw [List.getElem?_range c]
      have hj : ini[j]? = some ini[j] := List.getElem?_eq_getElem c
      rw [hj]
      show some ((redN mod (gvK arm h ini m (q : Int) sn (2 * h + j)) / (q : Int) % 2).toNat) = some _
      rw [gvK_c, ini_at hj, red_parB (by omega) pm b2 (Int.dvd_add (pe _ (List.mem_append_left _ (List.mem_of_getElem? hj))) pa)]
    · rw [List.getElem?_eq_none (by rw [List.length_range]; omega), List.getElem?_eq_none (by omega)]; rfl
theorem sum_div {q : Int} {a : Int} (q0 : q ≠ 0) (ha : q ∣ a) : ∀ l : List Int, (∀ e ∈ l, q ∣ e) → (l.map fun e => (e + a) / q).sum = l.sum / q + (l.length : Int) * (a / q)
  | [], _ => by simp
  | e :: l, h => by
    have h1 := sum_div q0 ha l fun x hx => h x (List.mem_cons_of_mem _ hx)
    have h2 := h e (List.mem_cons_self ..)
    rw [List.map_cons, List.sum_cons, List.sum_cons, h1, Int.add_ediv_of_dvd_left h2, Int.add_ediv_of_dvd_left h2, List.length_cons, Int.natCast_add, Int.add_mul]
    omega
theorem sum_dvd {q : Int} : ∀ l : List Int, (∀ e ∈ l, q ∣ e) → q ∣ l.sum
  | [], _ => Int.dvd_zero _
  | e :: l, h => by
    rw [List.sum_cons]
    exact Int.dvd_add (h e (List.mem_cons_self ..)) (sum_dvd l fun x hx => h x (List.mem_cons_of_mem _ hx))
theorem sum_even : ∀ l : List Int, (∀ e ∈ l, e % 2 = 0) → l.sum % 2 = 0
  | [], _ => rfl
  | e :: l, h => by
    have h1 := sum_even l fun x hx => h x (List.mem_cons_of_mem _ hx)
    have h2 := h e (List.mem_cons_self ..)
    rw [List.sum_cons]
    omega
/-- an odd rim has a fellow -/
theorem odd_rim (hs : ShareOk arm mod (ini ++ [la]) p) (hb : HasBal arm mod p) (hsum : SumOk arm mod (h : Int) (ini ++ [la])) : OddRim arm (ini ++ [la]) p ↔ ∃ e ∈ ini, (e + (arm : Int)) / p % 2 = 1 := by
  obtain ⟨p1, pa, pm, pe⟩ := hs
  obtain ⟨b1, b2⟩ := hb
  have q0 : p ≠ 0 := by omega
  constructor
  · rintro ⟨e, he, h1⟩
    refine Classical.byContradiction fun hn => ?_
    have hall : ∀ x ∈ ini, (x + (arm : Int)) / p % 2 = 0 := fun x hx => by
      have : ¬(x + (arm : Int)) / p % 2 = 1 := fun z => hn ⟨x, hx, z⟩
      omega
    have hla : (la + (arm : Int)) / p % 2 = 1 := by
      rcases List.mem_append.mp he with z | z
      · have := hall e z
        omega
      · rw [← List.mem_singleton.mp z]; exact h1
    have s1 := sum_div q0 pa (ini ++ [la]) pe
    rw [List.map_append, List.sum_append, List.map_singleton, List.sum_singleton] at s1
    have s2 := sum_even (ini.map fun e => (e + (arm : Int)) / p) fun x hx => by
      obtain ⟨y, hy, rfl⟩ := List.mem_map.mp hx
      exact hall y hy
    unfold SumOk at hsum
    obtain ⟨S, hS⟩ := sum_dvd (ini ++ [la]) pe
    obtain ⟨a, ha⟩ := pa
    obtain ⟨m', hm'⟩ := pm
    obtain ⟨c, hc⟩ := hsum
    rw [ha, Int.mul_ediv_cancel_left _ q0] at b1
    rw [hm', Int.mul_ediv_cancel_left _ q0] at b2
    have e1 : (ini ++ [la]).sum / p = S := by rw [hS, Int.mul_ediv_cancel_left _ q0]
    have e2 : (arm : Int) / p = a := by rw [ha, Int.mul_ediv_cancel_left _ q0]
    rw [e1, e2] at s1
    generalize ((ini ++ [la]).length : Int) = n at s1 hc
    rw [hS, ha, hm'] at hc
    have e3 : p * (S - a * (2 - 2 * (h : Int) - n)) = p * (m' * c) := by
      rw [Int.mul_sub, ← Int.mul_assoc, ← Int.mul_assoc, hc]
    have e4 := Int.eq_of_mul_eq_mul_left q0 e3
    obtain ⟨m2, hm2⟩ : ∃ m2, m' = 2 * m2 := ⟨m' / 2, by omega⟩
    obtain ⟨a2, ha2⟩ : ∃ a2, a = 2 * a2 + 1 := ⟨a / 2, by omega⟩
    rw [hm2, Int.mul_assoc] at e4
    have e5 : a * (2 - 2 * (h : Int) - n) = 2 * (a * (1 - (h : Int))) - n * a := by
      rw [show (2 - 2 * (h : Int) - n) = 2 * (1 - (h : Int)) - n by omega, Int.mul_sub, Int.mul_comm a n]
      congr 1
      rw [Int.mul_comm a, Int.mul_assoc, Int.mul_comm _ a]
    rw [e5] at e4
    omega
  · rintro ⟨e, he, h1⟩
    exact ⟨e, List.mem_append_left _ he, h1⟩
/-- the sign of a block sheet -/
theorem blk_sign (hh : h < 4) (hk : k < 4) (hl : ini.length = k) (h2 : 2 ≤ h) (hs : ShareOk arm mod (ini ++ [la]) p) (ha : 1 ≤ arm) (hb : HasBal arm mod p) (hsum : SumOk arm mod (h : Int) (ini ++ [la])) {z : Int} (hz : z = 1 ∨ z = 0 ∨ z = -1) (e : sn = some z) (hod : z = 0 ↔ OddRim arm (ini ++ [la]) p) :
    arfW (bitsN (blkO arm mod h k (gvK arm h ini m p sn))) (tabW (blkO arm mod h k (gvK arm h ini m p sn)).feet) = z := by
  rw [blk_bits hh hk hl h2 hs ha hb, show tabW (blkO arm mod h k (gvK arm h ini m p sn)).feet = tabB h k from blkW_tab h hh k hk]
  rw [odd_rim hs hb hsum] at hod
  have hm := allB_mem (ini.map fun r => ((r + (arm : Int)) / p % 2).toNat) fun x hx => by
    obtain ⟨y, _, rfl⟩ := List.mem_map.mp hx
    omega
  rw [List.length_map, hl] at hm
  rw [arf_blk h hh h2 k hk _ _ hm]
  have hany : ((ini.map fun r => ((r + (arm : Int)) / p % 2).toNat).any fun x => decide (x = 1)) = true ↔ ∃ e ∈ ini, (e + (arm : Int)) / p % 2 = 1 := by
    rw [List.any_eq_true]
    constructor
    · rintro ⟨x, hx, h1⟩
      obtain ⟨y, hy, rfl⟩ := List.mem_map.mp hx
      have := of_decide_eq_true h1
      exact ⟨y, hy, by omega⟩
    · rintro ⟨y, hy, h1⟩
      exact ⟨_, List.mem_map.mpr ⟨y, hy, rfl⟩, decide_eq_true (by rw [h1]; rfl)⟩
  by_cases c : z = 0
  · rw [if_pos (hany.mpr (hod.mp c)), c]
  · rw [if_neg fun y => c (hod.mpr (hany.mp y)), e]
    have h3 : h = 2 ∨ h = 3 := by omega
    rcases h3 with e3 | e3 <;> subst e3
    · rcases hz with e | e | e
      · subst e; rfl
      · exact absurd e c
      · subst e; rfl
    · rcases hz with e | e | e
      · subst e; rfl
      · exact absurd e c
      · subst e; rfl
end
theorem inner_blk : ∀ k, k < 4 → ((List.range (2 + k)).filter fun i => ((tabB 1 k).getD i []).contains true) = [0, 1] := by decide +kernel
theorem numB_blk {arm mod h k : Nat} {gv : Nat → Int} (hh : h < 4) (hk : k < 4) {i : Nat} (hi : i < 2 * h + k) : numB (blkO arm mod h k gv) i = redN mod (gv i) := by
  unfold numB
  rw [show bandsOf (blkO arm mod h k gv).feet = (List.range (2 * h + k)).map nmW from blkW_bands h hh k hk]
  have : ((List.range (2 * h + k)).map nmW).getD i "" = nmW i := by rw [List.getD_eq_getElem?_getD, List.getElem?_map, List.getElem?_range hi]; rfl
  rw [this, blkO_get hi]; rfl
theorem blk_meas {arm mod k : Nat} {ini : List Int} {la m p : Int} {sn : Option Int} (hk : k < 4) (hM : MeasOk arm mod (ini ++ [la]) m) : ((gcdZ ((mod : Int) :: (innerN (blkO arm mod 1 k (gvK arm 1 ini m p sn)) ++ (ini ++ [la]).map fun e => e + (arm : Int))) : Nat) : Int) = m := by
  obtain ⟨m0, m1, m2⟩ := hM
  obtain ⟨q, rfl⟩ : ∃ q : Nat, m = (q : Int) := ⟨m.toNat, by omega⟩
  have e0 : innerN (blkO arm mod 1 k (gvK arm 1 ini (q : Int) p sn)) = [redN mod ((arm : Int) + (q : Int)) - (arm : Int), redN mod (arm : Int) - (arm : Int)] := by
    unfold innerN
    rw [show bandsOf (blkO arm mod 1 k (gvK arm 1 ini (q : Int) p sn)).feet = (List.range (2 * 1 + k)).map nmW from blkW_bands 1 (by decide) k hk, List.length_map, List.length_range,
      show tabW (blkO arm mod 1 k (gvK arm 1 ini (q : Int) p sn)).feet = tabB 1 k from blkW_tab 1 (by decide) k hk, show 2 * 1 + k = 2 + k from rfl, inner_blk k hk]
    show [numB _ 0 - (arm : Int), numB _ 1 - (arm : Int)] = _
    rw [numB_blk (by decide) hk (by omega), numB_blk (by decide) hk (by omega)]
    rfl
  rw [e0]
  have r1 := red_sub mod ((arm : Int) + (q : Int))
  have r2 := red_sub mod (arm : Int)
  congr 1
  refine Nat.dvd_antisymm ?_ ?_
  · have hp := (dvd_gcdZ (gcdZ ((mod : Int) :: ([redN mod ((arm : Int) + (q : Int)) - (arm : Int), redN mod (arm : Int) - (arm : Int)] ++ (ini ++ [la]).map fun e => e + (arm : Int)))) _).mp (Nat.dvd_refl _)
    have d1 := hp (mod : Int) (List.mem_cons_self ..)
    have d2 := hp (redN mod ((arm : Int) + (q : Int)) - (arm : Int)) (List.mem_cons_of_mem _ (List.mem_cons_self ..))
    have d3 := Int.dvd_sub d2 (Int.dvd_trans d1 r1)
    rw [show redN mod ((arm : Int) + (q : Int)) - (arm : Int) - (redN mod ((arm : Int) + (q : Int)) - ((arm : Int) + (q : Int))) = (q : Int) by omega] at d3
    exact Int.natCast_dvd_natCast.mp d3
  · refine (dvd_gcdZ _ _).mpr fun z hz => ?_
    rcases List.mem_cons.mp hz with e | hz
    · rw [e]; exact m1
    · rcases List.mem_append.mp hz with hz | hz
      · rcases List.mem_cons.mp hz with e | hz
        · rw [e, show redN mod ((arm : Int) + (q : Int)) - (arm : Int) = (redN mod ((arm : Int) + (q : Int)) - ((arm : Int) + (q : Int))) + (q : Int) by omega]
          exact Int.dvd_add (Int.dvd_trans m1 r1) (Int.dvd_refl _)
        · rw [List.mem_singleton.mp hz]
          exact Int.dvd_trans m1 r2
      · obtain ⟨e, he, rfl⟩ := List.mem_map.mp hz
        exact m2 e he
theorem blk_kind {arm mod h k : Nat} {ini : List Int} {la : Int} {m p sn : Option Int} {h' : Int} {ls : List Int} {m' p' sn' : Option Int} (hh : h < 4) (hk : k < 4) (hl : ini.length = k) (ha : 1 ≤ arm) (hF : Formed (h : Int) m p sn) (hb : brk arm mod (h : Int) (ini ++ [la]) m p sn = "") (hKO : KindOf (blkO arm mod h k (gvK arm h ini (m.getD 0) (p.getD 0) sn)) h' ls m' p' sn') : h' = (h : Int) ∧ ls = ini ++ [la] ∧ m' = m ∧ p' = p ∧ sn' = sn := by
  obtain ⟨b1, b2, b3, b4⟩ := brk_ok hb
  obtain ⟨f1, f2, f3, f4⟩ := hF
  obtain ⟨es, hR, hperm, hsort, hc⟩ := hKO
  have hg : ∀ j r, ini[j]? = some r → gvK arm h ini (m.getD 0) (p.getD 0) sn (2 * h + j) = r + (arm : Int) := fun j r e => by rw [gvK_c, ini_at e]
  have hrims := blk_rims hh hk hl hg b1 b2 hR
  have hls : ls = ini ++ [la] := (sorted_eq (hrims.symm.trans hperm.symm) b1.2.1).mpr hsort
  have hel : es.length = k + 1 := by
    have := hrims.length_eq
    rw [List.length_map, List.length_append, List.length_singleton, hl] at this
    exact this
  have hnl : (blkO arm mod h k (gvK arm h ini (m.getD 0) (p.getD 0) sn)).nums.length = 2 * h + k := by
    unfold blkO
    rw [List.length_map, List.length_range]
  rw [hel, hnl, show (((2 * h + k : Nat) : Int) + 1 - ((k + 1 : Nat) : Int)) / 2 = (h : Int) by omega] at hc
  have none_of : ∀ {o : Option Int}, ¬(o.isSome = true) → o = none := fun {o} z => by cases o with
    | none => rfl
    | some v => exact absurd rfl z
  rcases hc with ⟨c, e1, e2, e3, e4⟩ | ⟨c, e1, e2, e3, e4⟩ | ⟨c, c1, e1, e2, e3, e4⟩
  · have hm : m = none := none_of fun z => by have := f2.mp z; omega
    have hp : p = none := none_of fun z => by have := f3.mp z; omega
    have hs : sn = none := by
      rcases f4 with e | ⟨e, _⟩
      · exact e
      · omega
    exact ⟨by omega, hls, by rw [e2, hm], by rw [e3, hp], by rw [e4, hs]⟩
  · have hm : m = none := none_of fun z => by have := f2.mp z; omega
    obtain ⟨s1, s2⟩ := b4 (by omega)
    obtain ⟨pv, hp⟩ : ∃ pv, p = some pv := by
      have := f3.mpr (by omega)
      cases p with
      | none => cases this
      | some v => exact ⟨v, rfl⟩
    subst hp
    have hpt := blk_part (m := m.getD 0) (sn := sn) hl (show 2 ≤ h by omega) s1 ha
    have hpt' : ((partN (blkO arm mod h k (gvK arm h ini (m.getD 0) ((some pv).getD 0) sn)) : Nat) : Int) = (some pv).getD 0 := hpt
    unfold SgnOf at e4
    rw [hpt'] at e3 e4
    refine ⟨e1, hls, by rw [e2, hm], e3, ?_⟩
    have oi : ∀ {o : Option Int} {x : Int}, oV o = V.int x → o = some x := fun {o x} z => by
      cases o with
      | none => cases z
      | some y => injection z with z; rw [z]
    have on : ∀ {o : Option Int}, oV o = V.non → o = none := fun {o} z => by
      cases o with
      | none => rfl
      | some y => cases z
    rcases e4 with ⟨g1, g2⟩ | ⟨g1, g2⟩
    · rcases s2 with ⟨_, z, ez, hod⟩ | ⟨t, _⟩
      · have hz : z = 1 ∨ z = 0 ∨ z = -1 := by
          rcases f4 with e | ⟨_, e⟩
          · rw [e] at ez; cases ez
          · rw [ez] at e
            rcases e with e | e | e
            · exact .inl (Option.some.inj e)
            · exact .inr (.inl (Option.some.inj e))
            · exact .inr (.inr (Option.some.inj e))
        have hsg := blk_sign (m := m.getD 0) hh hk hl (by omega) s1 ha g1 b2 hz ez hod
        rw [hsg] at g2
        rw [oi g2, ez]
      · exact absurd g1 t
    · rcases s2 with ⟨t, _⟩ | ⟨_, t⟩
      · exact absurd t g1
      · rw [on g2, t]
  · have h1 : h = 1 := by omega
    subst h1
    have hp : p = none := none_of fun z => by have := f3.mp z; omega
    have hs : sn = none := by
      rcases f4 with e | ⟨e, _⟩
      · exact e
      · omega
    obtain ⟨mv, hm⟩ : ∃ mv, m = some mv := by
      have := f2.mpr rfl
      cases m with
      | none => cases this
      | some v => exact ⟨v, rfl⟩
    subst hm
    refine ⟨e1, hls, ?_, by rw [e3, hp], by rw [e4, hs]⟩
    rw [e2, hls]
    exact congrArg some (blk_meas hk (b3 rfl))
theorem x_isTupT {K : PySem.W.Frag} {H : Hp} {Q : VK} {p : Addr} {xs : List V} (s : SqT K H p xs) (k : Q (.bl true) H) : rIsi K [.ref p, .ty "tuple"] H Q := by
  have e : PySem.W.kitOne K (.type "tuple") (.type "tuple") = some true := kit_ty (by decide +kernel)
  rcases s with (h | ⟨o, h⟩) | ⟨o, its, n, h, c, _⟩
  · exact ⟨_, _, _, _, _, rfl, .ty _, .base (.tup h), e, k⟩
  · exact ⟨_, _, _, _, _, rfl, .ty _, .fTuple h, e, k⟩
  · exact ⟨_, _, _, _, _, rfl, .ty _, .kTuple h c, e, k⟩
theorem x_isDk {K : PySem.W.Frag} {H : Hp} {Q : VK} {p : Addr} {kvs : List (Key × V)} (h : H p = some (.dK kvs)) (k : Q (.bl true) H) : rIsi K [.ref p, .ty "dict"] H Q := x_isTy (.dK h) (kit_ty (by decide +kernel)) k
def spOwn (K : PySem.W.Frag) : Sp := fun vs H Q _ => ∃ (a : Addr) (arm mod : Nat) (feet : List Str) (told : List (Str × Int)), vs = [.ref a, .int arm, .int mod] ∧ SheetAt K H a arm mod feet told ∧ WordF K H a feet ∧ IsWord feet ∧ feet.length ≤ 400 ∧ ∀ (o fa na : Addr) H', Same H H' → OwnAt H' o fa na ⟨arm, mod, feet, told⟩ → Q (.ref o) H'
theorem ok_lown (B : Bi K mg) (g_Sheet : mg "Sheet" = some (.ref (He.ga K "Sheet"))) (g_Book : mg "Book" = some (.ref (He.ga K "Book"))) (iS : C8.InsC K (He.ga K "Sheet")) (iB : C8.InsC K (He.ga K "Book")) (m_Sheet_numbers : C8.Met P w K mg base 1 (He.ga K "Sheet") "numbers" (spNumbers K) []) (c_l_like : C8.Cal P w K mg base 3 "_law_like" (spSqL (spOr (spSqT spLikeO) spLikeO)) []) (F : FnP K "_law_own" st_l_own f fd) : FnOk P w K mg base CX0 4 f fd ["told", "arm", "mod"] (spOwn K) := by
  refine F.ok sc_l_own (fun vs H Q E h => ?_) (fun cdv A outer s H vs Q E hr h => ?_)
  · obtain ⟨a, arm, mod, feet, told, rfl, _⟩ := h
    rfl
  · obtain ⟨a, arm, mod, feet, told, rfl, hS, hF, hW, hl, k⟩ := h
    have G := B
    have cS := G.cls_Sheet
    have cB := G.cls_Book
    have n0 := G.na_Book_arms
    have n00 := G.na_Book_modulus
    have n1 := G.na_Sheet_book
    have n2 := G.na_Sheet_word
    obtain ⟨dx, bk, wd, ft, bs, td, hA, ⟨db, hB⟩, hWd, h4, h5, h6⟩ := hS.ex
    refine ⟨_, PSs.nox ((pss_cons (ps_if (PW.pt (pw_or (pt_not (pt_val (pe_callB call_isi (by rfl) G.isinstance (by decide +kernel) (pa_cons (pv 0) (pa_cons (pe_glob (v := .ref (He.ga K "Sheet")) rfl g_Sheet rfl) pa_nil))))) (pw_or (pt_not (pt_val (pe_callB call_isi (by rfl) G.isinstance (by decide +kernel) (pa_cons (pe_fld (pv 0) (by rfl)) (pa_cons (pe_glob (v := .ref (He.ga K "Book")) rfl g_Book rfl) pa_nil))))) (pw_or1 (pt_not (pt_val (C8.pe_c c_l_like hr (by decide) rfl (pa_cons (pe_lst (pa_cons (pe_fld (pe_fld (pv 0) (by rfl)) (by rfl)) (pa_cons (pe_fld (pe_fld (pv 0) (by rfl)) (by rfl)) pa_nil))) (pa_cons (pe_lst (pa_cons (pv 1) (pa_cons (pv 2) pa_nil))) pa_nil)))))))))
        (pss_one ps_never)
        pss_nil)
      (pss_cons (ps_set (i := 3) sc_l_own.nd rfl (Or.inr rfl) (pe_fld (pv 0) (by rfl)))
      (pss_cons (ps_set (i := 4) sc_l_own.nd rfl (Or.inr rfl) (C8.pe_mt0 m_Sheet_numbers hr (by decide) (pv 0)))
      (pss_cons (ps_if (PW.pt (pw_or (pt_not (pt_val (pe_callB call_isi (by rfl) G.isinstance (by decide +kernel) (pa_cons (pv 3) (pa_cons (pe_bltn (v := .ty "tuple") (u := .type "tuple") (by rfl) G.tuple (by decide +kernel) rfl) pa_nil))))) (pw_or (pt_not (pt_val (pe_callB call_isi (by rfl) G.isinstance (by decide +kernel) (pa_cons (pv 4) (pa_cons (pe_bltn (v := .ty "dict") (u := .type "dict") (by rfl) G.dict (by decide +kernel) rfl) pa_nil))))) (pw_or1 (pt_cmpR (op_neD hr.units) (pe_lc (own := [("name", 5)]) rfl sc_l_own.nd (pi_tup (pv 3)) (blkOk_by (own := [("name", 5)]) (N := ["told", "arm", "mod", "feet", "nums", "name", "num"]) (sc := defScope st_l_own) (by decide +kernel)) (fun _ _ _ _ _ => (pg_name (i := 5) sc_l_own.nd rfl (Or.inl rfl))) (fun _ _ _ _ _ => (pts_one (PW.pt (pw_or (pt_not (pt_val (pe_callB (call_isiJ (K := K) rfl) (by rfl) G.isinstance (by decide +kernel) (pa_cons (pv 5) (pa_cons (pe_bltn (v := .ty "str") (u := .type "str") (by rfl) G.str (by decide +kernel) rfl) pa_nil))))) (pw_or1 (pt_cmpR op_ne (pe_bmT PySem.F.plainAttrs_tuple PySem.F.slot_tuple_count PySem.F.type_tuple_count (mt_tcountSK (K := K) rfl) (pv 3) (pa_cons (pv 5) pa_nil)) pe_int (nomark _))))))) (fun _ _ _ _ _ => (pv 5))) (pe_lst pa_nil) (nomark _))))))
        (pss_one ps_never)
        pss_nil)
      (pss_cons (ps_if (PW.pt (pw_or (pt_cmpR op_ne (pe_op op_mul pe_int (pe_callB call_lenDi (by rfl) G.len PySem.boot_len (pa_cons (pv 4) pa_nil))) (pe_callB callLenS (by rfl) G.len PySem.boot_len (pa_cons (pv 3) pa_nil)) (nomark _)) (pw_or1 (pt_cmpR (op_neD hr.units) (pe_lc (own := [("name", 5)]) rfl sc_l_own.nd (pi_tup (pv 3)) (blkOk_by (own := [("name", 5)]) (N := ["told", "arm", "mod", "feet", "nums", "name", "num"]) (sc := defScope st_l_own) (by decide +kernel)) (fun _ _ _ _ _ => (pg_name (i := 5) sc_l_own.nd rfl (Or.inl rfl))) (fun _ _ _ _ _ => (pts_one (pt_cmp (pc_dnotin (hu_of hr) (pv 5) (pv 4))))) (fun _ _ _ _ _ => (pv 5))) (pe_lst pa_nil) (nomark _)))))
        (pss_one ps_never)
        pss_nil)
      (pss_cons (ps_if (pt_cmpR (op_neD hr.units) (pe_lc (own := [("num", 6)]) rfl sc_l_own.nd (pi_list (pe_listVals rfl (pv 4) (by rfl) G.list (by decide +kernel))) (blkOk_by (own := [("num", 6)]) (N := ["told", "arm", "mod", "feet", "nums", "name", "num"]) (sc := defScope st_l_own) (by decide +kernel)) (fun _ _ _ _ _ => (pg_name (i := 6) sc_l_own.nd rfl (Or.inl rfl))) (fun _ _ _ _ _ => (pts_one (PW.pt (pw_or (pt_not (pt_val (pe_callB (call_isiJ (K := K) rfl) (by rfl) G.isinstance (by decide +kernel) (pa_cons (pv 6) (pa_cons (pe_bltn (v := .ty "int") (u := .type "int") (by rfl) G.int (by decide +kernel) rfl) pa_nil))))) (pw_or1 (pt_val (pe_callB (call_isiJ (K := K) rfl) (by rfl) G.isinstance (by decide +kernel) (pa_cons (pv 6) (pa_cons (pe_bltn (v := .ty "bool") (u := .type "bool") (by rfl) G.bool (by decide +kernel) rfl) pa_nil))))))))) (fun _ _ _ _ _ => (pv 6))) (pe_lst pa_nil) (nomark _))
        (pss_one ps_never)
        pss_nil)
      (pss_one (ps_ret (pe_lst (pa_cons (pv 1) (pa_cons (pv 2) (pa_cons (pe_callTy callListS (by rfl) G.list (by decide +kernel) (pa_cons (pv 3) pa_nil)) (pa_cons (pe_callTy call_dict_of (by rfl) G.dict (by decide +kernel) (pa_cons (pv 4) pa_nil)) pa_nil)))))))))))))), ?_⟩
    try dsimp only [cxOf]
    walk_at "go"
    refine x_isK iS hA ?_
    walk_at "go"
    refine x_isK iB hB ?_
    walk_at "go"
    refine ⟨by show 2 ≤ sizeLine; decide, fun q hq => ?_⟩
    walk_at "go"
    refine ⟨by show 2 ≤ sizeLine; decide, fun q2 hq2 => ?_⟩
    refine ⟨q, q2, _, _, rfl, upd_old hq2 upd_same, upd_same, alike_ov [some (arm : Int), some (mod : Int)] (by show 2 ≤ 900; decide), fun H1 s1 => ?_⟩
    have s2 : Same H H1 := Same.trans (Same.trans (Same.new hq) (Same.new hq2)) s1
    have hS1 := hS.same s2
    have hA1 := s2 _ _ hA
    walk_at "go"
    refine ⟨a, arm, mod, feet, told, rfl, hS1, by omega, fun nd H2 hnd0 s3 hnd => ?_⟩
    have s4 := Same.trans s2 s3
    have hS2 := hS.same s4
    have hWd2 := Same.sqt s4 hWd
    obtain ⟨_, _, wd', _, _, _, ob, hA', hwf, hob⟩ := hF
    have ewd : wd' = wd := by
      rw [hA] at hA'
      injection hA' with z
      injection z with _ _ z
      injection z with _ z
      injection z with z _
      injection z with _ z
      injection z with z
      exact z.symm
    subst ewd
    have hwf2 := s4 _ _ hwf
    have hk := hS.tk
    walk_at "go"
    refine x_isTupT hWd2 ?_
    walk_at "go"
    refine x_isDk hnd ?_
    walk_at "go"
    have zl : (feet.map V.str).length < sizeLine := by rw [List.length_map]; exact Nat.lt_of_le_of_lt hl (by decide)
    refine w_lcT hWd2 zl (fun i acc => acc = []) rfl ?_ ?_
    · rintro i x H3 acc hx s5 rfl hai R S2 hR hS2
      obtain ⟨n, hn, rfl⟩ : ∃ n, feet[i]? = some n ∧ x = .str n := by
        rw [List.getElem?_map] at hx
        cases e : feet[i]? with
        | none => rw [e] at hx; cases hx
        | some r => rw [e] at hx; exact ⟨r, rfl, (Option.some.inj hx).symm⟩
      have hWd3 := Same.sqt s5 hWd2
      have hc := hW.two n (List.mem_of_getElem? hn)
      walk_at "go"
      refine ⟨rfl, ?_⟩
      walk_at "go"
      refine x_bmT ?_
      walk_at "go"
      refine ⟨⟨wd', ob, _, rfl, s5 _ _ hwf2, hob⟩, ?_⟩
      walk_at "go"
      refine ⟨wd', feet, n, rfl, rfl, hWd3, ?_⟩
      rw [hc]
      walk_at "go"
      exact hS2 _ (Same.refl _) rfl
    · rintro q3 H3 acc hq3 s5 hq3' rfl
      have hWd3 := Same.sqt s5 hWd2
      have hnd3 := s5 _ _ hnd
      walk_at "go"
      refine ⟨Nat.zero_le _, fun q4 hq4 => ?_⟩
      walk_at "go"
      refine x_neNilT (l := []) (SqL.of (upd_old hq4 hq3')) (SqL.of upd_same) (fun x hx => by cases hx) ?_
      have s6 := Same.trans (Same.trans s4 s5) (Same.new (o := HO.lst []) hq4)
      have hWd4 := Same.sqt (Same.new (o := HO.lst []) hq4) hWd3
      have hnd4 := upd_old (o := HO.lst []) hq4 hnd3
      revert s6 hWd4 hnd4
      generalize upd H3 q4 (HO.lst []) = H4
      intro s6 hWd4 hnd4
      rw [decide_eq_true rfl]
      walk_at "go"
      refine x_lenDi hnd4 ?_
      have hlen : told.length = (bandsOf feet).length := by rw [← hk, List.length_map]
      rw [show (dD V.int told).length = told.length from dD_len _ _, hlen]
      have cm : CMul 2 (((bandsOf feet).length : Nat) : Int) := .inl ⟨by decide, by decide⟩
      have h2 := bands_two hW
      walk_at "go"
      refine x_lenT hWd4 ?_
      walk_at "go"
      rw [List.length_map, decide_eq_true (show 2 * (((bandsOf feet).length : Nat) : Int) = ((feet.length : Nat) : Int) by omega)]
      walk_at "go"
      refine w_lcT hWd4 zl (fun i acc => acc = []) rfl ?_ ?_
      · rintro i x H5 acc hx s7 rfl hai R S2 hR hS2
        obtain ⟨n, hn, rfl⟩ : ∃ n, feet[i]? = some n ∧ x = .str n := by
          rw [List.getElem?_map] at hx
          cases e : feet[i]? with
          | none => rw [e] at hx; cases hx
          | some r => rw [e] at hx; exact ⟨r, rfl, (Option.some.inj hx).symm⟩
        obtain ⟨z, gz, _⟩ := aGet_of_mem (l := told) (k := n) (by rw [hk]; exact (mem_bandsOf _ _).mpr (List.mem_of_getElem? hn))
        walk_at "go"
        refine ⟨rfl, ?_⟩
        walk_at "go"
        refine x_dniS (o := some (.int z)) (.inl (s7 _ _ hnd4)) (by rw [valV_dD, gz]; rfl) ?_
        walk_at "go"
        exact hS2 _ (Same.refl _) rfl
      · rintro q5 H5 acc hq5 s7 hq5' rfl
        have hWd5 := Same.sqt s7 hWd4
        have hnd5 := s7 _ _ hnd4
        walk_at "go"
        refine ⟨Nat.zero_le _, fun q6 hq6 => ?_⟩
        walk_at "go"
        refine x_neNilT (l := []) (SqL.of (upd_old hq6 hq5')) (SqL.of upd_same) (fun x hx => by cases hx) ?_
        have s8 := Same.trans (Same.trans s6 s7) (Same.new (o := HO.lst []) hq6)
        have hWd6 := Same.sqt (Same.new (o := HO.lst []) hq6) hWd5
        have hnd6 := upd_old (o := HO.lst []) hq6 hnd5
        revert s8 hWd6 hnd6
        generalize upd H5 q6 (HO.lst []) = H6
        intro s8 hWd6 hnd6
        rw [decide_eq_true rfl]
        walk_at "go"
        intro q7 hq7
        rw [valsD2]
        have s9 := Same.trans s8 (Same.new (o := HO.lst ((told.map fun p => p.2).map V.int)) hq7)
        have hWd7 := Same.sqt (Same.new (o := HO.lst ((told.map fun p => p.2).map V.int)) hq7) hWd6
        have hnd7 := upd_old (o := HO.lst ((told.map fun p => p.2).map V.int)) hq7 hnd6
        have hv7 : (upd H6 q7 (HO.lst ((told.map fun p => p.2).map V.int))) q7 = some (.lst ((told.map fun p => p.2).map V.int)) := upd_same
        revert s9 hWd7 hnd7 hv7
        generalize upd H6 q7 (HO.lst ((told.map fun p => p.2).map V.int)) = H7
        intro s9 hWd7 hnd7 hv7
        have tl : told.length ≤ 400 := by
          have := bandsOf_len feet
          omega
        refine w_lcL (SqL.of hv7) (by rw [List.length_map, List.length_map]; exact Nat.lt_of_le_of_lt tl (by decide)) (fun i acc => acc = []) rfl ?_ ?_
        · rintro i x H8 acc hx s10 rfl hai R S2 hR hS2
          obtain ⟨z, hz, rfl⟩ : ∃ z, (told.map fun p => p.2)[i]? = some z ∧ x = .int z := by
            rw [List.getElem?_map] at hx
            cases e : (told.map fun p => p.2)[i]? with
            | none => rw [e] at hx; cases hx
            | some r => rw [e] at hx; exact ⟨r, rfl, (Option.some.inj hx).symm⟩
          walk_at "go"
          refine ⟨rfl, ?_⟩
          walk_at "go"
          exact hS2 _ (Same.refl _) rfl
        · rintro q8 H8 acc hq8 s10 hq8' rfl
          have hWd8 := Same.sqt s10 hWd7
          have hnd8 := s10 _ _ hnd7
          walk_at "go"
          refine ⟨Nat.zero_le _, fun q9 hq9 => ?_⟩
          walk_at "go"
          refine x_neNilT (l := []) (SqL.of (upd_old hq9 hq8')) (SqL.of upd_same) (fun x hx => by cases hx) ?_
          have s11 := Same.trans (Same.trans s9 s10) (Same.new (o := HO.lst []) hq9)
          have hWd9 := Same.sqt (Same.new (o := HO.lst []) hq9) hWd8
          have hnd9 := upd_old (o := HO.lst []) hq9 hnd8
          revert s11 hWd9 hnd9
          generalize upd H8 q9 (HO.lst []) = H9
          intro s11 hWd9 hnd9
          rw [decide_eq_true rfl]
          walk_at "go"
          refine x_listT hWd9 fun fa hfa => ?_
          have hnd10 := upd_old (o := HO.lst (feet.map V.str)) hfa hnd9
          walk_at "go"
          intro na hna
          walk_at "go"
          refine ⟨by show 4 ≤ sizeLine; decide, fun o ho => ?_⟩
          refine k o fa na _ (Same.trans s11 (Same.trans (Same.new hfa) (Same.trans (Same.new hna) (Same.new ho)))) ⟨upd_same, ?_, ?_⟩
          · exact upd_old ho (upd_old hna upd_same)
          · exact upd_old ho upd_same
/-! ### the form of a kind -/
def spBandName : Sp := fun vs H Q _ => ∃ i : Nat, vs = [.int i] ∧ i < 26 ∧ Q (.str (nmW i)) H
theorem ok_bandname (B : Bi K mg) (F : FnP K "band_name" st_band_name f fd) : FnOk P w K mg base CX0 1 f fd ["index"] spBandName := by
  refine F.ok sc_band_name (fun vs H Q E h => ?_) (fun cdv A outer s H vs Q E hr h => ?_)
  · obtain ⟨i, rfl, _⟩ := h
    rfl
  · obtain ⟨i, rfl, hi, k⟩ := h
    have G := B
    refine ⟨_, PSs.nox ((pss_cons (ps_set (i := 1) sc_band_name.nd rfl (Or.inl rfl) (pe_ix ix_str (C8.pe_gc rfl G.c_LETTERS_forms) (pe_op op_mod (pv 0) pe_int) (fun _ _ => rfl)))
      (pss_one (ps_ret (pe_ifExp (pt_cmpR op_lt (pv 0) pe_int (nomark _)) (pv 1) (pe_op op_addS (pv 1) (pe_callTy call_strI (by rfl) G.str (by decide +kernel) (pa_cons (pe_op op_fdiv (pv 0) pe_int) pa_nil)))))))), ?_⟩
    try dsimp only [cxOf]
    walk_at "go"
    have e26 : ((i : Int) % 26) = ((i : Nat) : Int) := by omega
    have eS : (Str.ofString "abcdefghijklmnopqrstuvwxyz") = SX.S ((List.range 26).map fun j => 97 + j) := by decide +kernel
    rw [e26]
    show rIxS (V.str (Str.ofString "abcdefghijklmnopqrstuvwxyz")) _ _ _
    rw [eS]
    refine x_ixS (c := 97 + i) (by rw [List.length_map, List.length_range]; decide) (atI_of (k := i) rfl (by rw [List.getElem?_map, List.getElem?_range hi]; rfl)) ?_
    walk_at "go"
    rw [decide_eq_true (show (i : Int) < 26 by omega)]
    walk_at "go"
    exact k
def spHShift (K : PySem.W.Frag) : Sp := fun vs H Q _ => ∃ (a : Addr) (arm mod h i : Nat) (es : List Int) (m p sn : Option Int), vs = [.ref a, .int i] ∧ KindAt K H a arm mod (h : Int) es m p sn ∧ Formed (h : Int) m p sn ∧ 1 ≤ i ∧ i ≤ h ∧ Q (.int (shiftK h (m.getD 0) (p.getD 0) sn i)) H
theorem ok_hshift (B : Bi K mg) (F : FnP K "handle_shift" st_handle_shift f fd) : FnOk P w K mg base CX0 1 f fd ["kind", "handle"] (spHShift K) := by
  refine F.ok sc_handle_shift (fun vs H Q E h => ?_) (fun cdv A outer s H vs Q E hr h => ?_)
  · obtain ⟨a, arm, mod, h, i, es, m, p, sn, rfl, _⟩ := h
    rfl
  · obtain ⟨a, arm, mod, hh, i, es, m, p, sn, rfl, hK, ⟨f1, f2, f3, f4⟩, i1, i2, k⟩ := h
    have G := B
    have cK := G.cls_Kind
    have n2 := G.na_Kind_handles
    have n4 := G.na_Kind_measure
    have n5 := G.na_Kind_share
    have n6 := G.na_Kind_balance
    obtain ⟨dx, bk, r, h1, h2, h3⟩ := hK
    unfold shiftK at k
    refine ⟨_, PSs.nox ((pss_cons (ps_if (pt_cmpR op_eq (pe_fld (pv 0) (by rfl)) pe_int (nomark _))
        (pss_one (ps_ret (pe_fld (pv 0) (by rfl))))
        pss_nil)
      (pss_cons (ps_if (pt_cmpR op_eq (pv 1) (pe_fld (pv 0) (by rfl)) (nomark _))
        (pss_one (ps_ret (pe_fld (pv 0) (by rfl))))
        pss_nil)
      (pss_cons (ps_set (i := 2) sc_handle_shift.nd rfl (Or.inl rfl) (pe_ifExp (pt_cmpR op_eq (pe_op op_mod (pe_fld (pv 0) (by rfl)) pe_int) pe_int (nomark _)) pe_int (pe_un un_neg pe_int)))
      (pss_cons (ps_if (PW.pt (pw_and (pt_cmpR op_eq (pv 1) (pe_op op_sub (pe_fld (pv 0) (by rfl)) pe_int) (nomark _)) (pw_and1 (pt_cmpR op_eq (pe_fld (pv 0) (by rfl)) (pv 2) (nomark _)))))
        (pss_one (ps_ret (pe_fld (pv 0) (by rfl))))
        pss_nil)
      (pss_one (ps_ret pe_int))))))), ?_⟩
    try dsimp only [cxOf]
    walk_at "go"
    refine x_iteD (fun c1 => ?_) (fun c1 => ?_)
    · walk_at "go"
      obtain ⟨mv, hm⟩ : ∃ mv, m = some mv := by
        have := f2.mpr c1
        cases m with
        | none => cases this
        | some v => exact ⟨v, rfl⟩
      subst hm
      rw [if_pos (by omega)] at k
      exact k
    · have h2h : 2 ≤ hh := by omega
      obtain ⟨pv, hp⟩ : ∃ pv, p = some pv := by
        have := f3.mpr (by omega)
        cases p with
        | none => cases this
        | some v => exact ⟨v, rfl⟩
      subst hp
      rw [if_neg (by omega)] at k
      walk_at "go"
      refine x_iteD (fun c2 => ?_) (fun c2 => ?_)
      · walk_at "go"
        rw [if_pos (by omega)] at k
        exact k
      · rw [if_neg (by omega)] at k
        walk_at "go"
        have sg : (if (hh : Int) % 2 = 0 then (1 : Int) else -1) = sgK hh := by
          unfold sgK
          by_cases c : hh % 2 = 0
          · rw [if_pos c, if_pos (by omega)]
          · rw [if_neg c, if_neg (by omega)]
        refine x_iteD (fun c3 => ?_) (fun c3 => ?_)
        all_goals
          first | rw [if_pos c3] at sg | rw [if_neg c3] at sg
          rw [← sg] at k
          walk_at "go"
          refine x_iteD (fun c4 => ?_) (fun c4 => ?_)
          · walk_at "go"
            cases sn with
            | none =>
              refine ⟨rfl, ?_⟩
              rw [if_neg (fun z => by cases z.2)] at k
              rw [decide_eq_false (fun z => by cases z)]
              walk_at "go"
              exact k
            | some z =>
              show rEq (V.int z) (V.int _) _ _
              walk_at "go"
              refine x_iteD (fun c5 => ?_) (fun c5 => ?_)
              · walk_at "go"
                rw [if_pos ⟨by omega, by rw [c5]⟩] at k
                exact k
              · walk_at "go"
                rw [if_neg (fun y => c5 (Option.some.inj y.2))] at k
                exact k
          · walk_at "go"
            rw [if_neg (fun z => c4 (by omega))] at k
            exact k
def giv (arm h n : Nat) (ini : List Int) (m p : Int) (sn : Option Int) : List (Str × Int) := (List.range n).map fun i => (nmW i, gvK arm h ini m p sn i)
theorem giv_snoc (arm h n : Nat) (ini : List Int) (m p : Int) (sn : Option Int) (z : Int) (e : gvK arm h ini m p sn n = z) : aPut (giv arm h n ini m p sn) (nmW n) z = giv arm h (n + 1) ini m p sn := by
  have hn : nmW n ∉ (giv arm h n ini m p sn).map (·.1) := fun hm => by
    unfold giv at hm
    rw [List.map_map] at hm
    obtain ⟨i, hi, e⟩ := List.mem_map.mp hm
    have := nmW_inj (show nmW i = nmW n from e)
    have := List.mem_range.mp hi
    omega
  unfold aPut
  rw [if_neg (fun q => hn (any_keys.mp q))]
  unfold giv
  rw [List.range_succ, List.map_append, ← e]; rfl
theorem told_blk {arm mod h k : Nat} {ini : List Int} {m p : Int} {sn : Option Int} (hh : h < 4) (hk : k < 4) : toldOf mod (bandsOf (blkW h k)) (giv arm h (2 * h + k) ini m p sn) = (blkO arm mod h k (gvK arm h ini m p sn)).nums := by
  unfold toldOf
  rw [blkW_bands h hh k hk, List.map_map]
  refine List.map_congr_left fun i hi => ?_
  have hnd : ((giv arm h (2 * h + k) ini m p sn).map (·.1)).Nodup := by
    unfold giv
    rw [List.map_map]
    exact nmW_nodup _
  have hg : aGet (giv arm h (2 * h + k) ini m p sn) (nmW i) = some (gvK arm h ini m p sn i) := aGet_nodup (l := giv arm h (2 * h + k) ini m p sn) (p := (nmW i, gvK arm h ini m p sn i)) hnd (List.mem_map.mpr ⟨i, hi, rfl⟩)
  show (nmW i, redN mod ((aGet _ (nmW i)).getD 0)) = _
  rw [hg]; rfl
def preW (h n : Nat) : List Str := (List.range n).map fun p => nmW (bIx h p)
theorem preW_hand {h i : Nat} (hi : i < h) : preW h (4 * i) ++ [nmW (2 * i), nmW (2 * i + 1), nmW (2 * i), nmW (2 * i + 1)] = preW h (4 * (i + 1)) := by
  unfold preW
  rw [show 4 * (i + 1) = 4 * i + 1 + 1 + 1 + 1 by omega, List.range_succ, List.range_succ, List.range_succ, List.range_succ]
  simp only [List.map_append, List.map_cons, List.map_nil, List.append_assoc, List.cons_append, List.nil_append]
  have b0 : bIx h (4 * i) = 2 * i := by unfold bIx; rw [if_pos (by omega)]; omega
  have b1 : bIx h (4 * i + 1) = 2 * i + 1 := by unfold bIx; rw [if_pos (by omega)]; omega
  have b2 : bIx h (4 * i + 2) = 2 * i := by unfold bIx; rw [if_pos (by omega)]; omega
  have b3 : bIx h (4 * i + 3) = 2 * i + 1 := by unfold bIx; rw [if_pos (by omega)]; omega
  rw [b0, b1, b2, b3]
theorem preW_loop {h i : Nat} : preW h (4 * h + 2 * i) ++ [nmW (2 * h + i), nmW (2 * h + i)] = preW h (4 * h + 2 * (i + 1)) := by
  unfold preW
  rw [show 4 * h + 2 * (i + 1) = 4 * h + 2 * i + 1 + 1 by omega, List.range_succ, List.range_succ]
  simp only [List.map_append, List.map_cons, List.map_nil, List.append_assoc, List.cons_append, List.nil_append]
  have b0 : bIx h (4 * h + 2 * i) = 2 * h + i := by unfold bIx; rw [if_neg (by omega)]; omega
  have b1 : bIx h (4 * h + 2 * i + 1) = 2 * h + i := by unfold bIx; rw [if_neg (by omega)]; omega
  rw [b0, b1]
def spForm (K : PySem.W.Frag) : Sp := fun vs H Q _ => ∃ (a : Addr) (arm mod h k : Nat) (ini : List Int) (la : Int) (m p sn : Option Int), vs = [.ref a] ∧ KindAt K H a arm mod (h : Int) (ini ++ [la]) m p sn ∧ Formed (h : Int) m p sn ∧ h < 4 ∧ k < 4 ∧ ini.length = k ∧ arm ≤ 12 ∧ mod ≤ 24 ∧
  ∀ (q : Addr) H', Same H H' → SheetAt K H' q arm mod (blkW h k) (blkO arm mod h k (gvK arm h ini (m.getD 0) (p.getD 0) sn)).nums → WordF K H' q (blkW h k) → Q (.ref q) H'
theorem ok_form (B : Bi K mg) (c_band_name : C8.Cal P w K mg base 1 "band_name" spBandName []) (c_handle_shift : C8.Cal P w K mg base 1 "handle_shift" (spHShift K) []) (mk_Sheet_3 : C8.Mak P w K mg base 3 "Sheet" (He.ga K "Sheet") (spSheetF K) []) (F : FnP K "form_of" st_form_of f fd) : FnOk P w K mg base CX0 5 f fd ["kind"] (spForm K) := by
  refine F.ok sc_form_of (fun vs H Q E h => ?_) (fun cdv A outer s H vs Q E hr h => ?_)
  · obtain ⟨a, arm, mod, h, k, ini, la, m, p, sn, rfl, _⟩ := h
    rfl
  · obtain ⟨a, arm, mod, hh, kk, ini, la, m, p, sn, rfl, hK, hF, h1, h2, hl, ha2, hm2, k⟩ := h
    have G := B
    have cK := G.cls_Kind
    have cB := G.cls_Book
    have n0 := G.na_Book_arms
    have n1 := G.na_Kind_book
    have n2 := G.na_Kind_handles
    have n3 := G.na_Kind_rims
    obtain ⟨dx, bk, r, g1, ⟨db, g2⟩, g3⟩ := id hK
    refine ⟨_, PSs.nox ((pss_cons (ps_set (i := 1) sc_form_of.nd rfl (Or.inl rfl) (pe_fld (pe_fld (pv 0) (by rfl)) (by rfl)))
      (pss_cons (ps_set (i := 2) sc_form_of.nd rfl (Or.inl rfl) (pe_lst pa_nil))
      (pss_cons (ps_set (i := 3) sc_form_of.nd rfl (Or.inl rfl) pe_dnewK)
      (pss_cons (ps_set (i := 4) sc_form_of.nd rfl (Or.inl rfl) pe_int)
      (C8.pss_cut (ps_for PassesOwn.never rfl (pi_range2 (by rfl) G.range (pa_cons pe_int (pa_cons (pe_op op_add (pe_fld (pv 0) (by rfl)) pe_int) pa_nil))) (pg_name (i := 5) sc_form_of.nd rfl (Or.inl rfl))
        (pss_cons (ps_par rfl sc_form_of.nd rfl rfl (by decide) rfl rfl (pa_cons (C8.pe_c c_band_name hr (by decide) rfl (pa_cons (pv 4) pa_nil)) (pa_cons (C8.pe_c c_band_name hr (by decide) rfl (pa_cons (pe_op op_add (pv 4) pe_int) pa_nil)) pa_nil)) (by rfl) (i := 6) (j := 7))
        (pss_cons (ps_expr (pe_bm PySem.F.plainAttrs_list PySem.F.slot_list_extend PySem.F.type_list_extend mt_extend (pv 2) (pa_cons (pe_lst (pa_cons (pv 6) (pa_cons (pv 7) (pa_cons (pv 6) (pa_cons (pv 7) pa_nil))))) pa_nil)))
        (pss_cons (ps_dput (hu_of hr) (pv 3) (pv 6) (pe_op op_add (pv 1) (C8.pe_c c_handle_shift hr (by decide) rfl (pa_cons (pv 0) (pa_cons (pv 5) pa_nil)))) rfl)
        (pss_cons (ps_dput (hu_of hr) (pv 3) (pv 7) (pv 1) rfl)
        (pss_one (ps_aug (i := 4) sc_form_of.nd rfl (Or.inl rfl) pe_int ip_add)))))))
      (C8.pss_cut (ps_for PassesOwn.never rfl (pi_tup (pe_slice sl_tup (pe_fld (pv 0) (by rfl)) po_none (po_some (pe_un un_neg pe_int)))) (pg_name (i := 8) sc_form_of.nd rfl (Or.inl rfl))
        (pss_cons (ps_set (i := 9) sc_form_of.nd rfl (Or.inl rfl) (C8.pe_c c_band_name hr (by decide) rfl (pa_cons (pv 4) pa_nil)))
        (pss_cons (ps_expr (pe_bm PySem.F.plainAttrs_list PySem.F.slot_list_extend PySem.F.type_list_extend mt_extend (pv 2) (pa_cons (pe_lst (pa_cons (pv 9) (pa_cons (pv 9) pa_nil))) pa_nil)))
        (pss_cons (ps_dput (hu_of hr) (pv 3) (pv 9) (pe_op op_add (pv 8) (pv 1)) rfl)
        (pss_one (ps_aug (i := 4) sc_form_of.nd rfl (Or.inl rfl) pe_int ip_add))))))
      (pss_one (ps_ret (C8.pe_mk mk_Sheet_3 hr (by decide) rfl (pa_cons (pe_fld (pv 0) (by rfl)) (pa_cons (pv 2) (pa_cons (pv 3) pa_nil))))))))))))), ?_⟩
    try dsimp only [cxOf]
    walk_at "go"
    refine ⟨Nat.zero_le _, fun wl hwl => ?_⟩
    walk_at "go"
    intro gl hgl
    have s1 : Same H (upd (upd H wl (.lst [])) gl (.dK [])) := Same.trans (Same.new hwl) (Same.new hgl)
    have hwl1 : (upd (upd H wl (.lst [])) gl (.dK [])) wl = some (.lst []) := upd_old hgl upd_same
    have hgl1 : (upd (upd H wl (.lst [])) gl (.dK [])) gl = some (.dK []) := upd_same
    have nwg : wl ≠ gl := ne_of_none upd_same hgl
    have hgl0 : H gl = none := by rw [upd_ne (Ne.symm nwg)] at hgl; exact hgl
    revert s1 hwl1 hgl1
    generalize upd (upd H wl (.lst [])) gl (.dK []) = H1
    intro s1 hwl1 hgl1
    walk_at "go"
    have hfl : Formed (hh : Int) m p sn := hF
    refine x_cut (fun σ H' => Same H H' ∧ H' wl = some (.lst ((preW hh (4 * hh)).map V.str)) ∧ H' gl = some (.dK (dD V.int (giv arm hh (2 * hh) ini (m.getD 0) (p.getD 0) sn))) ∧ ∃ u5 u6 u7 u8 u9 : Option V, σ = [some (.ref a), some (.int (arm : Nat)), some (.ref wl), some (.ref gl), some (.int ((2 * hh : Nat) : Int)), u5, u6, u7, u8, u9]) ?_ ?_
    · walk_at "go"
      refine w_forR2 ⟨by omega, by omega, by omega, by omega⟩ (fun i σ H' => Same H H' ∧ H' wl = some (.lst ((preW hh (4 * i)).map V.str)) ∧ H' gl = some (.dK (dD V.int (giv arm hh (2 * i) ini (m.getD 0) (p.getD 0) sn))) ∧ ∃ u5 u6 u7 u8 u9 : Option V, σ = [some (.ref a), some (.int (arm : Nat)), some (.ref wl), some (.ref gl), some (.int ((2 * i : Nat) : Int)), u5, u6, u7, u8, u9]) ⟨s1, hwl1, hgl1, _, _, _, _, _, rfl⟩ ?_ ?_
      · rintro i σ H' hi ⟨s', hw, hg, u5, u6, u7, u8, u9, rfl⟩
        have hi : i < hh := by omega
        have hK' := hK.same s'
        walk_at "go"
        refine ⟨2 * i, rfl, by omega, ?_⟩
        walk_at "go"
        refine ⟨2 * i + 1, rfl, by omega, ?_⟩
        walk_at "go"
        refine ⟨by show 4 ≤ sizeLine; decide, fun q hq => ?_⟩
        have nwq : wl ≠ q := ne_of_none hw hq
        have hqH : H q = none := Same.free s' hq
        have wlen : ((preW hh (4 * i)).map V.str).length = 4 * i := by unfold preW; rw [List.length_map, List.length_map, List.length_range]
        walk_at "go"
        refine x_extend (upd_old hq hw) upd_same (by rw [wlen]; exact Nat.le_trans (show _ ≤ 20 by show 4 * i + 4 ≤ 20; omega) (by decide)) ?_
        have ew : (preW hh (4 * i)).map V.str ++ [V.str (nmW (2 * i)), V.str (nmW (2 * i + 1)), V.str (nmW (2 * i)), V.str (nmW (2 * i + 1))] = (preW hh (4 * (i + 1))).map V.str := by
          rw [← preW_hand hi, List.map_append]; rfl
        rw [ew]
        have s2 : Same H (upd (upd H' q (.lst [V.str (nmW (2 * i)), V.str (nmW (2 * i + 1)), V.str (nmW (2 * i)), V.str (nmW (2 * i + 1))])) wl (.lst ((preW hh (4 * (i + 1))).map V.str))) := Same.mut (Same.trans s' (Same.new hq)) hwl
        have hw2 : (upd (upd H' q (.lst [V.str (nmW (2 * i)), V.str (nmW (2 * i + 1)), V.str (nmW (2 * i)), V.str (nmW (2 * i + 1))])) wl (.lst ((preW hh (4 * (i + 1))).map V.str))) wl = some (.lst ((preW hh (4 * (i + 1))).map V.str)) := upd_same
        have hg2 : (upd (upd H' q (.lst [V.str (nmW (2 * i)), V.str (nmW (2 * i + 1)), V.str (nmW (2 * i)), V.str (nmW (2 * i + 1))])) wl (.lst ((preW hh (4 * (i + 1))).map V.str))) gl = some (.dK (dD V.int (giv arm hh (2 * i) ini (m.getD 0) (p.getD 0) sn))) := by rw [upd_ne (Ne.symm nwg)]; exact upd_old hq hg
        revert s2 hw2 hg2
        generalize (upd (upd H' q (.lst [V.str (nmW (2 * i)), V.str (nmW (2 * i + 1)), V.str (nmW (2 * i)), V.str (nmW (2 * i + 1))])) wl (.lst ((preW hh (4 * (i + 1))).map V.str))) = H2
        intro s2 hw2 hg2
        have glen : ∀ n, (dD V.int (giv arm hh n ini (m.getD 0) (p.getD 0) sn)).length = n := fun n => by unfold giv dD; rw [List.length_map, List.length_map, List.length_range]
        walk_at "go"
        refine ⟨a, arm, mod, hh, i + 1, ini ++ [la], m, p, sn, by rw [show (1 : Int) + (i : Int) = ((i + 1 : Nat) : Int) by omega]; rfl, hK.same s2, hF, by omega, by omega, ?_⟩
        walk_at "go"
        refine x_dputS hg2 (by rw [glen]; exact Nat.lt_of_le_of_lt (show 2 * i ≤ 20 by omega) (by decide)) ?_
        rw [putK_dD, giv_snoc arm hh (2 * i) ini (m.getD 0) (p.getD 0) sn _ (gvK_a hi)]
        have s3 : Same H (upd H2 gl (.dK (dD V.int (giv arm hh (2 * i + 1) ini (m.getD 0) (p.getD 0) sn)))) := Same.mut s2 hgl0
        have hw3 : (upd H2 gl (.dK (dD V.int (giv arm hh (2 * i + 1) ini (m.getD 0) (p.getD 0) sn)))) wl = some (.lst ((preW hh (4 * (i + 1))).map V.str)) := by rw [upd_ne nwg]; exact hw2
        have hg3 : (upd H2 gl (.dK (dD V.int (giv arm hh (2 * i + 1) ini (m.getD 0) (p.getD 0) sn)))) gl = some (.dK (dD V.int (giv arm hh (2 * i + 1) ini (m.getD 0) (p.getD 0) sn))) := upd_same
        revert s3 hw3 hg3
        generalize (upd H2 gl (.dK (dD V.int (giv arm hh (2 * i + 1) ini (m.getD 0) (p.getD 0) sn)))) = H3
        intro s3 hw3 hg3
        walk_at "go"
        refine x_dputS hg3 (by rw [glen]; exact Nat.lt_of_le_of_lt (show 2 * i + 1 ≤ 20 by omega) (by decide)) ?_
        rw [putK_dD, giv_snoc arm hh (2 * i + 1) ini (m.getD 0) (p.getD 0) sn _ (gvK_b hi)]
        walk_at "go"
        exact ⟨Same.mut s3 hgl0, by rw [upd_ne nwg]; exact hw3, upd_same, _, _, _, _, _, by rw [show ((2 * (i + 1) : Nat) : Int) = ((2 * i : Nat) : Int) + 2 by omega]; rfl⟩
      · rintro σ H' ⟨s', hw, hg, u5, u6, u7, u8, u9, rfl⟩
        rw [show ((hh : Int) + 1 - 1).toNat = hh by omega] at hw hg ⊢
        exact ⟨s', hw, hg, _, _, _, _, _, rfl⟩
    · rintro σ H2 ⟨s2, hw2, hg2, u5, u6, u7, u8, u9, rfl⟩
      refine x_cut (fun σ H' => Same H H' ∧ H' wl = some (.lst ((preW hh (4 * hh + 2 * kk)).map V.str)) ∧ H' gl = some (.dK (dD V.int (giv arm hh (2 * hh + kk) ini (m.getD 0) (p.getD 0) sn))) ∧ ∃ u4 u5 u6 u7 u8 u9 : Option V, σ = [some (.ref a), some (.int (arm : Nat)), some (.ref wl), some (.ref gl), u4, u5, u6, u7, u8, u9]) ?_ ?_
      · have g1' := s2 _ _ g1
        have g3' := s2 _ _ g3
        walk_at "go"
        refine ⟨r, _, rfl, SqT.of g3', ?_, fun q hq => ?_⟩
        · rw [List.length_map, List.length_append, List.length_singleton]
          intro z
          have z2 := z.2
          have : HT.sIx (ini.length + 1) (ini.length + 1) (some (-1)) = ini.length := by
            unfold HT.sIx
            show (if (-1 : Int) < 0 then (-1 + ((ini.length + 1 : Nat) : Int)).toNat else _) = _
            rw [if_pos (by decide)]
            omega
          omega
        have ec : cutV ((ini ++ [la]).map V.int) none (some (-1)) = ini.map V.int := by
          unfold cutV
          rw [HT.sIx_none]
          have : HT.sIx ((ini ++ [la]).map V.int).length ((ini ++ [la]).map V.int).length (some (-1)) = ini.length := by
            rw [List.length_map, List.length_append, List.length_singleton]
            unfold HT.sIx
            show (if (-1 : Int) < 0 then (-1 + ((ini.length + 1 : Nat) : Int)).toNat else _) = _
            rw [if_pos (by decide)]
            omega
          rw [this, List.map_append, Nat.sub_zero, List.drop_zero, List.take_append_of_le_length (by rw [List.length_map]; exact Nat.le_refl _), List.take_of_length_le (by rw [List.length_map]; exact Nat.le_refl _)]
        rw [ec]
        have s3 : Same H (upd H2 q (.tup (ini.map V.int))) := Same.trans s2 (Same.new hq)
        have hq3 : (upd H2 q (.tup (ini.map V.int))) q = some (.tup (ini.map V.int)) := upd_same
        have hw3 := upd_old (o := HO.tup (ini.map V.int)) hq hw2
        have hg3 := upd_old (o := HO.tup (ini.map V.int)) hq hg2
        have nqw : q ≠ wl := Ne.symm (ne_of_none hw2 hq)
        have nqg : q ≠ gl := Ne.symm (ne_of_none hg2 hq)
        revert s3 hq3 hw3 hg3
        generalize upd H2 q (.tup (ini.map V.int)) = H3
        intro s3 hq3 hw3 hg3
        refine w_forT (SqT.of hq3) (fun i σ H' => Same H H' ∧ H' q = some (.tup (ini.map V.int)) ∧ H' wl = some (.lst ((preW hh (4 * hh + 2 * i)).map V.str)) ∧ H' gl = some (.dK (dD V.int (giv arm hh (2 * hh + i) ini (m.getD 0) (p.getD 0) sn))) ∧ ∃ u5 u6 u7 u8 u9 : Option V, σ = [some (.ref a), some (.int (arm : Nat)), some (.ref wl), some (.ref gl), some (.int ((2 * hh + i : Nat) : Int)), u5, u6, u7, u8, u9]) ⟨s3, hq3, hw3, hg3, _, _, _, _, _, rfl⟩ (fun i σ H' _ h => SqT.of h.2.1) ?_ ?_
        · rintro i x σ H' hx ⟨s', hq', hw, hg, u5, u6, u7, u8, u9, rfl⟩
          obtain ⟨e, he, rfl⟩ : ∃ e, ini[i]? = some e ∧ x = .int e := by
            rw [List.getElem?_map] at hx
            cases e : ini[i]? with
            | none => rw [e] at hx; cases hx
            | some r => rw [e] at hx; exact ⟨r, rfl, (Option.some.inj hx).symm⟩
          have hi := (List.getElem?_eq_some_iff.mp he).1
          walk_at "go"
          refine ⟨2 * hh + i, rfl, by omega, ?_⟩
          walk_at "go"
          refine ⟨by show 2 ≤ sizeLine; decide, fun q2 hq2 => ?_⟩
          have wlen : ((preW hh (4 * hh + 2 * i)).map V.str).length = 4 * hh + 2 * i := by unfold preW; rw [List.length_map, List.length_map, List.length_range]
          walk_at "go"
          refine x_extend (upd_old hq2 hw) upd_same (by rw [wlen]; exact Nat.le_trans (show _ ≤ 30 by show 4 * hh + 2 * i + 2 ≤ 30; omega) (by decide)) ?_
          have ew : (preW hh (4 * hh + 2 * i)).map V.str ++ [V.str (nmW (2 * hh + i)), V.str (nmW (2 * hh + i))] = (preW hh (4 * hh + 2 * (i + 1))).map V.str := by
            rw [← preW_loop, List.map_append]; rfl
          rw [ew]
          have s4 : Same H (upd (upd H' q2 (.lst [V.str (nmW (2 * hh + i)), V.str (nmW (2 * hh + i))])) wl (.lst ((preW hh (4 * hh + 2 * (i + 1))).map V.str))) := Same.mut (Same.trans s' (Same.new hq2)) hwl
          have hw4 : (upd (upd H' q2 (.lst [V.str (nmW (2 * hh + i)), V.str (nmW (2 * hh + i))])) wl (.lst ((preW hh (4 * hh + 2 * (i + 1))).map V.str))) wl = some (.lst ((preW hh (4 * hh + 2 * (i + 1))).map V.str)) := upd_same
          have hq4 : (upd (upd H' q2 (.lst [V.str (nmW (2 * hh + i)), V.str (nmW (2 * hh + i))])) wl (.lst ((preW hh (4 * hh + 2 * (i + 1))).map V.str))) q = some (.tup (ini.map V.int)) := by rw [upd_ne nqw]; exact upd_old hq2 hq'
          have hg4 : (upd (upd H' q2 (.lst [V.str (nmW (2 * hh + i)), V.str (nmW (2 * hh + i))])) wl (.lst ((preW hh (4 * hh + 2 * (i + 1))).map V.str))) gl = some (.dK (dD V.int (giv arm hh (2 * hh + i) ini (m.getD 0) (p.getD 0) sn))) := by rw [upd_ne (Ne.symm nwg)]; exact upd_old hq2 hg
          revert s4 hw4 hq4 hg4
          generalize (upd (upd H' q2 (.lst [V.str (nmW (2 * hh + i)), V.str (nmW (2 * hh + i))])) wl (.lst ((preW hh (4 * hh + 2 * (i + 1))).map V.str))) = H4
          intro s4 hw4 hq4 hg4
          have glen : ∀ n, (dD V.int (giv arm hh n ini (m.getD 0) (p.getD 0) sn)).length = n := fun n => by unfold giv dD; rw [List.length_map, List.length_map, List.length_range]
          walk_at "go"
          refine x_dputS hg4 (by rw [glen]; exact Nat.lt_of_le_of_lt (show 2 * hh + i ≤ 20 by omega) (by decide)) ?_
          rw [putK_dD, giv_snoc arm hh (2 * hh + i) ini (m.getD 0) (p.getD 0) sn (e + (arm : Int)) (by rw [gvK_c, ini_at he])]
          walk_at "go"
          exact ⟨Same.mut s4 hgl0, by rw [upd_ne nqg]; exact hq4, by rw [upd_ne nwg]; exact hw4, upd_same, _, _, _, _, _, by rw [show ((2 * hh + (i + 1) : Nat) : Int) = ((2 * hh + i : Nat) : Int) + 1 by omega]; rfl⟩
        · rintro σ H' ⟨s', hq', hw, hg, u5, u6, u7, u8, u9, rfl⟩
          rw [List.length_map, hl] at hw hg
          exact ⟨s', hw, hg, _, _, _, _, _, _, rfl⟩
      · rintro σ H3 ⟨s3, hw3, hg3, u4, u5, u6, u7, u8, u9, rfl⟩
        have g1' := s3 _ _ g1
        have g2' := s3 _ _ g2
        walk_at "go"
        intro x dx hx hdx ne
        have sm : Same H3 (upd (upd H3 dx (.own x)) x (.ins (He.ga K "Sheet") dx [])) := same_made hx hdx fun _ _ _ z => z
        refine ⟨x, dx, bk, wl, .ref gl, arm, mod, blkW hh kk, giv arm hh (2 * hh + kk) ini (m.getD 0) (p.getD 0) sn, rfl, upd_same, ⟨db, sm _ _ g2'⟩, hm2, SqL.of (sm _ _ hw3), blkW_word hh h1 kk h2, by rw [blkW_len]; omega, .inr ⟨gl, rfl, sm _ _ hg3⟩, fun z hz => ?_, fun H' kp hS hFw => ⟨rfl, ?_⟩⟩
        · obtain ⟨i, hi, rfl⟩ := List.mem_map.mp hz
          have : nmW i ∈ bandsOf (blkW hh kk) := by rw [blkW_bands hh h1 kk h2]; exact List.mem_map.mpr ⟨i, hi, rfl⟩
          exact (mem_bandsOf _ _).mp this
        · rw [told_blk h1 h2] at hS
          exact k x H' (Same.trans s3 (same_made hx hdx kp)) hS hFw
def spDrawn : Sp := fun vs H Q _ => ∃ (b l : Addr) (arm mod : Nat), vs = [.ref b, .int arm, .int mod] ∧ BagAt H b l ∧ 1 ≤ arm ∧ arm ≤ 12 ∧ mod ≤ 24 ∧ ∀ (q ep : Addr) (h : Nat) (es : List Int) (m p sn : Option Int) (H' : Hp), BagAt H' b l → Kp b H H' → CtsAt H' q ep h es m p sn → Formed h m p sn → h < 4 → 1 ≤ es.length → es.length ≤ 4 → Bd 960 es m p → Q (.ref q) H'
theorem ok_drawn (B : Bi K mg) (c_l_draw : C8.Cal P w K mg base 1 "_law_draw" spDraw []) (c_l_of : C8.Cal P w K mg base 2 "_law_of" spOf []) (c_l_red : C8.Cal P w K mg base 1 "_law_red" spRed []) (F : FnP K "_law_drawn" st_l_drawn f fd) : FnOk P w K mg base CX0 3 f fd ["bag", "arm", "mod"] spDrawn := by
  refine F.ok sc_l_drawn (fun vs H Q E h => ?_) (fun cdv A outer s H vs Q E hr h => ?_)
  · obtain ⟨b, l, arm, mod, rfl, _⟩ := h
    rfl
  · obtain ⟨b, l, arm, mod, rfl, hB, ha1, ha2, hm2, k⟩ := h
    have G := B
    refine ⟨_, PSs.nox ((pss_cons (ps_set (i := 3) sc_l_drawn.nd rfl (Or.inl rfl) (C8.pe_c c_l_draw hr (by decide) rfl (pa_cons (pv 0) (pa_cons pe_int pa_nil))))
      (pss_cons (ps_set (i := 4) sc_l_drawn.nd rfl (Or.inl rfl) (C8.pe_c c_l_draw hr (by decide) rfl (pa_cons (pv 0) (pa_cons pe_int pa_nil))))
      (C8.pss_cut (ps_set (i := 5) sc_l_drawn.nd rfl (Or.inr rfl) (pe_ifExp (pt_cmpR op_gt (pv 2) pe_int (nomark _)) pe_int pe_int))
      (C8.pss_cut (ps_setLc (i := 6) (own := [("k", 8)]) rfl sc_l_drawn.nd rfl rfl (sw_true rfl rfl rfl (by decide +kernel)) (pi_range1 (by rfl) G.range (pa_cons (pv 4) pa_nil)) (blkOk_by (own := [("k", 8)]) (N := ["bag", "arm", "mod", "hands", "many", "low", "edges", "last", "k"]) (sc := defScope st_l_drawn) (by decide +kernel)) (fun _ _ _ _ _ => (pg_name (i := 8) sc_l_drawn.nd rfl (Or.inl rfl))) (fun _ _ _ _ _ => pts_nil) (fun _ _ _ _ _ => (pe_op op_sub (C8.pe_c c_l_draw hr (by decide) rfl (pa_cons (pv 0) (pa_cons (pe_ifExp (pt_cmpR op_gt (pv 2) pe_int (nomark _)) (pv 2) pe_int) pa_nil))) (pv 5))))
      (C8.pss_cut (ps_set (i := 7) sc_l_drawn.nd rfl (Or.inl rfl) (C8.pe_c c_l_red hr (by decide) rfl (pa_cons (pv 2) (pa_cons (pe_op op_sub (pe_op op_mul (pv 1) (pe_op op_sub (pe_op op_sub pe_int (pe_op op_mul pe_int (pv 3))) (pv 4))) (pe_callB (cr_sum rfl) (by rfl) G.sum (by decide +kernel) (pa_cons (pv 6) pa_nil))) pa_nil))))
      (C8.pss_cut (ps_set (i := 6) sc_l_drawn.nd rfl (Or.inl rfl) (pe_op op_cat (pv 6) (pe_lst (pa_cons (pe_ifExp (pt_cmpR op_eq (C8.pe_c c_l_draw hr (by decide) rfl (pa_cons (pv 0) (pa_cons pe_int pa_nil))) pe_int (nomark _)) (pv 7) (pe_op op_sub (C8.pe_c c_l_draw hr (by decide) rfl (pa_cons (pv 0) (pa_cons (pe_ifExp (pt_cmpR op_gt (pv 2) pe_int (nomark _)) (pv 2) pe_int) pa_nil))) (pv 5))) pa_nil))))
      (C8.pss_cut (ps_if (pt_cmpR op_gt (C8.pe_c c_l_draw hr (by decide) rfl (pa_cons (pv 0) (pa_cons pe_int pa_nil))) pe_int (nomark _))
        (pss_one (ps_set (i := 6) sc_l_drawn.nd rfl (Or.inl rfl) (pe_callB cr_sortedI (by rfl) G.sorted (by decide +kernel) (pa_cons (pv 6) pa_nil))))
        pss_nil)
      (pss_cons (ps_if (pt_cmpR op_eq (pv 3) pe_int (nomark _))
        (pss_one (ps_ret (pe_lst (pa_cons pe_int (pa_cons (pv 6) (pa_cons (C8.pe_c c_l_of hr (by decide) rfl (pa_cons (pv 0) (pa_cons (pe_lst (pa_cons pe_int (pa_cons pe_int (pa_cons pe_int (pa_cons pe_int (pa_cons pe_int (pa_cons pe_int (pa_cons pe_int (pa_cons (pe_un un_neg pe_int) pa_nil))))))))) pa_nil))) (pa_cons pe_non (pa_cons pe_non pa_nil))))))))
        pss_nil)
      (pss_cons (ps_if (pt_cmpR op_eq (pv 3) pe_int (nomark _))
        (pss_one (ps_ret (pe_lst (pa_cons pe_int (pa_cons (pv 6) (pa_cons pe_non (pa_cons pe_non (pa_cons pe_non pa_nil))))))))
        pss_nil)
      (pss_one (ps_ret (pe_lst (pa_cons (pv 3) (pa_cons (pv 6) (pa_cons pe_non (pa_cons (C8.pe_c c_l_of hr (by decide) rfl (pa_cons (pv 0) (pa_cons (pe_lst (pa_cons pe_int (pa_cons pe_int (pa_cons pe_int (pa_cons pe_int (pa_cons (pv 1) (pa_cons pe_int (pa_cons pe_int (pa_cons (pe_un un_neg pe_int) pa_nil))))))))) pa_nil))) (pa_cons (C8.pe_c c_l_of hr (by decide) rfl (pa_cons (pv 0) (pa_cons (pe_lst (pa_cons pe_non (pa_cons pe_non (pa_cons pe_int (pa_cons pe_int (pa_cons (pe_un un_neg pe_int) (pa_cons pe_int pa_nil))))))) pa_nil))) pa_nil)))))))))))))))))), ?_⟩
    try dsimp only [cxOf]
    walk_at "go"
    refine ⟨b, l, 4, rfl, hB, by decide, by decide, fun hh H1 hh4 hB1 kp1 => ?_⟩
    walk_at "go"
    refine ⟨b, l, 4, rfl, hB1, by decide, by decide, fun n H2 hn4 hB2 kp2 => ?_⟩
    walk_at "go"
    refine x_cut (fun σ H' => H' = H2 ∧ ∃ low : Nat, low ≤ 5 ∧ σ = [some (.ref b), some (.int (arm : Nat)), some (.int (mod : Nat)), some (.int (hh : Nat)), some (.int (n : Nat)), some (.int (low : Nat)), none, none, none]) ?_ ?_
    · walk_at "go"
      refine x_iteD (fun c => ?_) (fun c => ?_)
      · walk_at "go"
        exact ⟨rfl, 0, by decide, rfl⟩
      · walk_at "go"
        exact ⟨rfl, 5, by decide, rfl⟩
    rintro σ _ ⟨rfl, low, hlow, rfl⟩
    have k02 := Kp.trans kp1 kp2
    refine x_cut (fun σ H' => ∃ (p : Addr) (rs : List Int), rs.length = n ∧ (∀ e ∈ rs, e.natAbs ≤ 24) ∧ Kp b H H' ∧ BagAt H' b l ∧ H' p = some (.lst (rs.map V.int)) ∧ σ = [some (.ref b), some (.int (arm : Nat)), some (.int (mod : Nat)), some (.int (hh : Nat)), some (.int (n : Nat)), some (.int (low : Nat)), some (.ref p), none, none]) ?_ ?_
    · walk_at "go"
      refine w_lcR1B (l := l) hB2 (by omega) (by omega) (Nat.lt_of_le_of_lt (show _ ≤ 5 by omega) (by decide)) (fun _ i acc _ => ∃ rs : List Int, acc = rs.map V.int ∧ rs.length = i ∧ ∀ e ∈ rs, e.natAbs ≤ 24) (fun p i acc H1 H2 _ h => h) (fun p _ => ⟨[], rfl, rfl, fun e h => by cases h⟩) ?_ ?_
      · rintro p i H' acc hp npb hi kpi B1 hpa ⟨rs, rfl, hrl, hrb⟩ hai R S2 hR hS2
        walk_at "go"
        refine ⟨rfl, ?_⟩
        walk_at "go"
        have fin : ∀ (r : Nat) H4, r < 24 → BagAt H4 b l → Kp b H' H4 → R (.int ((r : Int) - (low : Int))) H4 := fun r H4 hr B4 k4 => by
          refine hR _ _ k4 B4 ⟨rs ++ [(r : Int) - (low : Int)], by rw [List.map_append]; rfl, by rw [List.length_append, hrl]; rfl, fun e he => ?_⟩
          rcases List.mem_append.mp he with he | he
          · exact hrb e he
          · rw [List.mem_singleton.mp he]; omega
        refine x_iteD (fun c => ?_) (fun c => ?_)
        · walk_at "go"
          refine ⟨b, l, (mod : Int), rfl, B1, by omega, by omega, fun r H4 h4 hB4 kp4 => ?_⟩
          walk_at "go"
          exact fin r H4 (by omega) hB4 kp4
        · walk_at "go"
          refine ⟨b, l, 11, rfl, B1, by decide, by decide, fun r H4 h4 hB4 kp4 => ?_⟩
          walk_at "go"
          exact fin r H4 (by omega) hB4 kp4
      · rintro p H' acc hp npb kpi B1 hpa ⟨rs, rfl, hrl, hrb⟩
        walk_at "go"
        exact ⟨p, rs, by omega, hrb, Kp.trans k02 kpi, B1, hpa, rfl⟩
    rintro σ H3 ⟨p0, rs, hrl, hrb, kp3, hB3, hp0, rfl⟩
    have hsb := sum_abs hrb
    have hsb2 : rs.sum.natAbs ≤ 72 := Nat.le_trans hsb (show 24 * rs.length ≤ 24 * 3 from Nat.mul_le_mul_left _ (by omega))
    have np0 := int_ne_bag (H' := H3) hB3 hp0
    have cm1 : CMul 2 (hh : Int) := .inl ⟨by omega, by omega⟩
    have cm2 : CMul (arm : Int) (1 - 2 * (hh : Int) - (n : Int)) := .inl ⟨by omega, by omega⟩
    have ab : ((arm : Int) * (1 - 2 * (hh : Int) - (n : Int))).natAbs ≤ 132 := by
      rw [Int.natAbs_mul]
      exact Nat.mul_le_mul (show (arm : Int).natAbs ≤ 12 by omega) (show (1 - 2 * (hh : Int) - (n : Int)).natAbs ≤ 11 by omega)
    generalize hw : (arm : Int) * (1 - 2 * (hh : Int) - (n : Int)) = w at ab
    refine x_cut (fun σ H' => H' = H3 ∧ ∃ la : Int, la.natAbs ≤ 300 ∧ σ = [some (.ref b), some (.int (arm : Nat)), some (.int (mod : Nat)), some (.int (hh : Nat)), some (.int (n : Nat)), some (.int (low : Nat)), some (.ref p0), some (.int la), none]) ?_ ?_
    · walk_at "go"
      rw [hw]
      refine x_sum (SqL.of hp0) ?_
      walk_at "go"
      refine ⟨mod, _, rfl, by omega, ?_⟩
      walk_at "go"
      exact ⟨rfl, _, redN_abs (by omega) (by omega), rfl⟩
    rintro σ _ ⟨rfl, la, hla, rfl⟩
    refine x_cut (fun σ H' => ∃ (p : Addr) (es : List Int), es.length = n + 1 ∧ (∀ e ∈ es, e.natAbs ≤ 300) ∧ Kp b H H' ∧ BagAt H' b l ∧ H' p = some (.lst (es.map V.int)) ∧ σ = [some (.ref b), some (.int (arm : Nat)), some (.int (mod : Nat)), some (.int (hh : Nat)), some (.int (n : Nat)), some (.int (low : Nat)), some (.ref p), some (.int la), none]) ?_ ?_
    · have fin : ∀ (H4 : Hp) (z : Int), z.natAbs ≤ 300 → BagAt H4 b l → Kp b H H4 → H4 p0 = some (.lst (rs.map V.int)) → ∀ u t, H4 u = none → upd H4 u (.lst [V.int z]) t = none → 
          ∃ (es : List Int), es.length = n + 1 ∧ (∀ e ∈ es, e.natAbs ≤ 300) ∧ Kp b H (upd (upd H4 u (.lst [V.int z])) t (.lst (rs.map V.int ++ [V.int z]))) ∧ BagAt (upd (upd H4 u (.lst [V.int z])) t (.lst (rs.map V.int ++ [V.int z]))) b l ∧ (upd (upd H4 u (.lst [V.int z])) t (.lst (rs.map V.int ++ [V.int z]))) t = some (.lst (es.map V.int)) := fun H4 z hz B4 k4 e4 u t hu ht => by
        refine ⟨rs ++ [z], by rw [List.length_append, hrl]; rfl, fun e he => ?_, Kp.trans k4 (Kp.of (Same.trans (Same.new hu) (Same.new ht))), B4.same (Same.trans (Same.new hu) (Same.new ht)), by rw [upd_same, List.map_append]; rfl⟩
        rcases List.mem_append.mp he with he | he
        · exact Nat.le_trans (hrb e he) (by decide)
        · rw [List.mem_singleton.mp he]; exact hz
      walk_at "go"
      refine ⟨b, l, 2, rfl, hB3, by decide, by decide, fun r H4 h4 hB4 kp4 => ?_⟩
      have e4 := kp4 _ _ np0 hp0
      walk_at "go"
      refine x_iteD (fun c => ?_) (fun c => ?_)
      · walk_at "go"
        refine ⟨by show 1 ≤ sizeLine; decide, fun u hu => ?_⟩
        refine x_cat (upd_old hu e4) upd_same (by rw [List.length_map]; exact Nat.le_trans (show _ ≤ 6 by show rs.length + 1 ≤ 6; omega) (by decide)) fun t ht => ?_
        obtain ⟨es, f1, f2, f3, f4, f5⟩ := fin H4 la hla hB4 (Kp.trans kp3 kp4) e4 u t hu ht
        walk_at "go"
        exact ⟨t, es, f1, f2, f3, f4, f5, rfl⟩
      · walk_at "go"
        have fin2 : ∀ (r : Nat) H5, r < 24 → BagAt H5 b l → Kp b H4 H5 → ((r : Int) - (low : Int)).natAbs ≤ 300 ∧ H5 p0 = some (.lst (rs.map V.int)) := fun r H5 hr B5 k5 => ⟨by omega, k5 _ _ np0 e4⟩
        refine x_iteD (fun c2 => ?_) (fun c2 => ?_)
        · walk_at "go"
          refine ⟨b, l, (mod : Int), rfl, hB4, by omega, by omega, fun r2 H5 h5 hB5 kp5 => ?_⟩
          obtain ⟨z1, z2⟩ := fin2 r2 H5 (by omega) hB5 kp5
          walk_at "go"
          refine ⟨by show 1 ≤ sizeLine; decide, fun u hu => ?_⟩
          refine x_cat (upd_old hu z2) upd_same (by rw [List.length_map]; exact Nat.le_trans (show _ ≤ 6 by show rs.length + 1 ≤ 6; omega) (by decide)) fun t ht => ?_
          obtain ⟨es, f1, f2, f3, f4, f5⟩ := fin H5 _ z1 hB5 (Kp.trans kp3 (Kp.trans kp4 kp5)) z2 u t hu ht
          walk_at "go"
          exact ⟨t, es, f1, f2, f3, f4, f5, rfl⟩
        · walk_at "go"
          refine ⟨b, l, 11, rfl, hB4, by decide, by decide, fun r2 H5 h5 hB5 kp5 => ?_⟩
          obtain ⟨z1, z2⟩ := fin2 r2 H5 (by omega) hB5 kp5
          walk_at "go"
          refine ⟨by show 1 ≤ sizeLine; decide, fun u hu => ?_⟩
          refine x_cat (upd_old hu z2) upd_same (by rw [List.length_map]; exact Nat.le_trans (show _ ≤ 6 by show rs.length + 1 ≤ 6; omega) (by decide)) fun t ht => ?_
          obtain ⟨es, f1, f2, f3, f4, f5⟩ := fin H5 _ z1 hB5 (Kp.trans kp3 (Kp.trans kp4 kp5)) z2 u t hu ht
          walk_at "go"
          exact ⟨t, es, f1, f2, f3, f4, f5, rfl⟩
    rintro σ H4 ⟨p1, es1, l1, b1, kp4, hB4, hp1, rfl⟩
    have np1 := int_ne_bag (H' := H4) hB4 hp1
    refine x_cut (fun σ H' => ∃ (p : Addr) (es : List Int), es.length = n + 1 ∧ (∀ e ∈ es, e.natAbs ≤ 300) ∧ Kp b H H' ∧ BagAt H' b l ∧ H' p = some (.lst (es.map V.int)) ∧ σ = [some (.ref b), some (.int (arm : Nat)), some (.int (mod : Nat)), some (.int (hh : Nat)), some (.int (n : Nat)), some (.int (low : Nat)), some (.ref p), some (.int la), none]) ?_ ?_
    · walk_at "go"
      refine ⟨b, l, 4, rfl, hB4, by decide, by decide, fun r H5 h5 hB5 kp5 => ?_⟩
      have e5 := kp5 _ _ np1 hp1
      walk_at "go"
      refine x_iteD (fun c => ?_) (fun c => ?_)
      · walk_at "go"
        refine ⟨p1, _, rfl, SqL.of e5, fun es q hperm hsort hq => ?_⟩
        walk_at "go"
        exact ⟨q, es, by rw [hperm.length_eq, l1], fun e he => b1 e (hperm.mem_iff.mp he), Kp.trans kp4 (Kp.trans kp5 (Kp.of (Same.new hq))), hB5.same (Same.new hq), upd_same, rfl⟩
      · walk_at "go"
        exact ⟨p1, es1, l1, b1, Kp.trans kp4 kp5, hB5, e5, rfl⟩
    rintro σ H5 ⟨ep, es, l2, b2, kp5, hB5, hep, rfl⟩
    have nep := int_ne_bag (H' := H5) hB5 hep
    have z5 : 5 ≤ sizeLine := by decide
    have out : ∀ (H6 : Hp) (m p sn : Option Int), BagAt H6 b l → Kp b H5 H6 → Formed (hh : Int) m p sn → (m.getD 0).natAbs ≤ 960 → (p.getD 0).natAbs ≤ 960 → ∀ q, H6 q = none → Q (.ref q) (upd H6 q (.lst [.int (hh : Nat), .ref ep, oV m, oV p, oV sn])) := fun H6 m p sn B6 k6 f6 m6 p6 q hq =>
      k q ep hh es m p sn _ (B6.new hq) (Kp.trans kp5 (Kp.trans k6 (Kp.of (Same.new hq)))) ⟨upd_same, upd_old hq (k6 _ _ nep hep)⟩ f6 (by omega) (by omega) (by omega) ⟨fun e he => Nat.le_trans (b2 e he) (by decide), m6, p6⟩
    walk_at "go"
    refine x_iteD (fun c1 => ?_) (fun c1 => ?_)
    · have e1 : hh = 1 := by omega
      subst e1
      walk_at "go"
      refine ⟨by show 8 ≤ sizeLine; decide, fun v hv => ?_⟩
      have hvb : v ≠ b := fun z => hB5.b_some (z ▸ hv)
      refine ⟨b, l, v, _, rfl, hB5.new hv, hvb, upd_same, by decide, by decide, fun i x H6 hx hB6 kp6 => ?_⟩
      obtain ⟨mv, rfl, hmv⟩ : ∃ mv : Int, x = .int mv ∧ mv.natAbs ≤ 960 := by
        match i, hx with
        | 0, e => cases e; exact ⟨_, rfl, by decide⟩
        | 1, e => cases e; exact ⟨_, rfl, by decide⟩
        | 2, e => cases e; exact ⟨_, rfl, by decide⟩
        | 3, e => cases e; exact ⟨_, rfl, by decide⟩
        | 4, e => cases e; exact ⟨_, rfl, by decide⟩
        | 5, e => cases e; exact ⟨_, rfl, by decide⟩
        | 6, e => cases e; exact ⟨_, rfl, by decide⟩
        | 7, e => cases e; exact ⟨_, rfl, by decide⟩
      walk_at "go"
      refine ⟨z5, fun q hq => ?_⟩
      exact out H6 (some mv) none none hB6 (Kp.trans (Kp.of (Same.new hv)) kp6) ⟨by decide, ⟨fun _ => rfl, fun _ => rfl⟩, ⟨fun z => (by cases z), fun z => absurd z (by decide)⟩, .inl rfl⟩ hmv (Nat.zero_le _) q hq
    · walk_at "go"
      refine x_iteD (fun c2 => ?_) (fun c2 => ?_)
      · have e1 : hh = 0 := by omega
        subst e1
        walk_at "go"
        refine ⟨z5, fun q hq => ?_⟩
        exact out H5 none none none hB5 Kp.refl ⟨by decide, ⟨fun z => (by cases z), fun z => absurd z (by decide)⟩, ⟨fun z => (by cases z), fun z => absurd z (by decide)⟩, .inl rfl⟩ (Nat.zero_le _) (Nat.zero_le _) q hq
      · have h2 : 2 ≤ hh := by omega
        walk_at "go"
        refine ⟨by show 8 ≤ sizeLine; decide, fun v hv => ?_⟩
        have hvb : v ≠ b := fun z => hB5.b_some (z ▸ hv)
        refine ⟨b, l, v, _, rfl, hB5.new hv, hvb, upd_same, by show 0 < 8; decide, by show 8 < 1073741824; decide, fun i x H6 hx hB6 kp6 => ?_⟩
        obtain ⟨pv, rfl, hpv⟩ : ∃ pv : Int, x = .int pv ∧ pv.natAbs ≤ 960 := by
          match i, hx with
          | 0, e => cases e; exact ⟨_, rfl, by decide⟩
          | 1, e => cases e; exact ⟨_, rfl, by decide⟩
          | 2, e => cases e; exact ⟨_, rfl, by decide⟩
          | 3, e => cases e; exact ⟨_, rfl, by decide⟩
          | 4, e => cases e; exact ⟨_, rfl, by omega⟩
          | 5, e => cases e; exact ⟨_, rfl, by decide⟩
          | 6, e => cases e; exact ⟨_, rfl, by decide⟩
          | 7, e => cases e; exact ⟨_, rfl, by decide⟩
        walk_at "go"
        refine ⟨by show 6 ≤ sizeLine; decide, fun v2 hv2 => ?_⟩
        have hvb2 : v2 ≠ b := fun z => hB6.b_some (z ▸ hv2)
        refine ⟨b, l, v2, _, rfl, hB6.new hv2, hvb2, upd_same, by decide, by decide, fun i2 x2 H7 hx2 hB7 kp7 => ?_⟩
        obtain ⟨sn, rfl, hsn⟩ : ∃ sn : Option Int, x2 = oV sn ∧ (sn = none ∨ sn = some 1 ∨ sn = some 0 ∨ sn = some (-1)) := by
          match i2, hx2 with
          | 0, e => cases e; exact ⟨none, rfl, .inl rfl⟩
          | 1, e => cases e; exact ⟨none, rfl, .inl rfl⟩
          | 2, e => cases e; exact ⟨some 1, rfl, .inr (.inl rfl)⟩
          | 3, e => cases e; exact ⟨some 0, rfl, .inr (.inr (.inl rfl))⟩
          | 4, e => cases e; exact ⟨some (-1), rfl, .inr (.inr (.inr rfl))⟩
          | 5, e => cases e; exact ⟨some 0, rfl, .inr (.inr (.inl rfl))⟩
        walk_at "go"
        refine ⟨z5, fun q hq => ?_⟩
        exact out H7 none (some pv) sn hB7 (Kp.trans (Kp.of (Same.new hv)) (Kp.trans kp6 (Kp.trans (Kp.of (Same.new hv2)) kp7))) ⟨by omega, ⟨fun z => (by cases z), fun z => by omega⟩, ⟨fun _ => by omega, fun _ => rfl⟩, hsn.elim .inl fun z => .inr ⟨by omega, z⟩⟩ (Nat.zero_le _) hpv q hq
def gK6 {α : Type} (us mv ws : List α) : List α := us ++ (ws.drop 5).take 1 ++ (ws.drop 4).take 1 ++ (ws.drop 3).take 1 ++ (ws.drop 2).take 1 ++ (ws.drop 1).take 1 ++ ws.take 1
theorem kbK6 (F : FnK K f fd) : ∃ mv : List Value, KBn K fd psK 1 ["balance", "share", "measure", "rims", "handles", "book"] (fun us ws => gK6 us mv ws) (fun vs zs => gK6 vs [] zs) :=
  FunD.kbinds0 F 1 ["balance", "share", "measure", "rims", "handles", "book"] [] gK6 (by decide) (fun q hq => by cases hq) (fun r1 r2 r3 => (((((r1.append ((r3.drop 5).take 1)).append ((r3.drop 4).take 1)).append ((r3.drop 3).take 1)).append ((r3.drop 2).take 1)).append ((r3.drop 1).take 1)).append (r3.take 1))
    fun D doc pm an cdv ct us mv ws l1 l2 l3 => match us, mv, ws, l1, l2, l3 with | [_], [], [_, _, _, _, _, _], _, _, _ => rfl
structure KFacts0 (K : PySem.W.Frag) (mg : Str → Option Value) : Prop where
  gCE : mg "CombedError" = some (.ref (He.ga K "CombedError"))
  k3 : PySem.W.kitOne K (.ref (He.ga K "NotOne")) (.ref (He.ga K "CombedError")) = some true
  x3 : PySem.W.exmOne K (.ref (He.ga K "NotOne")) (.ref (He.ga K "NotOne")) = some true
def oD : Option Int → PyData
  | none => .none
  | some z => .int z
theorem oD_ok (o : Option Int) : PyData.canLay0 (oD o) = true ∧ PyData.depth (oD o) = 0 ∧ PyData.eqv (oD o) (oD o) = true := by
  cases o with
  | none => exact ⟨by simp only [oD, PyData.canLay0], by simp only [oD, PyData.depth], by simp [oD, PyData.eqv]⟩
  | some z => exact ⟨by simp only [oD, PyData.canLay0], by simp only [oD, PyData.depth], by simp [oD, PyData.eqv]⟩
theorem dp_oV {K : PySem.W.Frag} {H : Hp} (o : Option Int) : Dp K H (oV o) (oD o) := by
  cases o with
  | none => exact .non
  | some z => exact .int z
theorem cts_eq {H : Hp} {K : PySem.W.Frag} {Q : VK} {q ep c ep2 : Addr} {h : Int} {es : List Int} {m p sn : Option Int} (h1 : CtsAt H q ep h es m p sn) (h2 : CtsAt H c ep2 h es m p sn) (k : Q (.bl true) H) : rEqD K (.ref q) (.ref c) H Q := by
  obtain ⟨m1, m2, m3⟩ := oD_ok m
  obtain ⟨p1, p2, p3⟩ := oD_ok p
  obtain ⟨s1, s2, s3⟩ := oD_ok sn
  have hs : SeqAt.shaped (.list [.int h, .list (es.map PyData.int), oD m, oD p, oD sn]) = true := by
    unfold SeqAt.shaped
    have g1 : PyData.canLay0 (.list [.int h, .list (es.map PyData.int), oD m, oD p, oD sn]) = true := by
      simp only [PyData.canLay0, PyData.canLayAll0, lay_ints, m1, p1, s1, Bool.and_true]
    have g3 : PyData.depth (.list [.int h, .list (es.map PyData.int), oD m, oD p, oD sn]) ≤ 64 := by
      simp only [PyData.depth, PyData.depthAll, dep_ints, m2, p2, s2]
      decide
    rw [g1, Bool.true_and]
    exact decide_eq_true g3
  have he : PyData.eqv (.list [.int h, .list (es.map PyData.int), oD m, oD p, oD sn]) (.list [.int h, .list (es.map PyData.int), oD m, oD p, oD sn]) = true := by
    have := eqv_ints es es
    rw [decide_eq_true rfl] at this
    simp [PyData.eqv, PyData.eqvAll, this, m3, p3, s3]
  have dp : ∀ {a b : Addr}, CtsAt H a b h es m p sn → Dp K H (.ref a) (.list [.int h, .list (es.map PyData.int), oD m, oD p, oD sn]) := fun x =>
    .lst (SqL.of x.c_) (.cons (.int h) (.cons (.lst (SqL.of x.e_) (dp_ints es)) (.cons (dp_oV m) (.cons (dp_oV p) (.cons (dp_oV sn) .nil)))))
  exact ⟨_, _, dp h1, dp h2, hs, hs, by rw [he]; exact k⟩
theorem gvK_abs {arm h : Nat} {ini : List Int} {m p : Int} {sn : Option Int} (ha : arm ≤ 12) (hi : ∀ e ∈ ini, e.natAbs ≤ 960) (hm : m.natAbs ≤ 960) (hp : p.natAbs ≤ 960) (i : Nat) : (gvK arm h ini m p sn i).natAbs ≤ 1000 := by
  have hs : ∀ j, (shiftK h m p sn j).natAbs ≤ 960 := fun j => by
    unfold shiftK
    split
    · exact hm
    · split
      · exact hp
      · split
        · exact hp
        · exact Nat.zero_le _
  unfold gvK
  split
  · split
    · have := hs (i / 2 + 1)
      omega
    · omega
  · have : (ini.getD (i - 2 * h) 0).natAbs ≤ 960 := by
      rw [List.getD_eq_getElem?_getD]
      cases e : ini[i - 2 * h]? with
      | none => exact Nat.zero_le _
      | some z => exact hi z (List.mem_of_getElem? e)
    omega
theorem blkO_ok {arm mod h k : Nat} {ini : List Int} {m p : Int} {sn : Option Int} (ha1 : 1 ≤ arm) (ha : arm ≤ 12) (hm1 : mod ≠ 1) (hm2 : mod ≤ 24) (hh : h < 4) (hk : k < 4) (hi : ∀ e ∈ ini, e.natAbs ≤ 960) (hm : m.natAbs ≤ 960) (hp : p.natAbs ≤ 960) : (blkO arm mod h k (gvK arm h ini m p sn)).Ok := by
  have hb := blkW_bands h hh k hk
  refine ⟨ha1, ha, hm1, hm2, blkW_word h hh k hk, by show (blkW h k).length ≤ 400; rw [blkW_len]; omega, by rw [blkO_keys]; exact nmW_nodup _, fun z hz => ?_, fun n hn => ?_, fun z hz => ?_, ?_⟩
  · obtain ⟨i, hi, rfl⟩ := List.mem_map.mp hz
    refine (mem_bandsOf _ _).mp ?_
    show nmW i ∈ bandsOf (blkW h k)
    rw [hb]
    exact List.mem_map.mpr ⟨i, hi, rfl⟩
  · rw [blkO_keys, ← hb]
    exact (mem_bandsOf _ _).mpr hn
  · obtain ⟨i, _, rfl⟩ := List.mem_map.mp hz
    exact redN_abs (by omega) (gvK_abs ha hi hm hp i)
  · show ((List.range (2 * h + k)).map _).length ≤ 400
    rw [List.length_map, List.length_range]
    omega
theorem dropLast_getLast {es : List Int} (h : 1 ≤ es.length) : ∃ ini la, es = ini ++ [la] := by
  induction es with
  | nil => exact absurd h (by decide)
  | cons a l ih =>
    cases l with
    | nil => exact ⟨[], a, rfl⟩
    | cons b l =>
      obtain ⟨ini, la, e⟩ := ih (by rw [List.length_cons]; omega)
      exact ⟨a :: ini, la, by rw [e]; rfl⟩
def spKept0 (K : PySem.W.Frag) : Sp := fun vs H Q _ => ∃ (c ep : Addr) (arm mod h : Nat) (es : List Int) (m p sn : Option Int), vs = [.int arm, .int mod, .ref c] ∧ CtsAt H c ep (h : Int) es m p sn ∧ Formed (h : Int) m p sn ∧ 1 ≤ arm ∧ arm ≤ 12 ∧ mod ≠ 1 ∧ mod ≤ 24 ∧ h < 4 ∧ 1 ≤ es.length ∧ es.length ≤ 4 ∧ Bd 960 es m p ∧ ∀ H', Same H H' → Q (.bl true) H'
theorem ok_kept0 {f1 : Addr} {fd1 : FuncData} (B : Bi K mg) (EN : Er1 P K mg "NotOne" (He.ga K "NotOne") "count") (kf : KFacts0 K mg) (g_Kind : mg "Kind" = some (.ref (He.ga K "Kind"))) (M_Kind : Mk K (He.ga K "Kind") f1) (FK : FnK K f1 fd1) (F_Kind : FnOk P w K mg base (L2N.CX P w) 4 f1 fd1 psK (spKindN K)) (mk_Book_2 : C8.Mak P w K mg base 2 "Book" (He.ga K "Book") (spBook K) [])
    (c_l_broken : C8.Cal P w K mg base 2 "_law_broken" spLBroken []) (hS_l_like : CalH P w K mg base 1 "_law_like" ["told", "due"] spLikeS) (c_l_is_kind : C8.Cal P w K mg base 4 "_law_is_kind" (spIsKind K) []) (c_form_of : C8.Cal P w K mg base 5 "form_of" (spForm K) []) (c_l_own : C8.Cal P w K mg base 4 "_law_own" (spOwn K) []) (c_l_kind : C8.Cal P w K mg base 4 "_law_kind" spLKind []) (F : FnP K "_law_kept" st_l_kept f fd) : FnOk P w K mg base CX0 6 f fd ["arm", "mod", "counts"] (spKept0 K) := by
  obtain ⟨mv6, kb6⟩ := kbK6 FK
  obtain ⟨f3, fd3, GS, gl3, kl3, bl3⟩ := hS_l_like.ex
  refine F.ok sc_l_kept (fun vs H Q E h => ?_) (fun cdv A outer s H vs Q E hr h => ?_)
  · obtain ⟨c, ep, arm, mod, h, es, m, p, sn, rfl, _⟩ := h
    rfl
  · obtain ⟨c, ep, arm, mod, hh, es, m, p, sn, rfl, hC, hf, ha1, ha2, hm1, hm2, hh4, hel1, he4, hbd, k⟩ := h
    have G := B
    have hc := hC.c_
    have he := hC.e_
    have hr5 : Room 5 _ := hr
    have hr1 : Room 1 _ := hr.mono (by decide)
    refine ⟨_, PSs.nox ((pss_cons (ps_set (i := 3) sc_l_kept.nd rfl (Or.inl rfl) (C8.pe_c c_l_broken hr (by decide) rfl (pa_cons (pv 0) (pa_cons (pv 1) (pa_cons (pv 2) pa_nil)))))
      (pss_cons (ps_try_asM (i := 5) (tb := fun W => tAsg (tMakeKS (He.ga K "Kind") 0 (["balance", "share", "measure", "rims", "handles", "book"] : List Str).length (spKindN K) (fun vs zs => gK6 vs [] zs) (L2.WE W) tNil (tCons (tOp (rIxL K) (tVar 2) (tC (.int 4))) (tCons (tOp (rIxL K) (tVar 2) (tC (.int 3))) (tCons (tOp (rIxL K) (tVar 2) (tC (.int 2))) (tCons (tCB (rListS K) (tCons (tOp (rIxL K) (tVar 2) (tC (.int 1))) tNil)) (tCons (tOp (rIxL K) (tVar 2) (tC (.int 0))) (tCons (tMake (He.ga K "Book") (spBook K) [] C8.E0 (tCons (tVar 0) (tCons (tVar 1) tNil))) tNil))))))) (gName 4)) (Wout := fun _ _ _ _ => False) (l := [(.ref (He.ga K "NotOne"), fun a cls d => tRet (tAndV (tOp rNe (tVar 3) (tC (.str ""))) (tAndV (tCB (rIsX K (He.ga K "NotOne") a cls d) (tCons (tVar 5) (tCons (tC (.ref (He.ga K "CombedError"))) tNil))) (tCallS spLikeS (fun _ _ _ _ => False) (tCons (tXf a cls d (He.ga K "NotOne") "count" (tVar 5)) (tCons (tVar 3) tNil))))))]) rfl rfl sc_l_kept.nd rfl rfl takesN0 (fun W pn xe tk _ => pss_one (ps_set (i := 4) sc_l_kept.nd rfl (Or.inl rfl) (pe_makeKS0 M_Kind F_Kind hr5 rfl g_Kind kb6 (fun σ => L2N.passAt tk σ) (by exact (pk_cons (pe_ix ix_list (pv 2) pe_int (fun _ _ => rfl)) (pk_cons (pe_ix ix_list (pv 2) pe_int (fun _ _ => rfl)) (pk_cons (pe_ix ix_list (pv 2) pe_int (fun _ _ => rfl)) (pk_cons (pe_callTy callListS (by rfl) G.list (by decide +kernel) (pa_cons (pe_ix ix_list (pv 2) pe_int (fun _ _ => rfl)) pa_nil)) (pk_cons (pe_ix ix_list (pv 2) pe_int (fun _ _ => rfl)) (pk_cons (C8.pe_mk mk_Book_2 hr5 (by decide) rfl (pa_cons (pv 0) (pa_cons (pv 1) pa_nil))) pk_nil)))))))))) (HdsAs.cons ⟨rfl, by decide, Or.inl EN.g⟩ (fun a oe cls d pn hz hf => pss_one (ps_ret (pe_and (pe_cmpR op_ne (pv 3) pe_str (nomark _)) (pe_and (pe_callB (call_isX EN.ec hz.zc hf) (by rfl) G.isinstance (by decide +kernel) (by exact (pa_cons (pv 5) (pa_cons (pe_glob rfl kf.gCE rfl) pa_nil)))) (pe_one (L2H.pe_callH GS ⟨hr1.dp, hr1.un⟩ (hot_suite hz hf) rfl gl3 kl3 bl3 (fun σ pins H s e s' I c => False.elim c) (by exact (pa_cons (pe_xf EN.xf EN.nof hz.zc hf (pv 5)) (pa_cons (pv 3) pa_nil))))))))) .nil))
      (pss_cons (ps_if (PW.pt (pw_or (pt_cmpR op_ne (pv 3) pe_str (nomark _)) (pw_or1 (pt_not (pt_val (C8.pe_c c_l_is_kind hr (by decide) rfl (pa_cons (pv 4) (pa_cons (pv 0) (pa_cons (pv 1) (pa_cons (pv 2) pa_nil))))))))))
        (pss_one (ps_ret pe_bl))
        pss_nil)
      (pss_cons (ps_set (i := 6) sc_l_kept.nd rfl (Or.inl rfl) (C8.pe_c c_l_own hr (by decide) rfl (pa_cons (C8.pe_c c_form_of hr (by decide) rfl (pa_cons (pv 4) pa_nil)) (pa_cons (pv 0) (pa_cons (pv 1) pa_nil)))))
      (pss_one (ps_ret (pe_and (pe_cmpR (op_neL0 hr.units) (pv 6) (pe_lst pa_nil) (nomark _)) (pe_one (pe_cmpR (op_eqD hr.units) (C8.pe_c c_l_kind hr (by decide) rfl (pa_cons (pv 6) pa_nil)) (pv 2) (nomark _))))))))))), ?_⟩
    try dsimp only [cxOf]
    walk_at "go"
    refine ⟨arm, mod, c, ep, hh, es, m, p, sn, rfl, hC, hf, by omega, by omega, by omega, fun e he => by have := hbd.e e he; omega, by omega, by have := hbd.m; omega, by have := hbd.p; omega, fun H1 s1 => ?_⟩
    have hc1 := s1 _ _ hc
    have he1 := s1 _ _ he
    walk_at "go"
    refine x_asg (x_makeKS ?_)
    walk_at "go"
    refine x_listL (SqL.of he1) fun q hq => ?_
    have s2 : Same H (upd H1 q (.lst (es.map V.int))) := Same.trans s1 (Same.new hq)
    have hq2 : (upd H1 q (.lst (es.map V.int))) q = some (.lst (es.map V.int)) := upd_same
    revert s2 hq2
    generalize upd H1 q (.lst (es.map V.int)) = H2
    intro s2 hq2
    have hc2 := s2 _ _ hc
    have he2 := s2 _ _ he
    walk_at "go"
    refine book_made ha1 ha2 hm1 hm2 fun xb H3 s3 hB => ?_
    have hc3 := s3 _ _ hc2
    have he3 := s3 _ _ he2
    have hq3 := s3 _ _ hq2
    walk_at "go"
    refine ⟨rfl, rfl, fun x dx hx hdx ne => ?_⟩
    refine kind_tryN (h := (hh : Int)) (es := es) (m := m) (p := p) (sn := sn) hx hdx hB ha2 hm2 (.inl hq3) (by omega) (by omega) (by have := hbd.m; omega) (by have := hbd.p; omega) hf (fun hb H4 s4 hK => ?_) (fun hb d H4 s4 hd => ?_)
    · have s5 := Same.trans s2 (Same.trans s3 s4)
      have hC4 := hC.same s5
      walk_at "go"
      rw [hb, decide_eq_true rfl]
      walk_at "go"
      refine ⟨x, c, ep, arm, mod, (hh : Int), es, m, p, sn, rfl, hK, hC4, by omega, fun H5 s6 => ?_⟩
      obtain ⟨ini, la, rfl⟩ := dropLast_getLast hel1
      rw [List.length_append, List.length_singleton] at he4
      walk_at "go"
      refine ⟨x, arm, mod, hh, ini.length, ini, la, m, p, sn, rfl, hK.same s6, hf, hh4, by omega, rfl, ha2, hm2, fun q2 H6 s7 hS hFw => ?_⟩
      walk_at "go"
      refine ⟨q2, arm, mod, _, _, rfl, hS, hFw, blkW_word hh hh4 _ (by omega), by rw [blkW_len]; omega, fun o fa na H7 s8 hO => ?_⟩
      walk_at "go"
      refine ⟨Nat.zero_le _, fun q3 hq3 => ?_⟩
      have hO8 := hO.same (Same.new (o := HO.lst []) hq3)
      refine ⟨o, q3, _, _, rfl, rfl, SqL.of hO8.o_, SqL.of upd_same, by show 4 ≠ 0; decide, ?_⟩
      have s9 := Same.trans s5 (Same.trans s6 (Same.trans s7 (Same.trans s8 (Same.new (o := HO.lst []) hq3))))
      revert hO8 s9
      generalize upd H7 q3 (.lst []) = H8
      intro hO8 s9
      walk_at "go"
      have hbe : ∀ e ∈ ini, e.natAbs ≤ 960 := fun e he => hbd.e e (List.mem_append_left _ he)
      refine ⟨o, fa, na, blkO arm mod hh ini.length (gvK arm hh ini (m.getD 0) (p.getD 0) sn), rfl, hO8, blkO_ok ha1 ha2 hm1 hm2 hh4 (by omega) hbe hbd.m hbd.p, fun q4 ep4 h' ls m' p' sn' H9 s10 hC9 hKO => ?_⟩
      obtain ⟨e1, e2, e3, e4, e5⟩ := blk_kind hh4 (by omega) rfl ha1 hf hb hKO
      subst e1 e2 e3 e4 e5
      walk_at "go"
      refine cts_eq hC9 (hC.same (Same.trans s9 s10)) ?_
      exact k _ (Same.trans s9 s10)
    · refine ⟨true, kf.x3, fun _ a ha => ?_, fun z => by cases z⟩
      walk_at "go"
      rw [decide_eq_false hb]
      walk_at "go"
      refine ⟨_, _, true, d, _, rfl, rfl, hd, rfl, fun u r => r, kf.k3, ?_⟩
      walk_at "go"
      refine x_callS ?_
      walk_at "go"
      refine x_xf rfl rfl hd rfl ?_
      walk_at "go"
      refine ⟨_, _, rfl, ?_⟩
      rw [decide_eq_true rfl]
      exact k _ (Same.trans s2 (Same.trans s3 s4))
def spLaw (K : PySem.W.Frag) : Sp := fun vs H Q _ => ∃ (a : Addr) (ns : List Int), vs = [.ref a] ∧ SqL K H a (ns.map V.int) ∧ ns.length ≤ 63 ∧ ∀ H', Q (.bl true) H'
theorem ok_law (B : Bi K mg) (c_l_bag : C8.Cal P w K mg base 1 "_law_bag" (spBag K) []) (c_l_draw : C8.Cal P w K mg base 1 "_law_draw" spDraw []) (c_l_arms : C8.Cal P w K mg base 2 "_law_arms" spArms []) (c_l_right : C8.Cal P w K mg base 3 "_law_right" spRight []) (c_l_drawn : C8.Cal P w K mg base 3 "_law_drawn" spDrawn []) (c_l_kept : C8.Cal P w K mg base 6 "_law_kept" (spKept0 K) [])
    (F : FnP K "law" st_law f fd) : FnOk P w K mg base CX0 7 f fd ["script"] (spLaw K) := by
  refine F.ok sc_law (fun vs H Q E h => ?_) (fun cdv A outer s H vs Q E hr h => ?_)
  · obtain ⟨a, ns, rfl, _⟩ := h
    rfl
  · obtain ⟨a, ns, rfl, hS, hl, kk⟩ := h
    have G := B
    refine ⟨_, PSs.nox ((pss_cons (ps_set (i := 1) sc_law.nd rfl (Or.inl rfl) (C8.pe_c c_l_bag hr (by decide) rfl (pa_cons (pv 0) pa_nil)))
      (pss_cons (ps_asg (C8.pe_c c_l_arms hr (by decide) rfl (pa_cons (pv 1) pa_nil)) (pg_unl rfl (pgs_cons (pg_name (i := 2) sc_law.nd rfl (Or.inl rfl)) (pgs_cons (pg_name (i := 3) sc_law.nd rfl (Or.inl rfl)) pgs_nil))))
      (pss_cons (ps_for PassesOwn.never rfl (pi_range1 (by rfl) G.range (pa_cons pe_int pa_nil)) (pg_name (i := 4) sc_law.nd rfl (Or.inl rfl))
        (pss_cons (ps_set (i := 5) sc_law.nd rfl (Or.inl rfl) (C8.pe_c c_l_drawn hr (by decide) rfl (pa_cons (pv 1) (pa_cons (pv 2) (pa_cons (pv 3) pa_nil)))))
        (C8.pss_cut (ps_if (pt_cmpR op_eq (pe_op op_mod (pe_callTy call_intI (by rfl) G.int (by decide +kernel) (pa_cons (pv 4) pa_nil)) pe_int) pe_int (nomark _))
          (pss_one (ps_set (i := 5) sc_law.nd rfl (Or.inl rfl) (C8.pe_c c_l_right hr (by decide) rfl (pa_cons (pv 1) (pa_cons (pv 2) (pa_cons (pv 3) (pa_cons (C8.pe_c c_l_draw hr (by decide) rfl (pa_cons (pv 1) (pa_cons pe_int pa_nil))) (pa_cons (pe_op op_add pe_int (C8.pe_c c_l_draw hr (by decide) rfl (pa_cons (pv 1) (pa_cons pe_int pa_nil)))) pa_nil))))))))
          pss_nil)
        (pss_one (ps_if (pt_not (pt_val (C8.pe_c c_l_kept hr (by decide) rfl (pa_cons (pv 2) (pa_cons (pv 3) (pa_cons (pv 5) pa_nil))))))
          (pss_one (ps_ret pe_bl))
          pss_nil)))))
      (pss_one (ps_ret pe_bl)))))), ?_⟩
    try dsimp only [cxOf]
    walk_at "go"
    refine ⟨a, ns, rfl, hS, hl, fun b l H0 hb0 hl0 hB0 s0 => ?_⟩
    walk_at "go"
    refine ⟨b, l, rfl, hB0, fun arm mod p H1 ha1 ha2 hm1 hm2 hp1 hB1 kp1 hpv => ?_⟩
    walk_at "go"
    refine w_forR1 (by decide) (by decide) (fun i σ H' => BagAt H' b l ∧ ∃ u4 u5, σ = [some (.ref a), some (.ref b), some (.int (arm : Nat)), some (.int (mod : Nat)), u4, u5]) ⟨hB1, _, _, rfl⟩ ?_ ?_
    · rintro i σ H2 hi ⟨hB2, u4, u5, rfl⟩
      have hi8 : i < 8 := hi
      walk_at "go"
      refine ⟨b, l, arm, mod, rfl, hB2, ha1, ha2, by omega, fun c ep h es m p sn H3 hB3 kp3 hC3 hf hh h1 h4 hbd => ?_⟩
      walk_at "go"
      refine x_cut (fun σ H' => BagAt H' b l ∧ ∃ (c ep : Addr) (h : Nat) (es : List Int) (m p sn : Option Int), CtsAt H' c ep (h : Int) es m p sn ∧ Formed (h : Int) m p sn ∧ h < 4 ∧ 1 ≤ es.length ∧ es.length ≤ 4 ∧ Bd 960 es m p ∧ ∃ u4, σ = [some (.ref a), some (.ref b), some (.int (arm : Nat)), some (.int (mod : Nat)), u4, some (.ref c)]) ?_ ?_
      · walk_at "go"
        refine x_iteD (fun c1 => ?_) (fun c1 => ?_)
        · walk_at "go"
          refine ⟨b, l, 4, rfl, hB3, by decide, by decide, fun hh2 H4 hh4 hB4 kp4 => ?_⟩
          walk_at "go"
          refine ⟨b, l, 4, rfl, hB4, by decide, by decide, fun r H5 hr4 hB5 kp5 => ?_⟩
          walk_at "go"
          refine ⟨b, l, arm, mod, 1 + r, hh2, by rw [Int.natCast_add]; rfl, hB5, ha1, ha2, hm1, by omega, by omega, by omega, by omega, fun c ep es m p sn H6 hB6 kp6 hC hf hel hb hbd => ?_⟩
          walk_at "go"
          exact ⟨hB6, c, ep, hh2, es, m, p, sn, hC, hf, by omega, by omega, by omega, hbd, _, rfl⟩
        · walk_at "go"
          exact ⟨hB3, c, ep, h, es, m, p, sn, hC3, hf, hh, h1, h4, hbd, _, rfl⟩
      rintro σ H4 ⟨hB4, c, ep, hh, es, m, p, sn, hC, hf, hh4, h1, h4, hbd, u4, rfl⟩
      walk_at "go"
      refine ⟨c, ep, arm, mod, hh, es, m, p, sn, rfl, hC, hf, ha1, ha2, hm1, by omega, hh4, h1, h4, hbd, fun H5 s5 => ?_⟩
      walk_at "go"
      exact ⟨hB4.same s5, _, _, rfl⟩
    · rintro σ H2 ⟨hB2, u4, u5, rfl⟩
      walk_at "go"
      exact kk _
end
theorem facts {P : Program} {w : World} {K : PySem.W.Frag} {h : Heap} {mg : Str → Option Value} {f : Addr} (X : K.In h) (G : h.Ns mainGlobals mg) (hfa : mg ("law" : Str) = some (.ref f)) (hP : ErP P "/claim/cut.py") (c : SaysZ fa fn ex er xb K) :
    ∃ fd : FuncData, (∀ (s : Shared) (v : Value), BindsTo s fd ⟨[v], []⟩ [("script", v)]) ∧ ∀ base : Heap, K.In base → base.Ns mainGlobals mg → FnOk P w K mg base CX0 7 f fd ["script"] (spLaw K) := by
  have cD := c.y.d
  have cE := c.y.e
  obtain ⟨fd_is_number, F_is_number⟩ := cD.def_ 0 (d := d_is_number) rfl
  obtain ⟨fd_reduced, F_reduced⟩ := cD.def_ 1 (d := d_reduced) rfl
  obtain ⟨fd_Book_init, F_Book_init⟩ := cD.def_ 2 (d := d_Book_init) rfl
  obtain ⟨fd_divides, F_divides⟩ := cD.def_ 3 (d := d_divides) rfl
  obtain ⟨fd_has_balance, F_has_balance⟩ := cD.def_ 4 (d := d_has_balance) rfl
  obtain ⟨fd_some_odd_rim, F_some_odd_rim⟩ := cD.def_ 5 (d := d_some_odd_rim) rfl
  obtain ⟨fd_rims_stand, F_rims_stand⟩ := cD.def_ 6 (d := d_rims_stand) rfl
  obtain ⟨fd_due_sum, F_due_sum⟩ := cD.def_ 7 (d := d_due_sum) rfl
  obtain ⟨fd_sum_stands, F_sum_stands⟩ := cD.def_ 8 (d := d_sum_stands) rfl
  obtain ⟨fd_measure_stands, F_measure_stands⟩ := cD.def_ 9 (d := d_measure_stands) rfl
  obtain ⟨fd_share_stands, F_share_stands⟩ := cD.def_ 10 (d := d_share_stands) rfl
  obtain ⟨fd_balance_stands, F_balance_stands⟩ := cD.def_ 11 (d := d_balance_stands) rfl
  obtain ⟨fd_broken_count, F_broken_count⟩ := cD.def_ 12 (d := d_broken_count) rfl
  obtain ⟨fd_is_name, F_is_name⟩ := cD.def_ 13 (d := d_is_name) rfl
  obtain ⟨fd_is_word, F_is_word⟩ := cD.def_ 14 (d := d_is_word) rfl
  obtain ⟨fd_feet_of, F_feet_of⟩ := cD.def_ 15 (d := d_feet_of) rfl
  obtain ⟨fd_Sheet_init, F_Sheet_init⟩ := cD.def_ 16 (d := d_Sheet_init) rfl
  obtain ⟨fd_Sheet_numbers, F_Sheet_numbers⟩ := cD.def_ 17 (d := d_Sheet_numbers) rfl
  obtain ⟨fd_ill_formed, F_ill_formed⟩ := cD.def_ 18 (d := d_ill_formed) rfl
  obtain ⟨fd_Kind_init, F_Kind_init⟩ := cD.def_ 19 (d := d_Kind_init) rfl
  obtain ⟨fd_band_name, F_band_name⟩ := cD.def_ 20 (d := d_band_name) rfl
  obtain ⟨fd_handle_shift, F_handle_shift⟩ := cD.def_ 21 (d := d_handle_shift) rfl
  obtain ⟨fd_form_of, F_form_of⟩ := cD.def_ 22 (d := d_form_of) rfl
  obtain ⟨fd_l_bag, F_l_bag⟩ := cD.def_ 23 (d := d_l_bag) rfl
  obtain ⟨fd_l_draw, F_l_draw⟩ := cD.def_ 24 (d := d_l_draw) rfl
  obtain ⟨fd_l_of, F_l_of⟩ := cD.def_ 25 (d := d_l_of) rfl
  obtain ⟨fd_l_like, F_l_like⟩ := cD.def_ 26 (d := d_l_like) rfl
  obtain ⟨fd_l_red, F_l_red⟩ := cD.def_ 27 (d := d_l_red) rfl
  obtain ⟨fd_l_divisor, F_l_divisor⟩ := cD.def_ 28 (d := d_l_divisor) rfl
  obtain ⟨fd_l_divisors, F_l_divisors⟩ := cD.def_ 29 (d := d_l_divisors) rfl
  obtain ⟨fd_l_arms, F_l_arms⟩ := cD.def_ 30 (d := d_l_arms) rfl
  obtain ⟨fd_l_broken, F_l_broken⟩ := cD.def_ 31 (d := d_l_broken) rfl
  obtain ⟨fd_l_right, F_l_right⟩ := cD.def_ 32 (d := d_l_right) rfl
  obtain ⟨fd_l_is_kind, F_l_is_kind⟩ := cD.def_ 33 (d := d_l_is_kind) rfl
  obtain ⟨fd_l_mates, F_l_mates⟩ := cD.def_ 34 (d := d_l_mates) rfl
  obtain ⟨fd_l_bands, F_l_bands⟩ := cD.def_ 35 (d := d_l_bands) rfl
  obtain ⟨fd_l_table, F_l_table⟩ := cD.def_ 36 (d := d_l_table) rfl
  obtain ⟨fd_l_rims, F_l_rims⟩ := cD.def_ 37 (d := d_l_rims) rfl
  obtain ⟨fd_l_parity, F_l_parity⟩ := cD.def_ 38 (d := d_l_parity) rfl
  obtain ⟨fd_l_arf, F_l_arf⟩ := cD.def_ 39 (d := d_l_arf) rfl
  obtain ⟨fd_l_parted, F_l_parted⟩ := cD.def_ 40 (d := d_l_parted) rfl
  obtain ⟨fd_l_kind, F_l_kind⟩ := cD.def_ 41 (d := d_l_kind) rfl
  obtain ⟨fd_l_own, F_l_own⟩ := cD.def_ 42 (d := d_l_own) rfl
  obtain ⟨fd_l_drawn, F_l_drawn⟩ := cD.def_ 43 (d := d_l_drawn) rfl
  obtain ⟨fd_l_kept, F_l_kept⟩ := cD.def_ 44 (d := d_l_kept) rfl
  obtain ⟨fd_law, F_law⟩ := cD.def_ 45 (d := d_law) rfl
  have g_is_number := He.glo_ok X G (cD.fact 0 (f := .glo "is_number") rfl)
  have g_reduced := He.glo_ok X G (cD.fact 1 (f := .glo "reduced") rfl)
  have g_divides := He.glo_ok X G (cD.fact 2 (f := .glo "divides") rfl)
  have g_has_balance := He.glo_ok X G (cD.fact 3 (f := .glo "has_balance") rfl)
  have g_some_odd_rim := He.glo_ok X G (cD.fact 4 (f := .glo "some_odd_rim") rfl)
  have g_rims_stand := He.glo_ok X G (cD.fact 5 (f := .glo "rims_stand") rfl)
  have g_due_sum := He.glo_ok X G (cD.fact 6 (f := .glo "due_sum") rfl)
  have g_sum_stands := He.glo_ok X G (cD.fact 7 (f := .glo "sum_stands") rfl)
  have g_measure_stands := He.glo_ok X G (cD.fact 8 (f := .glo "measure_stands") rfl)
  have g_share_stands := He.glo_ok X G (cD.fact 9 (f := .glo "share_stands") rfl)
  have g_balance_stands := He.glo_ok X G (cD.fact 10 (f := .glo "balance_stands") rfl)
  have g_broken_count := He.glo_ok X G (cD.fact 11 (f := .glo "broken_count") rfl)
  have g_is_name := He.glo_ok X G (cD.fact 12 (f := .glo "is_name") rfl)
  have g_is_word := He.glo_ok X G (cD.fact 13 (f := .glo "is_word") rfl)
  have g_feet_of := He.glo_ok X G (cD.fact 14 (f := .glo "_feet_of") rfl)
  have g_ill_formed := He.glo_ok X G (cD.fact 15 (f := .glo "ill_formed") rfl)
  have g_band_name := He.glo_ok X G (cD.fact 16 (f := .glo "band_name") rfl)
  have g_handle_shift := He.glo_ok X G (cD.fact 17 (f := .glo "handle_shift") rfl)
  have g_form_of := He.glo_ok X G (cD.fact 18 (f := .glo "form_of") rfl)
  have g_l_bag := He.glo_ok X G (cD.fact 19 (f := .glo "_law_bag") rfl)
  have g_l_draw := He.glo_ok X G (cD.fact 20 (f := .glo "_law_draw") rfl)
  have g_l_of := He.glo_ok X G (cD.fact 21 (f := .glo "_law_of") rfl)
  have g_l_like := He.glo_ok X G (cD.fact 22 (f := .glo "_law_like") rfl)
  have g_l_red := He.glo_ok X G (cD.fact 23 (f := .glo "_law_red") rfl)
  have g_l_divisor := He.glo_ok X G (cD.fact 24 (f := .glo "_law_divisor") rfl)
  have g_l_divisors := He.glo_ok X G (cD.fact 25 (f := .glo "_law_divisors") rfl)
  have g_l_arms := He.glo_ok X G (cD.fact 26 (f := .glo "_law_arms") rfl)
  have g_l_broken := He.glo_ok X G (cD.fact 27 (f := .glo "_law_broken") rfl)
  have g_l_right := He.glo_ok X G (cD.fact 28 (f := .glo "_law_right") rfl)
  have g_l_is_kind := He.glo_ok X G (cD.fact 29 (f := .glo "_law_is_kind") rfl)
  have g_l_mates := He.glo_ok X G (cD.fact 30 (f := .glo "_law_mates") rfl)
  have g_l_bands := He.glo_ok X G (cD.fact 31 (f := .glo "_law_bands") rfl)
  have g_l_table := He.glo_ok X G (cD.fact 32 (f := .glo "_law_table") rfl)
  have g_l_rims := He.glo_ok X G (cD.fact 33 (f := .glo "_law_rims") rfl)
  have g_l_parity := He.glo_ok X G (cD.fact 34 (f := .glo "_law_parity") rfl)
  have g_l_arf := He.glo_ok X G (cD.fact 35 (f := .glo "_law_arf") rfl)
  have g_l_parted := He.glo_ok X G (cD.fact 36 (f := .glo "_law_parted") rfl)
  have g_l_kind := He.glo_ok X G (cD.fact 37 (f := .glo "_law_kind") rfl)
  have g_l_own := He.glo_ok X G (cD.fact 38 (f := .glo "_law_own") rfl)
  have g_l_drawn := He.glo_ok X G (cD.fact 39 (f := .glo "_law_drawn") rfl)
  have g_l_kept := He.glo_ok X G (cD.fact 40 (f := .glo "_law_kept") rfl)
  have g_law := He.glo_ok X G (cD.fact 41 (f := .glo "law") rfl)
  have g_Book := He.glo_ok X G (cD.fact 42 (f := .glo "Book") rfl)
  have g_Kind := He.glo_ok X G (cD.fact 43 (f := .glo "Kind") rfl)
  have g_Sheet := He.glo_ok X G (cD.fact 44 (f := .glo "Sheet") rfl)
  have g_CombedError := He.glo_ok X G (cD.fact 45 (f := .glo "CombedError") rfl)
  have E_NotOne : Er1 P K mg "NotOne" (He.ga K "NotOne") "count" := ErD.er1 (d := er_NotOne) X G hP (c.ok 0) (c.wv 0) rfl PySem.F.excBase_ValueError PySem.F.store_ValueError PySem.W.kxs_ValueError su_NotOne
  have kf : KFacts0 K mg := ⟨g_CombedError, of_decide_eq_true (xl_get (l := xl K) c.xok 0 rfl), of_decide_eq_true (xl_get (l := xl K) c.xok 1 rfl)⟩
  have B : Bi K mg := ⟨He.free_ok X G (cD.fact 46 (f := .free "len") rfl), He.free_ok X G (cD.fact 47 (f := .free "int") rfl), He.free_ok X G (cD.fact 48 (f := .free "list") rfl), He.free_ok X G (cD.fact 49 (f := .free "range") rfl), He.free_ok X G (cD.fact 50 (f := .free "abs") rfl), He.free_ok X G (cD.fact 51 (f := .free "isinstance") rfl), He.free_ok X G (cD.fact 52 (f := .free "bool") rfl), He.free_ok X G (cD.fact 53 (f := .free "str") rfl), He.free_ok X G (cD.fact 54 (f := .free "dict") rfl), He.free_ok X G (cD.fact 55 (f := .free "tuple") rfl), He.free_ok X G (cD.fact 56 (f := .free "all") rfl), He.free_ok X G (cD.fact 57 (f := .free "any") rfl), He.free_ok X G (cD.fact 58 (f := .free "sum") rfl), He.free_ok X G (cD.fact 59 (f := .free "sorted") rfl), He.free_ok X G (cD.fact 60 (f := .free "enumerate") rfl), He.free_ok X G (cD.fact 61 (f := .free "zip") rfl), (let ⟨t, e⟩ := He.int_ok X G (cD.fact 62 (f := .int "MOST_ARMS" 12) rfl); ⟨_, e, t, rfl⟩), (let ⟨t, e⟩ := He.int_ok X G (cD.fact 63 (f := .int "MOST_MODULUS" 24) rfl); ⟨_, e, t, rfl⟩), (let ⟨t, e⟩ := He.int_ok X G (cD.fact 64 (f := .int "LONGEST" 3) rfl); ⟨_, e, t, rfl⟩), (let ⟨t, e⟩ := He.str_ok X G (cD.fact 65 (f := .str "LETTERS_names" "abcdefghijklmnopqrstuvwxyz") rfl); ⟨_, e, t, rfl⟩), (let ⟨t, e⟩ := He.str_ok X G (cD.fact 66 (f := .str "LETTERS_forms" "abcdefghijklmnopqrstuvwxyz") rfl); ⟨_, e, t, rfl⟩), (let ⟨t, e⟩ := He.str_ok X G (cD.fact 67 (f := .str "DIGITS_lines" "0123456789") rfl); ⟨_, e, t, rfl⟩), He.cls_ok (cD.fact 68 (f := .cls "Sheet") rfl), He.noat_ok (cD.fact 69 (f := .noat "Sheet" "book") rfl), He.noat_ok (cD.fact 70 (f := .noat "Sheet" "word") rfl), He.noat_ok (cD.fact 71 (f := .noat "Sheet" "_feet") rfl), He.noat_ok (cD.fact 72 (f := .noat "Sheet" "bands") rfl), He.noat_ok (cD.fact 73 (f := .noat "Sheet" "_told") rfl), He.cls_ok (cD.fact 74 (f := .cls "Book") rfl), He.noat_ok (cD.fact 75 (f := .noat "Book" "arms") rfl), He.noat_ok (cD.fact 76 (f := .noat "Book" "modulus") rfl), He.cls_ok (cD.fact 77 (f := .cls "Kind") rfl), He.noat_ok (cD.fact 78 (f := .noat "Kind" "book") rfl), He.noat_ok (cD.fact 79 (f := .noat "Kind" "handles") rfl), He.noat_ok (cD.fact 80 (f := .noat "Kind" "rims") rfl), He.noat_ok (cD.fact 81 (f := .noat "Kind" "measure") rfl), He.noat_ok (cD.fact 82 (f := .noat "Kind" "share") rfl), He.noat_ok (cD.fact 83 (f := .noat "Kind" "balance") rfl)⟩
  have e := hfa.symm.trans g_law
  cases e
  have b := FunD.bindsA (ps := ["script"]) F_law fun _ _ _ _ _ _ us hl => match us, hl with | [_], _ => rfl
  refine ⟨fd_law, fun s v => b s [v] rfl, fun base _ _ => ?_⟩
  have o_is_number : FnOk P w K mg base CX0 1 (He.fAd K ("is_number", none)) fd_is_number ["value"] (spIsNum) := by apply ok_isnum <;> assumption
  have c_is_number : C8.Cal P w K mg base 1 "is_number" (spIsNum) [] := ⟨_, _, _, _, o_is_number, g_is_number, F_is_number.kp, F_is_number.bindsN fun _ _ _ _ _ _ us hl => match us, hl with | [_], _ => rfl, .nil⟩
  have o_reduced : FnOk P w K mg base CX0 1 (He.fAd K ("reduced", none)) fd_reduced ["book", "n"] (spReduced K) := by apply ok_reduced <;> assumption
  have c_reduced : C8.Cal P w K mg base 1 "reduced" (spReduced K) [] := ⟨_, _, _, _, o_reduced, g_reduced, F_reduced.kp, F_reduced.bindsN fun _ _ _ _ _ _ us hl => match us, hl with | [_, _], _ => rfl, .nil⟩
  have o_Book_init : FnOk P w K mg base CX0 2 (He.fAd K ("Book", some "__init__")) fd_Book_init ["self", "arms", "modulus"] (spBook K) := by apply ok_book <;> assumption
  obtain ⟨ds_Book_init2, v_Book_init2, b_Book_init2⟩ : ∃ ds, Vals ((d_Book_init.dvs K).drop 1) ds ∧ Binds K fd_Book_init ["self", "arms", "modulus"] ds := F_Book_init.binds1 3 1 (by intro z; cases z) (by rfl) fun T kV doc pm an cdv ct us its l1 l2 => match us, its, l1, l2 with | [_, _, _], [_], _, _ => ⟨_, rfl, rfl⟩
  have mk_Book_2 : C8.Mak P w K mg base 2 "Book" (He.ga K "Book") (spBook K) [] := ⟨_, _, _, _, He.mkr_ok (cD.fact 84 (f := .mkr "Book") rfl), o_Book_init, g_Book, b_Book_init2, v_Book_init2⟩
  have o_divides : FnOk P w K mg base CX0 1 (He.fAd K ("divides", none)) fd_divides ["part", "whole"] (spDivides) := by apply ok_divides <;> assumption
  have c_divides : C8.Cal P w K mg base 1 "divides" (spDivides) [] := ⟨_, _, _, _, o_divides, g_divides, F_divides.kp, F_divides.bindsN fun _ _ _ _ _ _ us hl => match us, hl with | [_, _], _ => rfl, .nil⟩
  have o_has_balance : FnOk P w K mg base CX0 1 (He.fAd K ("has_balance", none)) fd_has_balance ["book", "share"] (spHasBal K) := by apply ok_hasbal <;> assumption
  have c_has_balance : C8.Cal P w K mg base 1 "has_balance" (spHasBal K) [] := ⟨_, _, _, _, o_has_balance, g_has_balance, F_has_balance.kp, F_has_balance.bindsN fun _ _ _ _ _ _ us hl => match us, hl with | [_, _], _ => rfl, .nil⟩
  have o_some_odd_rim : FnOk P w K mg base CX0 1 (He.fAd K ("some_odd_rim", none)) fd_some_odd_rim ["book", "rims", "share"] (spOddRim K) := by apply ok_oddrim <;> assumption
  have c_some_odd_rim : C8.Cal P w K mg base 1 "some_odd_rim" (spOddRim K) [] := ⟨_, _, _, _, o_some_odd_rim, g_some_odd_rim, F_some_odd_rim.kp, F_some_odd_rim.bindsN fun _ _ _ _ _ _ us hl => match us, hl with | [_, _, _], _ => rfl, .nil⟩
  have o_rims_stand : FnOk P w K mg base CX0 1 (He.fAd K ("rims_stand", none)) fd_rims_stand ["book", "rims"] (spRimsOk K) := by apply ok_rimsok <;> assumption
  have c_rims_stand : C8.Cal P w K mg base 1 "rims_stand" (spRimsOk K) [] := ⟨_, _, _, _, o_rims_stand, g_rims_stand, F_rims_stand.kp, F_rims_stand.bindsN fun _ _ _ _ _ _ us hl => match us, hl with | [_, _], _ => rfl, .nil⟩
  have o_due_sum : FnOk P w K mg base CX0 1 (He.fAd K ("due_sum", none)) fd_due_sum ["book", "handles", "many"] (spDueSum K) := by apply ok_duesum <;> assumption
  have c_due_sum : C8.Cal P w K mg base 1 "due_sum" (spDueSum K) [] := ⟨_, _, _, _, o_due_sum, g_due_sum, F_due_sum.kp, F_due_sum.bindsN fun _ _ _ _ _ _ us hl => match us, hl with | [_, _, _], _ => rfl, .nil⟩
  have o_sum_stands : FnOk P w K mg base CX0 2 (He.fAd K ("sum_stands", none)) fd_sum_stands ["book", "handles", "rims"] (spSumOk K) := by apply ok_sumok <;> assumption
  have c_sum_stands : C8.Cal P w K mg base 2 "sum_stands" (spSumOk K) [] := ⟨_, _, _, _, o_sum_stands, g_sum_stands, F_sum_stands.kp, F_sum_stands.bindsN fun _ _ _ _ _ _ us hl => match us, hl with | [_, _, _], _ => rfl, .nil⟩
  have o_measure_stands : FnOk P w K mg base CX0 2 (He.fAd K ("measure_stands", none)) fd_measure_stands ["book", "rims", "measure"] (spMeasOk K) := by apply ok_measok <;> assumption
  have c_measure_stands : C8.Cal P w K mg base 2 "measure_stands" (spMeasOk K) [] := ⟨_, _, _, _, o_measure_stands, g_measure_stands, F_measure_stands.kp, F_measure_stands.bindsN fun _ _ _ _ _ _ us hl => match us, hl with | [_, _, _], _ => rfl, .nil⟩
  have o_share_stands : FnOk P w K mg base CX0 1 (He.fAd K ("share_stands", none)) fd_share_stands ["book", "rims", "share"] (spShareOk K) := by apply ok_shareok <;> assumption
  have c_share_stands : C8.Cal P w K mg base 1 "share_stands" (spShareOk K) [] := ⟨_, _, _, _, o_share_stands, g_share_stands, F_share_stands.kp, F_share_stands.bindsN fun _ _ _ _ _ _ us hl => match us, hl with | [_, _, _], _ => rfl, .nil⟩
  have o_balance_stands : FnOk P w K mg base CX0 2 (He.fAd K ("balance_stands", none)) fd_balance_stands ["book", "rims", "share", "balance"] (spBalOk K) := by apply ok_balok <;> assumption
  have c_balance_stands : C8.Cal P w K mg base 2 "balance_stands" (spBalOk K) [] := ⟨_, _, _, _, o_balance_stands, g_balance_stands, F_balance_stands.kp, F_balance_stands.bindsN fun _ _ _ _ _ _ us hl => match us, hl with | [_, _, _, _], _ => rfl, .nil⟩
  have o_broken_count : FnOk P w K mg base CX0 3 (He.fAd K ("broken_count", none)) fd_broken_count ["book", "handles", "rims", "measure", "share", "balance"] (spBroken K) := by apply ok_broken <;> assumption
  have c_broken_count : C8.Cal P w K mg base 3 "broken_count" (spBroken K) [] := ⟨_, _, _, _, o_broken_count, g_broken_count, F_broken_count.kp, F_broken_count.bindsN fun _ _ _ _ _ _ us hl => match us, hl with | [_, _, _, _, _, _], _ => rfl, .nil⟩
  have o_is_name : FnOk P w K mg base CX0 1 (He.fAd K ("is_name", none)) fd_is_name ["text"] (spIsName) := by apply ok_isname <;> assumption
  have c_is_name : C8.Cal P w K mg base 1 "is_name" (spIsName) [] := ⟨_, _, _, _, o_is_name, g_is_name, F_is_name.kp, F_is_name.bindsN fun _ _ _ _ _ _ us hl => match us, hl with | [_], _ => rfl, .nil⟩
  have o_is_word : FnOk P w K mg base CX0 2 (He.fAd K ("is_word", none)) fd_is_word ["word"] (spIsWord K) := by apply ok_isword <;> assumption
  have c_is_word : C8.Cal P w K mg base 2 "is_word" (spIsWord K) [] := ⟨_, _, _, _, o_is_word, g_is_word, F_is_word.kp, F_is_word.bindsN fun _ _ _ _ _ _ us hl => match us, hl with | [_], _ => rfl, .nil⟩
  have o_feet_of : FnOk P w K mg base CX0 1 (He.fAd K ("_feet_of", none)) fd_feet_of ["word"] (spFeet K) := by apply ok_feet <;> assumption
  have c_feet_of : C8.Cal P w K mg base 1 "_feet_of" (spFeet K) [] := ⟨_, _, _, _, o_feet_of, g_feet_of, F_feet_of.kp, F_feet_of.bindsN fun _ _ _ _ _ _ us hl => match us, hl with | [_], _ => rfl, .nil⟩
  have o_Sheet_init : FnOk P w K mg base CX0 3 (He.fAd K ("Sheet", some "__init__")) fd_Sheet_init ["self", "book", "word", "numbers"] (spSheetF K) := by apply ok_sheetF <;> assumption
  obtain ⟨ds_Sheet_init3, v_Sheet_init3, b_Sheet_init3⟩ : ∃ ds, Vals ((d_Sheet_init.dvs K).drop 1) ds ∧ Binds K fd_Sheet_init ["self", "book", "word", "numbers"] ds := F_Sheet_init.binds1 4 1 (by intro z; cases z) (by rfl) fun T kV doc pm an cdv ct us its l1 l2 => match us, its, l1, l2 with | [_, _, _, _], [_], _, _ => ⟨_, rfl, rfl⟩
  have mk_Sheet_3 : C8.Mak P w K mg base 3 "Sheet" (He.ga K "Sheet") (spSheetF K) [] := ⟨_, _, _, _, He.mkr_ok (cD.fact 85 (f := .mkr "Sheet") rfl), o_Sheet_init, g_Sheet, b_Sheet_init3, v_Sheet_init3⟩
  have o_Sheet_numbers : FnOk P w K mg base CX0 1 (He.fAd K ("Sheet", some "numbers")) fd_Sheet_numbers ["self"] (spNumbers K) := by apply ok_numbers <;> assumption
  have m_Sheet_numbers : C8.Met P w K mg base 1 (He.ga K "Sheet") "numbers" (spNumbers K) [] := ⟨_, _, _, _, B.cls_Sheet, He.meth_ok (cD.fact 86 (f := .meth "Sheet" "numbers") rfl), o_Sheet_numbers, F_Sheet_numbers.bindsN fun _ _ _ _ _ _ us hl => match us, hl with | [_], _ => rfl, .nil⟩
  have o_ill_formed : FnOk P w K mg base CX0 1 (He.fAd K ("ill_formed", none)) fd_ill_formed ["handles", "measure", "share", "balance"] (spIll) := by apply ok_ill <;> assumption
  have c_ill_formed : C8.Cal P w K mg base 1 "ill_formed" (spIll) [] := ⟨_, _, _, _, o_ill_formed, g_ill_formed, F_ill_formed.kp, F_ill_formed.bindsN fun _ _ _ _ _ _ us hl => match us, hl with | [_, _, _, _], _ => rfl, .nil⟩
  have o_Kind_init : FnOk P w K mg base (L2N.CX P w) 4 (He.fAd K ("Kind", some "__init__")) fd_Kind_init ["self", "book", "handles", "rims", "measure", "share", "balance"] (spKindN K) := by apply ok_kindN <;> assumption
  have FK : FnK K (He.fAd K ("Kind", some "__init__")) fd_Kind_init := F_Kind_init
  have M_Kind : Mk K (He.ga K "Kind") (He.fAd K ("Kind", some "__init__")) := He.mkr_ok (cD.fact 87 (f := .mkr "Kind") rfl)
  have iK : C8.InsC K (He.ga K "Kind") := ⟨B.cls_Kind, of_decide_eq_true (xl_get (l := xl K) c.xok 2 rfl), of_decide_eq_true (xl_get (l := xl K) c.xok 3 rfl), of_decide_eq_true (xl_get (l := xl K) c.xok 4 rfl), of_decide_eq_true (xl_get (l := xl K) c.xok 5 rfl), of_decide_eq_true (xl_get (l := xl K) c.xok 6 rfl)⟩
  have iB : C8.InsC K (He.ga K "Book") := ⟨B.cls_Book, of_decide_eq_true (xl_get (l := xl K) c.xok 7 rfl), of_decide_eq_true (xl_get (l := xl K) c.xok 8 rfl), of_decide_eq_true (xl_get (l := xl K) c.xok 9 rfl), of_decide_eq_true (xl_get (l := xl K) c.xok 10 rfl), of_decide_eq_true (xl_get (l := xl K) c.xok 11 rfl)⟩
  have iS : C8.InsC K (He.ga K "Sheet") := ⟨B.cls_Sheet, of_decide_eq_true (xl_get (l := xl K) c.xok 12 rfl), of_decide_eq_true (xl_get (l := xl K) c.xok 13 rfl), of_decide_eq_true (xl_get (l := xl K) c.xok 14 rfl), of_decide_eq_true (xl_get (l := xl K) c.xok 15 rfl), of_decide_eq_true (xl_get (l := xl K) c.xok 16 rfl)⟩
  have o_band_name : FnOk P w K mg base CX0 1 (He.fAd K ("band_name", none)) fd_band_name ["index"] (spBandName) := by apply ok_bandname <;> assumption
  have c_band_name : C8.Cal P w K mg base 1 "band_name" (spBandName) [] := ⟨_, _, _, _, o_band_name, g_band_name, F_band_name.kp, F_band_name.bindsN fun _ _ _ _ _ _ us hl => match us, hl with | [_], _ => rfl, .nil⟩
  have o_handle_shift : FnOk P w K mg base CX0 1 (He.fAd K ("handle_shift", none)) fd_handle_shift ["kind", "handle"] (spHShift K) := by apply ok_hshift <;> assumption
  have c_handle_shift : C8.Cal P w K mg base 1 "handle_shift" (spHShift K) [] := ⟨_, _, _, _, o_handle_shift, g_handle_shift, F_handle_shift.kp, F_handle_shift.bindsN fun _ _ _ _ _ _ us hl => match us, hl with | [_, _], _ => rfl, .nil⟩
  have o_form_of : FnOk P w K mg base CX0 5 (He.fAd K ("form_of", none)) fd_form_of ["kind"] (spForm K) := by apply ok_form <;> assumption
  have c_form_of : C8.Cal P w K mg base 5 "form_of" (spForm K) [] := ⟨_, _, _, _, o_form_of, g_form_of, F_form_of.kp, F_form_of.bindsN fun _ _ _ _ _ _ us hl => match us, hl with | [_], _ => rfl, .nil⟩
  have o_l_bag : FnOk P w K mg base CX0 1 (He.fAd K ("_law_bag", none)) fd_l_bag ["script"] (spBag K) := by apply ok_bag <;> assumption
  have c_l_bag : C8.Cal P w K mg base 1 "_law_bag" (spBag K) [] := ⟨_, _, _, _, o_l_bag, g_l_bag, F_l_bag.kp, F_l_bag.bindsN fun _ _ _ _ _ _ us hl => match us, hl with | [_], _ => rfl, .nil⟩
  have o_l_draw : FnOk P w K mg base CX0 1 (He.fAd K ("_law_draw", none)) fd_l_draw ["bag", "many"] (spDraw) := by apply ok_draw <;> assumption
  have c_l_draw : C8.Cal P w K mg base 1 "_law_draw" (spDraw) [] := ⟨_, _, _, _, o_l_draw, g_l_draw, F_l_draw.kp, F_l_draw.bindsN fun _ _ _ _ _ _ us hl => match us, hl with | [_, _], _ => rfl, .nil⟩
  have o_l_of : FnOk P w K mg base CX0 2 (He.fAd K ("_law_of", none)) fd_l_of ["bag", "things"] (spOf) := by apply ok_of <;> assumption
  have c_l_of : C8.Cal P w K mg base 2 "_law_of" (spOf) [] := ⟨_, _, _, _, o_l_of, g_l_of, F_l_of.kp, F_l_of.bindsN fun _ _ _ _ _ _ us hl => match us, hl with | [_, _], _ => rfl, .nil⟩
  have o_l_like : FnOk P w K mg base CX0 1 (He.fAd K ("_law_like", none)) fd_l_like ["told", "due"] (spLikeO) := by apply ok_likeO <;> assumption
  have c_l_like : C8.Cal P w K mg base 1 "_law_like" (spLikeO) [] := ⟨_, _, _, _, o_l_like, g_l_like, F_l_like.kp, F_l_like.bindsN fun _ _ _ _ _ _ us hl => match us, hl with | [_, _], _ => rfl, .nil⟩
  have oT_l_like : FnOk P w K mg base CX0 2 (He.fAd K ("_law_like", none)) fd_l_like ["told", "due"] (spSqT spLikeO) := by apply ok_likeSqT <;> assumption
  have cU_l_like : C8.Cal P w K mg base 2 "_law_like" (spOr (spSqT spLikeO) spLikeO) [] := ⟨_, _, _, _, fnok_or oT_l_like (o_l_like.mono (by decide)), g_l_like, F_l_like.kp, F_l_like.bindsN fun _ _ _ _ _ _ us hl => match us, hl with | [_, _], _ => rfl, .nil⟩
  have oL_l_like : FnOk P w K mg base CX0 3 (He.fAd K ("_law_like", none)) fd_l_like ["told", "due"] (spSqL (spOr (spSqT spLikeO) spLikeO)) := by apply ok_likeSqL <;> assumption
  have cL_l_like : C8.Cal P w K mg base 3 "_law_like" (spSqL (spOr (spSqT spLikeO) spLikeO)) [] := ⟨_, _, _, _, oL_l_like, g_l_like, F_l_like.kp, F_l_like.bindsN fun _ _ _ _ _ _ us hl => match us, hl with | [_, _], _ => rfl, .nil⟩
  have oS_l_like : L2H.FnH P w K mg base CX0 1 (He.fAd K ("_law_like", none)) fd_l_like ["told", "due"] spLikeS := by apply ok_likeH <;> assumption
  have hS_l_like : CalH P w K mg base 1 "_law_like" ["told", "due"] spLikeS := ⟨_, _, oS_l_like, g_l_like, F_l_like.kp, F_l_like.bindsN fun _ _ _ _ _ _ us hl => match us, hl with | [_, _], _ => rfl⟩
  have o_l_red : FnOk P w K mg base CX0 1 (He.fAd K ("_law_red", none)) fd_l_red ["mod", "num"] (spRed) := by apply ok_red <;> assumption
  have c_l_red : C8.Cal P w K mg base 1 "_law_red" (spRed) [] := ⟨_, _, _, _, o_l_red, g_l_red, F_l_red.kp, F_l_red.bindsN fun _ _ _ _ _ _ us hl => match us, hl with | [_, _], _ => rfl, .nil⟩
  have o_l_divisor : FnOk P w K mg base CX0 1 (He.fAd K ("_law_divisor", none)) fd_l_divisor ["nums"] (spLDiv K) := by apply ok_ldiv <;> assumption
  have c_l_divisor : C8.Cal P w K mg base 1 "_law_divisor" (spLDiv K) [] := ⟨_, _, _, _, o_l_divisor, g_l_divisor, F_l_divisor.kp, F_l_divisor.bindsN fun _ _ _ _ _ _ us hl => match us, hl with | [_], _ => rfl, .nil⟩
  have o_l_divisors : FnOk P w K mg base CX0 1 (He.fAd K ("_law_divisors", none)) fd_l_divisors ["num"] (spDivsD) := by apply ok_divsD <;> assumption
  have c_l_divisors : C8.Cal P w K mg base 1 "_law_divisors" (spDivsD) [] := ⟨_, _, _, _, o_l_divisors, g_l_divisors, F_l_divisors.kp, F_l_divisors.bindsN fun _ _ _ _ _ _ us hl => match us, hl with | [_], _ => rfl, .nil⟩
  have o_l_arms : FnOk P w K mg base CX0 2 (He.fAd K ("_law_arms", none)) fd_l_arms ["bag"] (spArms) := by apply ok_arms <;> assumption
  have c_l_arms : C8.Cal P w K mg base 2 "_law_arms" (spArms) [] := ⟨_, _, _, _, o_l_arms, g_l_arms, F_l_arms.kp, F_l_arms.bindsN fun _ _ _ _ _ _ us hl => match us, hl with | [_], _ => rfl, .nil⟩
  have o_l_broken : FnOk P w K mg base CX0 2 (He.fAd K ("_law_broken", none)) fd_l_broken ["arm", "mod", "counts"] (spLBroken) := by apply ok_lbroken <;> assumption
  have c_l_broken : C8.Cal P w K mg base 2 "_law_broken" (spLBroken) [] := ⟨_, _, _, _, o_l_broken, g_l_broken, F_l_broken.kp, F_l_broken.bindsN fun _ _ _ _ _ _ us hl => match us, hl with | [_, _, _], _ => rfl, .nil⟩
  have o_l_right : FnOk P w K mg base CX0 3 (He.fAd K ("_law_right", none)) fd_l_right ["bag", "arm", "mod", "hands", "many"] (spRight) := by apply ok_lright <;> assumption
  have c_l_right : C8.Cal P w K mg base 3 "_law_right" (spRight) [] := ⟨_, _, _, _, o_l_right, g_l_right, F_l_right.kp, F_l_right.bindsN fun _ _ _ _ _ _ us hl => match us, hl with | [_, _, _, _, _], _ => rfl, .nil⟩
  have o_l_is_kind : FnOk P w K mg base CX0 4 (He.fAd K ("_law_is_kind", none)) fd_l_is_kind ["told", "arm", "mod", "counts"] (spIsKind K) := by apply ok_iskind <;> assumption
  have c_l_is_kind : C8.Cal P w K mg base 4 "_law_is_kind" (spIsKind K) [] := ⟨_, _, _, _, o_l_is_kind, g_l_is_kind, F_l_is_kind.kp, F_l_is_kind.bindsN fun _ _ _ _ _ _ us hl => match us, hl with | [_, _, _, _], _ => rfl, .nil⟩
  have o_l_mates : FnOk P w K mg base CX0 1 (He.fAd K ("_law_mates", none)) fd_l_mates ["feet"] (spMates K) := by apply ok_mates <;> assumption
  have c_l_mates : C8.Cal P w K mg base 1 "_law_mates" (spMates K) [] := ⟨_, _, _, _, o_l_mates, g_l_mates, F_l_mates.kp, F_l_mates.bindsN fun _ _ _ _ _ _ us hl => match us, hl with | [_], _ => rfl, .nil⟩
  have o_l_bands : FnOk P w K mg base CX0 2 (He.fAd K ("_law_bands", none)) fd_l_bands ["feet"] (spBands K) := by apply ok_bands <;> assumption
  have c_l_bands : C8.Cal P w K mg base 2 "_law_bands" (spBands K) [] := ⟨_, _, _, _, o_l_bands, g_l_bands, F_l_bands.kp, F_l_bands.bindsN fun _ _ _ _ _ _ us hl => match us, hl with | [_], _ => rfl, .nil⟩
  have o_l_table : FnOk P w K mg base CX0 2 (He.fAd K ("_law_table", none)) fd_l_table ["feet"] (spLTable K) := by apply ok_ltable <;> assumption
  have c_l_table : C8.Cal P w K mg base 2 "_law_table" (spLTable K) [] := ⟨_, _, _, _, o_l_table, g_l_table, F_l_table.kp, F_l_table.bindsN fun _ _ _ _ _ _ us hl => match us, hl with | [_], _ => rfl, .nil⟩
  have o_l_rims : FnOk P w K mg base CX0 2 (He.fAd K ("_law_rims", none)) fd_l_rims ["own"] (spLRims) := by apply ok_lrims <;> assumption
  have c_l_rims : C8.Cal P w K mg base 2 "_law_rims" (spLRims) [] := ⟨_, _, _, _, o_l_rims, g_l_rims, F_l_rims.kp, F_l_rims.bindsN fun _ _ _ _ _ _ us hl => match us, hl with | [_], _ => rfl, .nil⟩
  have o_l_parity : FnOk P w K mg base CX0 1 (He.fAd K ("_law_parity", none)) fd_l_parity ["num"] (spParity) := by apply ok_parity <;> assumption
  have c_l_parity : C8.Cal P w K mg base 1 "_law_parity" (spParity) [] := ⟨_, _, _, _, o_l_parity, g_l_parity, F_l_parity.kp, F_l_parity.bindsN fun _ _ _ _ _ _ us hl => match us, hl with | [_], _ => rfl, .nil⟩
  have o_l_arf : FnOk P w K mg base CX0 2 (He.fAd K ("_law_arf", none)) fd_l_arf ["bits", "table"] (spArf K) := by apply ok_arf <;> assumption
  have c_l_arf : C8.Cal P w K mg base 2 "_law_arf" (spArf K) [] := ⟨_, _, _, _, o_l_arf, g_l_arf, F_l_arf.kp, F_l_arf.bindsN fun _ _ _ _ _ _ us hl => match us, hl with | [_, _], _ => rfl, .nil⟩
  have o_l_parted : FnOk P w K mg base CX0 3 (He.fAd K ("_law_parted", none)) fd_l_parted ["own"] (spParted) := by apply ok_parted <;> assumption
  have c_l_parted : C8.Cal P w K mg base 3 "_law_parted" (spParted) [] := ⟨_, _, _, _, o_l_parted, g_l_parted, F_l_parted.kp, F_l_parted.bindsN fun _ _ _ _ _ _ us hl => match us, hl with | [_], _ => rfl, .nil⟩
  have o_l_kind : FnOk P w K mg base CX0 4 (He.fAd K ("_law_kind", none)) fd_l_kind ["own"] (spLKind) := by apply ok_lkind <;> assumption
  have c_l_kind : C8.Cal P w K mg base 4 "_law_kind" (spLKind) [] := ⟨_, _, _, _, o_l_kind, g_l_kind, F_l_kind.kp, F_l_kind.bindsN fun _ _ _ _ _ _ us hl => match us, hl with | [_], _ => rfl, .nil⟩
  have o_l_own : FnOk P w K mg base CX0 4 (He.fAd K ("_law_own", none)) fd_l_own ["told", "arm", "mod"] (spOwn K) := by apply ok_lown <;> assumption
  have c_l_own : C8.Cal P w K mg base 4 "_law_own" (spOwn K) [] := ⟨_, _, _, _, o_l_own, g_l_own, F_l_own.kp, F_l_own.bindsN fun _ _ _ _ _ _ us hl => match us, hl with | [_, _, _], _ => rfl, .nil⟩
  have o_l_drawn : FnOk P w K mg base CX0 3 (He.fAd K ("_law_drawn", none)) fd_l_drawn ["bag", "arm", "mod"] (spDrawn) := by apply ok_drawn <;> assumption
  have c_l_drawn : C8.Cal P w K mg base 3 "_law_drawn" (spDrawn) [] := ⟨_, _, _, _, o_l_drawn, g_l_drawn, F_l_drawn.kp, F_l_drawn.bindsN fun _ _ _ _ _ _ us hl => match us, hl with | [_, _, _], _ => rfl, .nil⟩
  have o_l_kept : FnOk P w K mg base CX0 6 (He.fAd K ("_law_kept", none)) fd_l_kept ["arm", "mod", "counts"] (spKept0 K) := by apply ok_kept0 <;> assumption
  have c_l_kept : C8.Cal P w K mg base 6 "_law_kept" (spKept0 K) [] := ⟨_, _, _, _, o_l_kept, g_l_kept, F_l_kept.kp, F_l_kept.bindsN fun _ _ _ _ _ _ us hl => match us, hl with | [_, _, _], _ => rfl, .nil⟩
  have o_law : FnOk P w K mg base CX0 7 (He.fAd K ("law", none)) fd_law ["script"] (spLaw K) := by apply ok_law <;> assumption
  exact o_law
end Cb
open PySem PySem.W PySem.Calls PyProof.Rows
theorem PySem.Challenge.cw_combed_k30_whole_exactly_some_sheets_cou_holds : PySem.Challenge.rw_combed_k30_whole_exactly_some_sheets_cou.Holds := by
  w_on; o_law
  refine HandSHeadRun.head_any (r := OpenLaw.row PySem.Challenge.rw_combed_k30_whole_exactly_some_sheets_cou) (q := view (OpenLaw.row PySem.Challenge.rw_combed_k30_whole_exactly_some_sheets_cou).prog [96]) (H := Cb.hk) (ob := Cb.ob) (M := 12000) (loose := Cb.names) (d := HandSHeadRun.topDef (OpenLaw.row PySem.Challenge.rw_combed_k30_whole_exactly_some_sheets_cou).prog 96) (kwd := []) Cb.ob_eq
    (by kernel_rfl) (fun s => by kernel_rfl) Cb.run (by kernel_rfl) (by kernel_rfl) (by kernel_rfl) (by rfl) (by first | exact Cb.ws | assumption | decide +kernel) (by decide +kernel) ⟨rfl, rfl, rfl, rfl, rfl, by decide +kernel⟩ ?hw ?hc
  case hw => w_witness2
  case hc =>
    refine L2.walk_ofE (l := PySem.Challenge.rw_combed_k30_whole_exactly_some_sheets_cou) (n := 63) (k := 7) (x := "script") (CX := L2.CX0) rfl (by decide) (by kernel_rfl) ⟨rfl, by decide, by decide⟩ ?F (fun _ _ _ _ z => z)
    intro w mg fa h Y G hmg0
    obtain ⟨K, KX, c⟩ := Y
    have hmg : mg ("law" : PySem.Str) = some (.ref fa) := by
      have e : (HandSHeadRun.topDef (OpenLaw.row PySem.Challenge.rw_combed_k30_whole_exactly_some_sheets_cou).prog 96).name = ("law" : PySem.Str) := by kernel_rfl
      rw [← e]
      exact hmg0
    obtain ⟨fd, hb, hF⟩ := Cb.facts (P := (PySem.Challenge.rw_combed_k30_whole_exactly_some_sheets_cou).prog) (w := w) KX G hmg ⟨by kernel_rfl, by kernel_rfl⟩ c
    exact ⟨K, fd, Cb.spLaw K, KX, hb, fun H a ns hl _ hS => ⟨a, ns, rfl, hS, hl, fun _ => rfl⟩, hF⟩
#print axioms PySem.Challenge.cw_combed_k30_whole_exactly_some_sheets_cou_holds
