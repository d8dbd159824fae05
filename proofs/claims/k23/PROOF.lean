import PyProof.Rows.All
import Wide.All
import OpenK.AllK
import Wide.FinOn
import KE.KStateDown
import KE.GoesMore
import PyProof.SeqIndex
import KE.KDictList
import KE.KRevSl
import HandS.ForMost
import HandS.Wide
import HandS.IsInst
import HandS.Codes
import HandS.Defaults
import HandS.Conv
import HandS.More
import HandS.WordsExc
import HandS.DictComp
import HandS.NoneIn
import HandS.Star
import HandS.Gcd
import HandS.Text
import HandS.ListItems
import HandS.Walk
import HandS.Head0
import HandS.Head1
import HandS.Head2
import HandS.Head3
import HandS.WideBits
import HandS.Style
import KE.KSuper
import KE.KExcSuper
import KE.KExcInit
import HandS.ExcSuper
import HandS.ExcField
import HandS.ExcIs
import HandS.TryOnly
import HandS.HotCalls
import HandS.SlotsOwn
import KE.KExcIs
import HandS.HeadEnd
import HandS.HeadHook1
import HandS.HeadHook2
import PySem.Challenge.RW_combed_k23_whole_lots_counted
set_option Elab.async false
set_option linter.all false
set_option maxRecDepth 100000
set_option maxHeartbeats 4000000
namespace Cb
open PySem PySem.Spec PyProof.Rows L2

/-! ### steps of a reading, by the head of its term -/
section
variable {σ : L2.St} {H : Hp} {Q : VK} {D : Ends} {te ta tb tc : TE} {t u : TS} {tt : TT} {v : V} {i j : Int} {K : PySem.W.Frag}
theorem x_seq (h : t { D with nx := u D } σ H) : tSeq t u D σ H := h
theorem x_next (h : D.nx σ H) : tNext D σ H := h
theorem x_brk (h : D.bk σ H) : tBreak D σ H := h
theorem x_cont (h : D.ct σ H) : tCont D σ H := h
theorem x_asg {g : TG} (h : te σ H fun x H1 => g x σ H1 D.nx) : tAsg te g D σ H := h
theorem x_gname {k : Nat} {R : L2.St → Hp → Prop} (h : R (σ.set k (some v)) H) : gName k v σ H R := h
theorem x_drop (h : te σ H fun _ H1 => D.nx σ H1) : tDrop te D σ H := h
theorem x_ret (h : te σ H D.rt) : tRet te D σ H := h
theorem x_retN (h : D.rt .non H) : tRetN D σ H := h
theorem x_ifs {c : TT} (h : c σ H fun b H1 => if b = true then t D σ H1 else u D σ H1) : tIfS c t u D σ H := h
theorem x_par {k l : Nat} {ta : TA} (h : ta σ H fun vs H1 => ∃ v w, vs = [v, w] ∧ D.nx ((σ.set k (some v)).set l (some w)) H1) : tPar k l ta D σ H := h
theorem x_par2 {k l : Nat} {v w : V} (h : D.nx ((σ.set k (some v)).set l (some w)) H) : ∃ v' w', [v, w] = [v', w'] ∧ D.nx ((σ.set k (some v')).set l (some w')) H := ⟨v, w, rfl, h⟩
theorem x_aug {k : Nat} {ti : TIp} {x : V} (e : σ[k]? = some (some x)) (h : te σ H fun y H1 => ti x y H1 fun z H2 => D.nx (σ.set k (some z)) H2) : tAug k te ti D σ H := ⟨x, e, h⟩
theorem x_var {k : Nat} (e : σ[k]? = some (some v)) (h : Q v H) : tVar k σ H Q := ⟨v, e, h⟩
theorem x_c (h : Q v H) : tC v σ H Q := h
theorem x_op {r : R2} (h : ta σ H fun x H1 => tb σ H1 fun y H2 => r x y H2 Q) : tOp r ta tb σ H Q := h
theorem x_un {r : V → Hp → VK → Prop} (h : ta σ H fun x H1 => r x H1 Q) : tUn r ta σ H Q := h
theorem x_rI0 {g : Int → Int → V} (h : Q (g i j) H) : rI0 g (.int i) (.int j) H Q := ⟨i, j, rfl, rfl, h⟩
theorem x_rI {C : Int → Int → Prop} {g : Int → Int → V} (c : C i j) (h : Q (g i j) H) : rI C g (.int i) (.int j) H Q := ⟨i, j, rfl, rfl, c, h⟩
theorem x_rU {g : Int → V} (h : Q (g i) H) : rU g (.int i) H Q := ⟨i, rfl, h⟩
theorem x_ipI {f : Int → Int → Int} (h : Q (.int (f i j)) H) : ipI f (.int i) (.int j) H Q := ⟨i, j, rfl, rfl, h⟩
theorem dec_int {i j : Int} : decide (V.int i = V.int j) = decide (i = j) := by
  by_cases e : i = j
  · subst e; simp
  · rw [decide_eq_false e, decide_eq_false (fun q => e (V.int.inj q))]
theorem dec_str {i j : Str} : decide (V.str i = V.str j) = decide (i = j) := by
  by_cases e : i = j
  · subst e; simp
  · rw [decide_eq_false e, decide_eq_false (fun q => e (V.str.inj q))]
theorem dec_bl {i j : Bool} : decide (V.bl i = V.bl j) = decide (i = j) := by
  by_cases e : i = j
  · subst e; simp
  · rw [decide_eq_false e, decide_eq_false (fun q => e (V.bl.inj q))]
theorem x_eqI (h : Q (.bl (decide (i = j))) H) : rEq (.int i) (.int j) H Q := ⟨rfl, by rw [dec_int]; exact h⟩
theorem x_neI (h : Q (.bl (!decide (i = j))) H) : rNe (.int i) (.int j) H Q := ⟨rfl, by rw [dec_int]; exact h⟩
theorem x_eqS {i j : Str} (h : Q (.bl (decide (i = j))) H) : rEq (.str i) (.str j) H Q := ⟨rfl, by rw [dec_str]; exact h⟩
theorem x_neS {i j : Str} (h : Q (.bl (!decide (i = j))) H) : rNe (.str i) (.str j) H Q := ⟨rfl, by rw [dec_str]; exact h⟩
theorem x_eqB {i j : Bool} (h : Q (.bl (decide (i = j))) H) : rEq (.bl i) (.bl j) H Q := ⟨rfl, by rw [dec_bl]; exact h⟩
theorem x_neB {i j : Bool} (h : Q (.bl (!decide (i = j))) H) : rNe (.bl i) (.bl j) H Q := ⟨rfl, by rw [dec_bl]; exact h⟩
theorem x_test {R : Bool → Hp → Prop} (h : te σ H fun x H' => ∃ k, x = .bl k ∧ R k H') : tTest te σ H R := h
theorem x_tB {R : Bool → Hp → Prop} (h : te σ H fun x H' => ∃ k, x = .bl k ∧ R k H') : tB te σ H R := h
theorem x_bl {b : Bool} {R : Bool → Prop} (h : R b) : ∃ k, V.bl b = .bl k ∧ R k := ⟨b, rfl, h⟩
theorem x_and {s t : TT} {R : Bool → Hp → Prop} (h : s σ H fun c H1 => if c = true then t σ H1 R else R false H1) : tAnd s t σ H R := h
theorem x_or {s t : TT} {R : Bool → Hp → Prop} (h : s σ H fun c H1 => if c = true then R true H1 else t σ H1 R) : tOr s t σ H R := h
theorem x_not {s : TT} {R : Bool → Hp → Prop} (h : s σ H fun c H1 => R (!c) H1) : tNot s σ H R := h
theorem x_andV (h : ta σ H fun x H1 => ∃ c, x = .bl c ∧ if c = true then tb σ H1 Q else Q (.bl false) H1) : tAndV ta tb σ H Q := h
theorem x_orV (h : ta σ H fun x H1 => ∃ c, x = .bl c ∧ if c = true then Q (.bl true) H1 else tb σ H1 Q) : tOrV ta tb σ H Q := h
theorem x_notV (h : ta σ H fun x H1 => ∃ c, x = .bl c ∧ Q (.bl (!c)) H1) : tNotV ta σ H Q := h
theorem x_if {s : TT} (h : s σ H fun c H1 => if c = true then ta σ H1 Q else tb σ H1 Q) : tIf s ta tb σ H Q := h
theorem x_chain {r r' : R2} (h : ta σ H fun x H1 => tb σ H1 fun y H2 => r x y H2 fun z H3 => ∃ k, z = .bl k ∧ (if k = true then tc σ H3 fun w' H4 => r' y w' H4 Q else Q (.bl false) H3)) : tChain r r' ta tb tc σ H Q := h
theorem x_nil {R : List V → Hp → Prop} (h : R [] H) : tNil σ H R := h
theorem x_cons {tr : TA} {R : List V → Hp → Prop} (h : te σ H fun x H1 => tr σ H1 fun xs H2 => R (x :: xs) H2) : tCons te tr σ H R := h
theorem x_call {sp : Sp} {dvs : List V} {E : XK} {tr : TA} (h : tr σ H fun vs H1 => sp (vs ++ dvs) H1 Q E) : tCall sp dvs E tr σ H Q := h
theorem x_callK {sp : Sp} {g : List V → List V → List V} {E : XK} {tr tk : TA} (h : tr σ H fun vs H1 => tk σ H1 fun zs H2 => sp (g vs zs) H2 Q E) : tCallK sp g E tr tk σ H Q := h
theorem x_cb {r : List V → Hp → VK → Prop} {tr : TA} (h : tr σ H fun vs H1 => r vs H1 Q) : tCB r tr σ H Q := h
theorem x_lst {tr : TA} (h : tr σ H fun xs H1 => xs.length ≤ sizeLine ∧ ∀ p, H1 p = none → Q (.ref p) (upd H1 p (.lst xs))) : tLst tr σ H Q := h
theorem x_tup {tr : TA} (h : tr σ H fun xs H1 => xs.length ≤ sizeLine ∧ ∀ p, H1 p = none → Q (.ref p) (upd H1 p (.tup xs))) : tTup tr σ H Q := h
theorem x_ixL {p : Addr} {xs : List V} (s : SqL K H p xs) (a : atI xs i = some v) (h : Q v H) : rIxL K (.ref p) (.int i) H Q := ⟨p, xs, i, v, rfl, rfl, s, a, h⟩
theorem x_ixT {p : Addr} {xs : List V} (s : SqT K H p xs) (a : atI xs i = some v) (h : Q v H) : rIxT K (.ref p) (.int i) H Q := ⟨p, xs, i, v, rfl, rfl, s, a, h⟩
theorem x_sub {to ti : TE} {tS : TSet} {R : L2.St → Hp → Prop} (h : to σ H fun o H1 => ti σ H1 fun i H2 => tS o i v H2 fun H3 => R σ H3) : gSub to ti tS v σ H R := h
theorem x_setL {p : Addr} {xs : List V} {k : Nat} {R : Hp → Prop} (s : H p = some (.lst xs)) (a : ixN xs.length i = some k) (h : R (upd H p (.lst (xs.set k v)))) : rSetL (.ref p) (.int i) v H R := ⟨p, xs, i, k, rfl, rfl, s, a, h⟩
theorem x_sl {r : V → Option Int → Option Int → Hp → VK → Prop} {tl th : TO} (h : te σ H fun x H1 => tl σ H1 fun l H2 => th σ H2 fun u H3 => r x l u H3 Q) : tSl r te tl th σ H Q := h
theorem x_nopart {R : Option Int → Hp → Prop} (h : R none H) : tNoPart σ H R := h
theorem x_part {R : Option Int → Hp → Prop} (h : te σ H fun x H1 => ∃ i, x = .int i ∧ R (some i) H1) : tPart te σ H R := h
theorem x_int {R : Int → Prop} (h : R i) : ∃ k, V.int i = .int k ∧ R k := ⟨i, rfl, h⟩
theorem x_slL {p : Addr} {xs : List V} {lo hi : Option Int} (s : SqL K H p xs) (h : ∀ q, H q = none → Q (.ref q) (upd H q (.lst (cutV xs lo hi)))) : rSlL K (.ref p) lo hi H Q := ⟨p, xs, rfl, s, h⟩
theorem x_bm {T : String} {r : V → List V → Hp → VK → Prop} {to : TE} {tr : TA} (h : to σ H fun x H1 => tyV K T x H1 ∧ tr σ H1 fun xs H2 => r x xs H2 Q) : tBM K T r to tr σ H Q := h
theorem x_bm0 {T : String} {r : V → List V → Hp → VK → Prop} {to : TE} (h : to σ H fun x H1 => tyV K T x H1 ∧ r x [] H1 Q) : tBM0 K T r to σ H Q := h
theorem x_tyL {p : Addr} {xs : List V} {R : Prop} (s : SqL K H p xs) (h : R) : tyV K "list" (.ref p) H ∧ R := ⟨Or.inl ⟨rfl, xs, s⟩, h⟩
theorem x_append {p : Addr} {xs : List V} {y : V} (s : H p = some (.lst xs)) (l : xs.length < sizeLine) (h : Q .non (upd H p (.lst (xs ++ [y])))) : rAppend (.ref p) [y] H Q := ⟨p, xs, y, rfl, rfl, s, l, h⟩
theorem x_extend {p q : Addr} {xs ys : List V} (s : H p = some (.lst xs)) (s2 : H q = some (.lst ys)) (l : xs.length + ys.length ≤ sizeLine) (h : Q .non (upd H p (.lst (xs ++ ys)))) : rExtend (.ref p) [.ref q] H Q := ⟨p, q, xs, ys, rfl, rfl, s, s2, l, h⟩
theorem x_fld {f : Str} (h : ta σ H fun x H1 => ∃ a C dx fs v, x = .ref a ∧ H1 a = some (.ins C dx fs) ∧ Cls K C ∧ NoAttr K C f ∧ fs.lookup f = some v ∧ Q v H1) : tFld K ta f σ H Q := h
theorem x_while {c : TT} {tb : TS} (W : Nat → L2.St → Hp → Prop) (m0 : Nat) (h0 : W m0 σ H) (hs : ∀ m σ H, W m σ H → c σ H fun b H1 => if b = true then ∃ N : L2.St → Hp → Prop, (∀ σ' H', N σ' H' → ∃ m', m' < m ∧ W m' σ' H') ∧ tb { D with nx := N, ct := N, bk := D.nx } σ H1 else D.nx σ H1) : tWhile c tb D σ H := ⟨W, ⟨m0, h0⟩, hs⟩
theorem x_turn {m : Nat} {W : Nat → L2.St → Hp → Prop} {tb : TS} (h : tb { D with nx := fun σ' H' => ∃ m', m' < m ∧ W m' σ' H', ct := fun σ' H' => ∃ m', m' < m ∧ W m' σ' H', bk := D.nx } σ H) : ∃ N : L2.St → Hp → Prop, (∀ σ' H', N σ' H' → ∃ m', m' < m ∧ W m' σ' H') ∧ tb { D with nx := N, ct := N, bk := D.nx } σ H := ⟨_, fun _ _ h => h, h⟩
theorem x_tYes {R : Bool → Hp → Prop} (h : R true H) : tYes σ H R := h
end

theorem x_cut {σ : L2.St} {H : Hp} {D : Ends} {t u : TS} (Mid : L2.St → Hp → Prop) (h1 : t { D with nx := Mid } σ H) (h2 : ∀ σ' H', Mid σ' H' → u D σ' H') : C8.tCut t u D σ H := ⟨Mid, h1, h2⟩
/-! ### heaps -/
theorem upd_old {H : Hp} {a p : Addr} {o u : HO} (hp : H p = none) (h : H a = some u) : upd H p o a = some u := by
  rw [upd_ne (ne_of_none h hp)]
  exact h
theorem upd_oth {H : Hp} {a p : Addr} {o u : HO} (n : a ≠ p) (h : H a = some u) : upd H p o a = some u := by
  rw [upd_ne n]
  exact h
theorem Same.get {H H' : Hp} {a : Addr} {u : HO} (s : Same H H') (h : H a = some u) : H' a = some u := s a u h
theorem Same.new {H : Hp} {p : Addr} {o : HO} (h : H p = none) : Same H (upd H p o) := fun a u e => upd_old h e
theorem Same.sql {K : PySem.W.Frag} {H H' : Hp} {a : Addr} {xs : List V} (e : Same H H') (h : SqL K H a xs) : SqL K H' a xs := e.seq h
/-- an object that was not there may change -/
theorem Same.mut {H H' : Hp} {p : Addr} {o : HO} (e : Same H H') (h : H p = none) : Same H (upd H' p o) := fun a u ha => by
  rw [upd_ne (ne_of_none ha h)]
  exact e a u ha
/-- all but b is as it was -/
def Kp (b : Addr) (H H' : Hp) : Prop := ∀ a o, a ≠ b → H a = some o → H' a = some o
theorem Kp.refl {b : Addr} {H : Hp} : Kp b H H := fun _ _ _ h => h
theorem Kp.of {b : Addr} {H H' : Hp} (s : Same H H') : Kp b H H' := fun a o _ h => s a o h
theorem Kp.trans {b : Addr} {H H1 H2 : Hp} (x : Kp b H H1) (y : Kp b H1 H2) : Kp b H H2 := fun a o n h => y a o n (x a o n h)
theorem Kp.get {b : Addr} {H H' : Hp} {a : Addr} {u : HO} (s : Kp b H H') (n : a ≠ b) (h : H a = some u) : H' a = some u := s a u n h
theorem Kp.free {b : Addr} {H H' : Hp} (s : Kp b H H') {a : Addr} (n : a ≠ b) (h : H' a = none) : H a = none := by
  cases e : H a with
  | none => rfl
  | some o => rw [s a o n e] at h; cases h
theorem Kp.sql {K : PySem.W.Frag} {b : Addr} {H H' : Hp} {a : Addr} {xs : List V} (e : Kp b H H') (n : a ≠ b) (h : SqL K H a xs) : SqL K H' a xs := by
  rcases h with (h | ⟨o, h⟩) | h
  · exact .inl (.inl (e _ _ n h))
  · exact .inl (.inr ⟨o, e _ _ n h⟩)
  · exact .inr h
/-! ### loops over what stands still -/
section
variable {σ : L2.St} {H : Hp} {Q : VK} {D : Ends} {te : TE} {tt : TT} {K : PySem.W.Frag} {g : TG} {tb : TS}
/-- [e for x in xs if t] that leaves all that was tracked as it was: Iv of the turn and what is made so far -/
theorem lcS_list {a : Addr} {xs : List V} {vs : List Nat} (s : SqL K H a xs) (hz : xs.length < sizeLine) (Iv : Nat → List V → Prop) (I0 : Iv 0 [])
    (turn : ∀ i x H' acc, xs[i]? = some x → Same H H' → Iv i acc → acc.length ≤ i → ∀ (R : VK) (S : Hp → Prop), (∀ y H4, Same H' H4 → Iv (i + 1) (acc ++ [y]) → R y H4) → (∀ H3, Same H' H3 → Iv (i + 1) acc → S H3) →
      g x (wipe σ vs) H' fun σ2 H2 => wipe σ2 vs = wipe σ vs ∧ tt σ2 H2 fun b H3 => if b = true then te σ2 H3 R else S H3)
    (done : ∀ p H' acc, H p = none → Same H H' → H' p = some (.lst acc) → Iv xs.length acc → Q (.ref p) H') :
    ∀ p, H p = none → ∃ W : Nat → Nat → Hp → Prop, (∃ m, W 0 m (upd H p (.lst []))) ∧ ∀ i m H, W i m H →
      ((Itl K a).stop i H ∧ Q (.ref p) H) ∨ ((Itl K a).go i H ∧ ∃ Nx : Hp → Prop, (∀ H', Nx H' → ∃ m', m' < m ∧ W (i + 1) m' H') ∧ ∀ x H', (Itl K a).yld i H x H' → g x (wipe σ vs) H' fun σ2 H2 => wipe σ2 vs = wipe σ vs ∧ tt σ2 H2 fun b H3 =>
        if b = true then te σ2 H3 fun y H4 => ∃ acc, H4 p = some (.lst acc) ∧ acc.length < sizeLine ∧ Nx (upd H4 p (.lst (acc ++ [y]))) else Nx H3) := by
  intro p hp
  refine lc_list (K := K) (a := a) (xs := xs) (fun i H' => ∃ acc, Same H H' ∧ H' p = some (.lst acc) ∧ Iv i acc ∧ acc.length ≤ i) ⟨[], Same.new hp, upd_same, I0, Nat.le_refl _⟩ (fun i H' _ ⟨acc, s', _⟩ => s'.seq s) ?_ ?_
  · rintro i x H' hi ⟨acc, s', hd, iv, hl⟩
    have hil : i < xs.length := (List.getElem?_eq_some_iff.mp hi).1
    refine turn i x H' acc hi s' iv hl _ _ (fun y H4 q iv' => ?_) fun H3 q iv' => ?_
    · exact ⟨acc, q _ _ hd, by omega, acc ++ [y], Same.mut (Same.trans s' q) hp, upd_same, iv', by rw [List.length_append, List.length_singleton]; omega⟩
    · exact ⟨acc, Same.trans s' q, q _ _ hd, iv', by omega⟩
  · rintro H' ⟨acc, s', hd, iv, _⟩
    exact done p H' acc hp s' hd iv
/-- the same over range(lo, lo + n) -/
theorem lcS_rng {lo : Int} {n : Nat} {vs : List Nat} (hz : n < sizeLine) (Iv : Nat → List V → Prop) (I0 : Iv 0 [])
    (turn : ∀ i H' acc, i < n → Same H H' → Iv i acc → acc.length ≤ i → ∀ (R : VK) (S : Hp → Prop), (∀ y H4, Same H' H4 → Iv (i + 1) (acc ++ [y]) → R y H4) → (∀ H3, Same H' H3 → Iv (i + 1) acc → S H3) →
      g (.int (lo + i)) (wipe σ vs) H' fun σ2 H2 => wipe σ2 vs = wipe σ vs ∧ tt σ2 H2 fun b H3 => if b = true then te σ2 H3 R else S H3)
    (done : ∀ p H' acc, H p = none → Same H H' → H' p = some (.lst acc) → Iv n acc → Q (.ref p) H') :
    ∀ p, H p = none → ∃ W : Nat → Nat → Hp → Prop, (∃ m, W 0 m (upd H p (.lst []))) ∧ ∀ i m H, W i m H →
      ((Itr lo n).stop i H ∧ Q (.ref p) H) ∨ ((Itr lo n).go i H ∧ ∃ Nx : Hp → Prop, (∀ H', Nx H' → ∃ m', m' < m ∧ W (i + 1) m' H') ∧ ∀ x H', (Itr lo n).yld i H x H' → g x (wipe σ vs) H' fun σ2 H2 => wipe σ2 vs = wipe σ vs ∧ tt σ2 H2 fun b H3 =>
        if b = true then te σ2 H3 fun y H4 => ∃ acc, H4 p = some (.lst acc) ∧ acc.length < sizeLine ∧ Nx (upd H4 p (.lst (acc ++ [y]))) else Nx H3) := by
  intro p hp
  refine lc_range (lo := lo) (n := n) (fun i H' => ∃ acc, Same H H' ∧ H' p = some (.lst acc) ∧ Iv i acc ∧ acc.length ≤ i) ⟨[], Same.new hp, upd_same, I0, Nat.le_refl _⟩ ?_ ?_
  · rintro i H' hi ⟨acc, s', hd, iv, hl⟩
    refine turn i H' acc hi s' iv hl _ _ (fun y H4 q iv' => ?_) fun H3 q iv' => ?_
    · exact ⟨acc, q _ _ hd, by omega, acc ++ [y], Same.mut (Same.trans s' q) hp, upd_same, iv', by rw [List.length_append, List.length_singleton]; omega⟩
    · exact ⟨acc, Same.trans s' q, q _ _ hd, iv', by omega⟩
  · rintro H' ⟨acc, s', hd, iv, _⟩
    exact done p H' acc hp s' hd iv
end
/-! ### a for's walk and a comprehension's, as relations of the source's value -/
def rForL (K : PySem.W.Frag) (g : TG) (tb : TS) (D : Ends) (σ : L2.St) (x : V) (H : Hp) : Prop := ∃ a, x = .ref a ∧ (∃ xs, SqL K H a xs) ∧ ∃ W : Nat → Nat → L2.St → Hp → Prop, (∃ k, W 0 k σ H) ∧ ∀ k l σ H, W k l σ H → ((Itl K a).stop k H ∧ D.nx σ H) ∨ ((Itl K a).go k H ∧ ∃ N : L2.St → Hp → Prop, (∀ σ' H', N σ' H' → ∃ m', m' < l ∧ W (k + 1) m' σ' H') ∧ ∀ x H', (Itl K a).yld k H x H' → g x σ H' fun σ2 H2 => tb { D with nx := N, ct := N, bk := D.nx } σ2 H2)
def rForT (K : PySem.W.Frag) (g : TG) (tb : TS) (D : Ends) (σ : L2.St) (x : V) (H : Hp) : Prop := ∃ a, x = .ref a ∧ (∃ xs, SqT K H a xs) ∧ ∃ W : Nat → Nat → L2.St → Hp → Prop, (∃ k, W 0 k σ H) ∧ ∀ k l σ H, W k l σ H → ((Itt K a).stop k H ∧ D.nx σ H) ∨ ((Itt K a).go k H ∧ ∃ N : L2.St → Hp → Prop, (∀ σ' H', N σ' H' → ∃ m', m' < l ∧ W (k + 1) m' σ' H') ∧ ∀ x H', (Itt K a).yld k H x H' → g x σ H' fun σ2 H2 => tb { D with nx := N, ct := N, bk := D.nx } σ2 H2)
def rForR1 (g : TG) (tb : TS) (D : Ends) (σ : L2.St) (us : List V) (H : Hp) : Prop := ∃ j : Int, us = [.int j] ∧ -(2 ^ 62) ≤ j ∧ j < 2 ^ 62 ∧ ∃ W : Nat → Nat → L2.St → Hp → Prop, (∃ k, W 0 k σ H) ∧ ∀ k l σ H, W k l σ H → ((Itr 0 j.toNat).stop k H ∧ D.nx σ H) ∨ ((Itr 0 j.toNat).go k H ∧ ∃ N : L2.St → Hp → Prop, (∀ σ' H', N σ' H' → ∃ m', m' < l ∧ W (k + 1) m' σ' H') ∧ ∀ x H', (Itr 0 j.toNat).yld k H x H' → g x σ H' fun σ2 H2 => tb { D with nx := N, ct := N, bk := D.nx } σ2 H2)
def rForR2 (g : TG) (tb : TS) (D : Ends) (σ : L2.St) (us : List V) (H : Hp) : Prop := ∃ i j : Int, us = [.int i, .int j] ∧ (-(2 ^ 62) ≤ i ∧ i < 2 ^ 62 ∧ -(2 ^ 62) ≤ j ∧ j < 2 ^ 62) ∧ ∃ W : Nat → Nat → L2.St → Hp → Prop, (∃ k, W 0 k σ H) ∧ ∀ k l σ H, W k l σ H → ((Itr i (j - i).toNat).stop k H ∧ D.nx σ H) ∨ ((Itr i (j - i).toNat).go k H ∧ ∃ N : L2.St → Hp → Prop, (∀ σ' H', N σ' H' → ∃ m', m' < l ∧ W (k + 1) m' σ' H') ∧ ∀ x H', (Itr i (j - i).toNat).yld k H x H' → g x σ H' fun σ2 H2 => tb { D with nx := N, ct := N, bk := D.nx } σ2 H2)
def rLcL (K : PySem.W.Frag) (g : TG) (tt : TT) (te : TE) (vs : List Nat) (σ : L2.St) (x : V) (H : Hp) (Q : VK) : Prop := ∃ a, x = .ref a ∧ (∃ xs, SqL K H a xs) ∧ ∀ p, H p = none → ∃ W : Nat → Nat → Hp → Prop, (∃ m, W 0 m (upd H p (.lst []))) ∧ ∀ k l H, W k l H → ((Itl K a).stop k H ∧ Q (.ref p) H) ∨ ((Itl K a).go k H ∧ ∃ Nx : Hp → Prop, (∀ H', Nx H' → ∃ m', m' < l ∧ W (k + 1) m' H') ∧ ∀ x H', (Itl K a).yld k H x H' → g x (wipe σ vs) H' fun σ2 H2 => wipe σ2 vs = wipe σ vs ∧ tt σ2 H2 fun b H3 => if b = true then te σ2 H3 fun y H4 => ∃ acc, H4 p = some (.lst acc) ∧ acc.length < sizeLine ∧ Nx (upd H4 p (.lst (acc ++ [y]))) else Nx H3)
def rLcT (K : PySem.W.Frag) (g : TG) (tt : TT) (te : TE) (vs : List Nat) (σ : L2.St) (x : V) (H : Hp) (Q : VK) : Prop := ∃ a, x = .ref a ∧ (∃ xs, SqT K H a xs) ∧ ∀ p, H p = none → ∃ W : Nat → Nat → Hp → Prop, (∃ m, W 0 m (upd H p (.lst []))) ∧ ∀ k l H, W k l H → ((Itt K a).stop k H ∧ Q (.ref p) H) ∨ ((Itt K a).go k H ∧ ∃ Nx : Hp → Prop, (∀ H', Nx H' → ∃ m', m' < l ∧ W (k + 1) m' H') ∧ ∀ x H', (Itt K a).yld k H x H' → g x (wipe σ vs) H' fun σ2 H2 => wipe σ2 vs = wipe σ vs ∧ tt σ2 H2 fun b H3 => if b = true then te σ2 H3 fun y H4 => ∃ acc, H4 p = some (.lst acc) ∧ acc.length < sizeLine ∧ Nx (upd H4 p (.lst (acc ++ [y]))) else Nx H3)
def rLcR1 (g : TG) (tt : TT) (te : TE) (vs : List Nat) (σ : L2.St) (us : List V) (H : Hp) (Q : VK) : Prop := ∃ j : Int, us = [.int j] ∧ -(2 ^ 62) ≤ j ∧ j < 2 ^ 62 ∧ ∀ p, H p = none → ∃ W : Nat → Nat → Hp → Prop, (∃ m, W 0 m (upd H p (.lst []))) ∧ ∀ k l H, W k l H → ((Itr 0 j.toNat).stop k H ∧ Q (.ref p) H) ∨ ((Itr 0 j.toNat).go k H ∧ ∃ Nx : Hp → Prop, (∀ H', Nx H' → ∃ m', m' < l ∧ W (k + 1) m' H') ∧ ∀ x H', (Itr 0 j.toNat).yld k H x H' → g x (wipe σ vs) H' fun σ2 H2 => wipe σ2 vs = wipe σ vs ∧ tt σ2 H2 fun b H3 => if b = true then te σ2 H3 fun y H4 => ∃ acc, H4 p = some (.lst acc) ∧ acc.length < sizeLine ∧ Nx (upd H4 p (.lst (acc ++ [y]))) else Nx H3)
def rLcR2 (g : TG) (tt : TT) (te : TE) (vs : List Nat) (σ : L2.St) (us : List V) (H : Hp) (Q : VK) : Prop := ∃ i j : Int, us = [.int i, .int j] ∧ (-(2 ^ 62) ≤ i ∧ i < 2 ^ 62 ∧ -(2 ^ 62) ≤ j ∧ j < 2 ^ 62) ∧ ∀ p, H p = none → ∃ W : Nat → Nat → Hp → Prop, (∃ m, W 0 m (upd H p (.lst []))) ∧ ∀ k l H, W k l H → ((Itr i (j - i).toNat).stop k H ∧ Q (.ref p) H) ∨ ((Itr i (j - i).toNat).go k H ∧ ∃ Nx : Hp → Prop, (∀ H', Nx H' → ∃ m', m' < l ∧ W (k + 1) m' H') ∧ ∀ x H', (Itr i (j - i).toNat).yld k H x H' → g x (wipe σ vs) H' fun σ2 H2 => wipe σ2 vs = wipe σ vs ∧ tt σ2 H2 fun b H3 => if b = true then te σ2 H3 fun y H4 => ∃ acc, H4 p = some (.lst acc) ∧ acc.length < sizeLine ∧ Nx (upd H4 p (.lst (acc ++ [y]))) else Nx H3)
section
variable {σ : L2.St} {H : Hp} {Q : VK} {D : Ends} {tx te : TE} {ta : TA} {tt : TT} {K : PySem.W.Frag} {g : TG} {tb : TS} {vs : List Nat}
theorem x_forL (h : tx σ H fun x H1 => rForL K g tb D σ x H1) : tFor (iList K tx) g tb D σ H := h
theorem x_forT (h : tx σ H fun x H1 => rForT K g tb D σ x H1) : tFor (iTup K tx) g tb D σ H := h
theorem x_forR1 (h : ta σ H fun us H1 => rForR1 g tb D σ us H1) : tFor (iRng1 ta) g tb D σ H := h
theorem x_forR2 (h : ta σ H fun us H1 => rForR2 g tb D σ us H1) : tFor (iRng2 ta) g tb D σ H := h
theorem x_lcL (h : tx σ H fun x H1 => rLcL K g tt te vs σ x H1 Q) : tLc (iList K tx) g tt te vs σ H Q := h
theorem x_lcT (h : tx σ H fun x H1 => rLcT K g tt te vs σ x H1 Q) : tLc (iTup K tx) g tt te vs σ H Q := h
theorem x_lcR1 (h : ta σ H fun us H1 => rLcR1 g tt te vs σ us H1 Q) : tLc (iRng1 ta) g tt te vs σ H Q := h
theorem x_lcR2 (h : ta σ H fun us H1 => rLcR2 g tt te vs σ us H1 Q) : tLc (iRng2 ta) g tt te vs σ H Q := h
end
section
variable {σ : L2.St} {H : Hp} {Q : VK} {D : Ends} {te : TE} {tt : TT} {K : PySem.W.Frag} {g : TG} {tb : TS} {vs : List Nat}
theorem w_forL {a : Addr} {xs : List V} (s : SqL K H a xs) (Pv : Nat → L2.St → Hp → Prop) (h0 : Pv 0 σ H) (hl : ∀ i σ H, i ≤ xs.length → Pv i σ H → SqL K H a xs)
    (hs : ∀ i x σ H, xs[i]? = some x → Pv i σ H → g x σ H fun σ2 H2 => tb { D with nx := Pv (i + 1), ct := Pv (i + 1), bk := D.nx } σ2 H2) (hd : ∀ σ H, Pv xs.length σ H → D.nx σ H) : rForL K g tb D σ (.ref a) H := ⟨a, rfl, ⟨xs, s⟩, for_list Pv h0 hl hs hd⟩
theorem w_forT {a : Addr} {xs : List V} (s : SqT K H a xs) (Pv : Nat → L2.St → Hp → Prop) (h0 : Pv 0 σ H) (hl : ∀ i σ H, i ≤ xs.length → Pv i σ H → SqT K H a xs)
    (hs : ∀ i x σ H, xs[i]? = some x → Pv i σ H → g x σ H fun σ2 H2 => tb { D with nx := Pv (i + 1), ct := Pv (i + 1), bk := D.nx } σ2 H2) (hd : ∀ σ H, Pv xs.length σ H → D.nx σ H) : rForT K g tb D σ (.ref a) H := ⟨a, rfl, ⟨xs, s⟩, for_tup Pv h0 hl hs hd⟩
theorem w_forR1 {n : Int} (h1 : -(2 ^ 62) ≤ n) (h2 : n < 2 ^ 62) (Pv : Nat → L2.St → Hp → Prop) (h0 : Pv 0 σ H)
    (hs : ∀ i σ H, i < n.toNat → Pv i σ H → g (.int (0 + i)) σ H fun σ2 H2 => tb { D with nx := Pv (i + 1), ct := Pv (i + 1), bk := D.nx } σ2 H2) (hd : ∀ σ H, Pv n.toNat σ H → D.nx σ H) : rForR1 g tb D σ [.int n] H := ⟨n, rfl, h1, h2, for_range Pv h0 hs hd⟩
theorem w_forR2 {m n : Int} (hb : -(2 ^ 62) ≤ m ∧ m < 2 ^ 62 ∧ -(2 ^ 62) ≤ n ∧ n < 2 ^ 62) (Pv : Nat → L2.St → Hp → Prop) (h0 : Pv 0 σ H)
    (hs : ∀ i σ H, i < (n - m).toNat → Pv i σ H → g (.int (m + i)) σ H fun σ2 H2 => tb { D with nx := Pv (i + 1), ct := Pv (i + 1), bk := D.nx } σ2 H2) (hd : ∀ σ H, Pv (n - m).toNat σ H → D.nx σ H) : rForR2 g tb D σ [.int m, .int n] H := ⟨m, n, rfl, hb, for_range Pv h0 hs hd⟩
/-- [e for x in xs if t] -/
theorem w_lcL {a : Addr} {xs : List V} (s : SqL K H a xs) (hz : xs.length < sizeLine) (Iv : Nat → List V → Prop) (I0 : Iv 0 [])
    (turn : ∀ i x H' acc, xs[i]? = some x → Same H H' → Iv i acc → acc.length ≤ i → ∀ (R : VK) (S : Hp → Prop), (∀ y H4, Same H' H4 → Iv (i + 1) (acc ++ [y]) → R y H4) → (∀ H3, Same H' H3 → Iv (i + 1) acc → S H3) →
      g x (wipe σ vs) H' fun σ2 H2 => wipe σ2 vs = wipe σ vs ∧ tt σ2 H2 fun b H3 => if b = true then te σ2 H3 R else S H3)
    (done : ∀ p H' acc, H p = none → Same H H' → H' p = some (.lst acc) → Iv xs.length acc → Q (.ref p) H') : rLcL K g tt te vs σ (.ref a) H Q := ⟨a, rfl, ⟨xs, s⟩, lcS_list s hz Iv I0 turn done⟩
theorem w_lcR1 {n : Int} (h1 : -(2 ^ 62) ≤ n) (h2 : n < 2 ^ 62) (hz : n.toNat < sizeLine) (Iv : Nat → List V → Prop) (I0 : Iv 0 [])
    (turn : ∀ i H' acc, i < n.toNat → Same H H' → Iv i acc → acc.length ≤ i → ∀ (R : VK) (S : Hp → Prop), (∀ y H4, Same H' H4 → Iv (i + 1) (acc ++ [y]) → R y H4) → (∀ H3, Same H' H3 → Iv (i + 1) acc → S H3) →
      g (.int (0 + i)) (wipe σ vs) H' fun σ2 H2 => wipe σ2 vs = wipe σ vs ∧ tt σ2 H2 fun b H3 => if b = true then te σ2 H3 R else S H3)
    (done : ∀ p H' acc, H p = none → Same H H' → H' p = some (.lst acc) → Iv n.toNat acc → Q (.ref p) H') : rLcR1 g tt te vs σ [.int n] H Q := ⟨n, rfl, h1, h2, lcS_rng hz Iv I0 turn done⟩
theorem w_lcR2 {m n : Int} (hb : -(2 ^ 62) ≤ m ∧ m < 2 ^ 62 ∧ -(2 ^ 62) ≤ n ∧ n < 2 ^ 62) (hz : (n - m).toNat < sizeLine) (Iv : Nat → List V → Prop) (I0 : Iv 0 [])
    (turn : ∀ i H' acc, i < (n - m).toNat → Same H H' → Iv i acc → acc.length ≤ i → ∀ (R : VK) (S : Hp → Prop), (∀ y H4, Same H' H4 → Iv (i + 1) (acc ++ [y]) → R y H4) → (∀ H3, Same H' H3 → Iv (i + 1) acc → S H3) →
      g (.int (m + i)) (wipe σ vs) H' fun σ2 H2 => wipe σ2 vs = wipe σ vs ∧ tt σ2 H2 fun b H3 => if b = true then te σ2 H3 R else S H3)
    (done : ∀ p H' acc, H p = none → Same H H' → H' p = some (.lst acc) → Iv (n - m).toNat acc → Q (.ref p) H') : rLcR2 g tt te vs σ [.int m, .int n] H Q := ⟨m, n, rfl, hb, lcS_rng hz Iv I0 turn done⟩
end
/-- an item of a list of ints is an int -/
theorem int_at {ns : List Int} {i : Nat} {y : V} (h : (ns.map V.int)[i]? = some y) : ∃ z, y = V.int z ∧ ns[i]? = some z := by
  rw [List.getElem?_map] at h
  cases e : ns[i]? with
  | none => rw [e] at h; cases h
  | some z => rw [e] at h; exact ⟨z, (Option.some.inj h).symm, rfl⟩
theorem nat_at {ns : List Nat} {i : Nat} {y : V} (h : (ns.map fun z => V.int (z : Nat))[i]? = some y) : ∃ z : Nat, y = V.int (z : Nat) ∧ ns[i]? = some z := by
  rw [List.getElem?_map] at h
  cases e : ns[i]? with
  | none => rw [e] at h; cases h
  | some z => rw [e] at h; exact ⟨z, (Option.some.inj h).symm, rfl⟩
/-! ### built-ins in one form -/
section
variable {X : Cx}
def rInt1 : List V → Hp → VK → Prop := fun xs H Q => ∃ i, xs = [.int i] ∧ Q (.int i) H
theorem call_intI : CallR X (.type "int") rInt1 := fun pins s σ H xs us Q I r h => call_int1 pins s σ H xs us Q I r (.inl h)
def rIntB : List V → Hp → VK → Prop := fun xs H Q => ∃ k : Bool, xs = [.bl k] ∧ Q (.int (if k then 1 else 0)) H
theorem call_intB : CallR X (.type "int") rIntB := fun pins s σ H xs us Q I r h => call_int1 pins s σ H xs us Q I r (.inr h)
def rAbs : List V → Hp → VK → Prop := fun xs H Q => ∃ i, xs = [.int i] ∧ Q (.int (if i < 0 then -i else i)) H
theorem callAbs : CallR X (.builtin "abs") rAbs := call_abs
def rLenS (K : PySem.W.Frag) : List V → Hp → VK → Prop := fun xs H Q => ∃ p ys, xs = [.ref p] ∧ (SqL K H p ys ∨ SqT K H p ys) ∧ Q (.int (ys.length : Nat)) H
theorem callLenS : CallR X (.builtin "len") (rLenS X.K) := call_len_seq
def rListS (K : PySem.W.Frag) : List V → Hp → VK → Prop := fun xs H Q => ∃ p ys, xs = [.ref p] ∧ (SqL K H p ys ∨ SqT K H p ys) ∧ ∀ l, H l = none → Q (.ref l) (upd H l (.lst ys))
theorem callListS : CallR X (.type "list") (rListS X.K) := call_list_of
theorem pip_mul : PIp X .Mult (rI CMul fun i j => .int (i * j)) := iop_mul
theorem pip_fdiv : PIp X .FloorDiv (rI CDiv fun i j => .int (i / j)) := iop_fdiv
end
section
variable {H : Hp} {Q : VK} {i j : Int} {K : PySem.W.Frag}
theorem x_int1 (h : Q (.int i) H) : rInt1 [.int i] H Q := ⟨i, rfl, h⟩
theorem x_intB {k : Bool} (h : Q (.int (if k then 1 else 0)) H) : rIntB [.bl k] H Q := ⟨k, rfl, h⟩
theorem x_abs (h : Q (.int (if i < 0 then -i else i)) H) : rAbs [.int i] H Q := ⟨i, rfl, h⟩
theorem x_lenL {p : Addr} {xs : List V} (s : SqL K H p xs) (h : Q (.int (xs.length : Nat)) H) : rLenS K [.ref p] H Q := ⟨p, xs, rfl, .inl s, h⟩
theorem x_lenT {p : Addr} {xs : List V} (s : SqT K H p xs) (h : Q (.int (xs.length : Nat)) H) : rLenS K [.ref p] H Q := ⟨p, xs, rfl, .inr s, h⟩
theorem x_listL {p : Addr} {xs : List V} (s : SqL K H p xs) (h : ∀ l, H l = none → Q (.ref l) (upd H l (.lst xs))) : rListS K [.ref p] H Q := ⟨p, xs, rfl, .inl s, h⟩
theorem x_new {o : HO} {n : Nat} {P : Addr → HO → Prop} (l : n ≤ sizeLine) (h : ∀ p, H p = none → Q (.ref p) (upd H p o)) : n ≤ sizeLine ∧ ∀ p, H p = none → Q (.ref p) (upd H p o) := ⟨l, h⟩
end
section
theorem x_iteD {p A B : Prop} [Decidable p] (h1 : p → A) (h2 : ¬ p → B) : if decide p = true then A else B := by
  by_cases h : p
  · rw [if_pos (decide_eq_true h)]; exact h1 h
  · rw [if_neg (by simp [h])]; exact h2 h
theorem x_iteN {p A B : Prop} [Decidable p] (h1 : ¬ p → A) (h2 : p → B) : if (!decide p) = true then A else B := by
  by_cases h : p
  · rw [decide_eq_true h]; exact (if_neg (by decide)).mpr (h2 h)
  · rw [decide_eq_false h]; exact (if_pos (by decide)).mpr (h1 h)
theorem x_iteT {A B : Prop} (h : A) : if true = true then A else B := iteT h
theorem x_iteF {A B : Prop} (h : B) : if false = true then A else B := iteF h
theorem x_iteNT {A B : Prop} (h : B) : if (!true) = true then A else B := iteF h
theorem x_iteNF {A B : Prop} (h : A) : if (!false) = true then A else B := iteT h
theorem x_iteB {b : Bool} {A B : Prop} (h1 : b = true → A) (h2 : b = false → B) : if b = true then A else B := by
  cases b
  · exact iteF (h2 rfl)
  · exact iteT (h1 rfl)
theorem x_iteNB {b : Bool} {A B : Prop} (h1 : b = false → A) (h2 : b = true → B) : if (!b) = true then A else B := by
  cases b
  · exact iteT (h1 rfl)
  · exact iteF (h2 rfl)
theorem x_iteDT {p A B : Prop} [Decidable p] (hp : p) (h : A) : if decide p = true then A else B := by
  rw [if_pos (decide_eq_true hp)]; exact h
theorem x_iteDF {p A B : Prop} [Decidable p] (hp : ¬ p) (h : B) : if decide p = true then A else B := by
  rw [if_neg (by simp [hp])]; exact h
theorem x_iteNDT {p A B : Prop} [Decidable p] (hp : ¬ p) (h : A) : if (!decide p) = true then A else B := by
  rw [decide_eq_false hp]; exact iteT h
theorem x_iteNDF {p A B : Prop} [Decidable p] (hp : p) (h : B) : if (!decide p) = true then A else B := by
  rw [decide_eq_true hp]; exact iteF h
theorem atI_of {α : Type} {xs : List α} {i : Int} {v : α} {k : Nat} (h0 : i = (k : Int)) (h : xs[k]? = some v) : atI xs i = some v := by
  subst h0
  exact atI_nat h
theorem ixN_of {n k : Nat} {i : Int} (h0 : i = (k : Int)) (h : k < n) : ixN n i = some k := by
  subst h0
  unfold ixN
  rw [if_pos (by omega), if_pos (by omega)]
  rfl
end
/-! ### calls with keywords -/
/-- a def that is called with n values and keywords ks; gV puts them in the parameters' order -/
structure CalN (P : Program) (w : World) (K : PySem.W.Frag) (mg : Str → Option Value) (base : Heap) (k : Nat) (x : Str) (sp : Sp) (n : Nat) (ks : List Str) (gV : List V → List V → List V) : Prop where
  ex : ∃ (f : Addr) (fd : FuncData) (ps : List Str) (g : List Value → List Value → List Value), FnOk P w K mg base CX0 k f fd ps sp ∧ mg x = some (.ref f) ∧ PySem.W.keepIn K (.ref f) = true ∧ KBn K fd ps n ks g gV
section
variable {X : Cx} {k j n : Nat} {x : Str} {p pos : Pos} {e : Expr} {es : List Expr} {kws : List Keyword} {t tk : TA} {sp : Sp} {ks : List Str} {gV : List V → List V → List V}
theorem pe_cN0 (c : CalN X.prog X.w X.K X.mg X.base k x sp 0 ks gV) (hr : Room j X.A) (hk : k ≤ j) (hg : Gl X x) (hkw : PK X kws tk)
    (hall : (backToKw pos (keywordEach kws X.env)).all (·.1.isSome) = true := by rfl) (hks : (backToKw pos (keywordEach kws X.env)).filterMap (·.1) = ks := by rfl) (hdb : (x == ("__debug__" : Str)) = false := by decide)
    (hpl : ((backTo pos (starEach [] X.env)).any (·.1) || (backToKw pos (keywordEach kws X.env)).any (·.1.isNone)) = false := by rfl) :
    PE X (.Call (.Name x p) [] kws pos) (tCallN 0 ks.length sp gV L2.E0 tNil tk) := by
  obtain ⟨f, fd, ps, g, F, hm, kp, b⟩ := c.ex
  refine ⟨fun pins s σ H Q I h => ?_⟩
  refine wpAny_Call_Name_kw (ld_glob I hg hm ?_ hdb)
  refine PySem.W.callWith_KW0 (h₀ := X.base) I.ok.mod.kin kp hall ?_ hpl
  refine thn (hkw.run pos pins s σ H _ I h) fun ws s2 ⟨zs, H2, I2, rz, l1, l2, q2⟩ => ⟨I2.kIn, ?_⟩
  rw [hks]
  exact run_fnN (us := []) (vs := []) F (hr.mono hk) b pass0 I2 .nil rz rfl l2 q2
theorem pe_cN (c : CalN X.prog X.w X.K X.mg X.base k x sp n ks gV) (hr : Room j X.A) (hk : k ≤ j) (hg : Gl X x) (ha : PA X (e :: es) t) (hkw : PK X kws tk)
    (hall : (backToKw pos (keywordEach kws X.env)).all (·.1.isSome) = true := by rfl) (hks : (backToKw pos (keywordEach kws X.env)).filterMap (·.1) = ks := by rfl) (hdb : (x == ("__debug__" : Str)) = false := by decide)
    (he : starEach (e :: es) X.env = (false, eval e X.env) :: starEach es X.env := by rfl) (hpl : ((backTo pos (starEach (e :: es) X.env)).any (·.1) || (backToKw pos (keywordEach kws X.env)).any (·.1.isNone)) = false := by rfl) :
    PE X (.Call (.Name x p) (e :: es) kws pos) (tCallN n ks.length sp gV L2.E0 t tk) := by
  obtain ⟨f, fd, ps, g, F, hm, kp, b⟩ := c.ex
  exact pe_callN F (hr.mono hk) hg hm kp b pass0 ha hkw hall hks hdb he hpl
end
theorem x_callN {σ : L2.St} {H : Hp} {Q : VK} {n m : Nat} {sp : Sp} {g : List V → List V → List V} {E : XK} {tr tk : TA} (h : tr σ H fun vs H1 => tk σ H1 fun zs H2 => vs.length = n ∧ zs.length = m ∧ sp (g vs zs) H2 Q E) : tCallN n m sp g E tr tk σ H Q := h
/-- isinstance(x, a built-in class): by the type's name -/
theorem x_isTy {K : PySem.W.Frag} {H : Hp} {Q : VK} {x : V} {m n : String} {b : Bool} (t : TyOf K H x (.type m)) (e : PySem.W.kitOne K (.type m) (.type n) = some b) (h : Q (.bl b) H) : rIsi K [x, .ty n] H Q := ⟨_, _, _, _, b, rfl, .ty n, .base t, e, h⟩
end Cb
namespace Cb
open PySem PySem.Spec PyProof.Rows L2
open AutoSeq1 (wpAny_loadPart')
/-! ### dict(d) -/
section
variable {X : Cx}
def rDictOf : List V → Hp → VK → Prop := fun xs H Q => ∃ (a : Addr) (kvs : List (Key × V)), xs = [.ref a] ∧ Rd H a (.dK kvs) ∧ ∀ p, H p = none → Q (.ref p) (upd H p (.dK kvs))
theorem call_dict_of : CallR X (.type "dict") rDictOf := by
  intro pins s σ H xs us Q I r h
  obtain ⟨a, kvs, e, hk, q⟩ := h
  subst e
  obtain ⟨u, eu, rx⟩ := vals1 r
  subst eu
  obtain rfl : u = Value.ref a := rx
  exact d_copyOf I hk fun p s' hp I' => ⟨.ref p, _, I', rfl, q p hp⟩
end
/-! ### list(d.values()) -/
def rVals : V → Hp → VK → Prop := fun x H Q => ∃ (d : Addr) (kvs : List (Key × V)), x = .ref d ∧ H d = some (.dK kvs) ∧ ∀ p, H p = none → Q (.ref p) (upd H p (.lst (kvs.map (·.2))))
def tListVals (te : TE) : TE := fun σ H Q => te σ H fun x H1 => rVals x H1 Q
section
variable {X : Cx} {e : Expr} {te : TE} {p apos cpos pos : Pos}
theorem pe_listVals (hc : X.calm = true) (he : PE X e te) (hg : Gl X "list") (hm : X.mg "list" = none) (hv : bootBuiltins "list" = some (.type "list")) (hbase : attributeBase e "values" X.env (eval e X.env) = eval e X.env := by rfl) (hline : (apos.endLine == cpos.line) = true := by rfl)
    (hs : starEach [.Call (.Attribute e "values" apos) [] [] cpos] X.env = (false, eval (.Call (.Attribute e "values" apos) [] [] cpos) X.env) :: starEach [] X.env := by rfl) :
    PE X (.Call (.Name "list" p) [.Call (.Attribute e "values" apos) [] [] cpos] [] pos) (tListVals te) := by
  refine ⟨fun pins s σ H Q I hq => ?_⟩
  refine wpAny_Call_Name_kw (ld_blt I hg hm hv ?_)
  refine PyProof.Rows.callWith_type1 ?_ hs rfl
  rw [hs]
  show wpAny _ _ (spliced ((false, eval (.Call (.Attribute e "values" apos) [] [] cpos) X.env) :: backTo pos (starEach [] X.env))) _ _ s
  refine Calls.spliced_cons ?_
  refine wpAny_Call_method (T := "dict") (id := "dict.values") hbase rfl hline F.plainAttrs_dict F.slot_dict_values F.type_dict_values (thn (he.run pins s σ H _ I hq) fun u s1 ⟨x, H1, I1, rx, d, kvs, ex, hd, q⟩ => ?_)
  subst ex
  obtain rfl : u = Value.ref d := rx
  obtain ⟨hz, hs0, vs, kv, hdo⟩ := I1.hok d _ hd
  obtain ⟨ep, hat⟩ := hdo.dictAt
  have lk : kvs.length = vs.length := Paired.length kv
  have I2 : Inv X pins σ H1 { s1 with heap := s1.heap.push { cls := .type "dict_values", data := .fields #[.ref d] } } := I1.kept (t' := s1.toks) fun b ob q => Heap.get?_push_of_some _ q
  refine ⟨hdo.typeIs, hdo.mapOf.noDict, ?_⟩
  show wpAny _ _ (callWith cpos (.builtin "dict.values") [.ref d] [] []) _ X.xe s1
  refine method_meetsIn F.slot_dict_values F.entry_dict_values rfl (PySem.evalArgs_none ⟨rfl, hdo.typeIs, F.args_dict_values_1 _, _, meets_dict_values (mixKind X.prog X.w) d hs0, ⟨vs, hdo⟩, ?_⟩)
  refine Calls.spliced_nil ?_
  refine PySem.W.kdl_call (PySem.W.kdl_values (knd := mixKind X.prog X.w) (kvs := vs) (ep := ep)) (I1.ok.hd hc) ⟨⟨_, Heap.get?_push_size _ rfl, rfl, rfl⟩, hat.push _⟩ (by omega) fun h' tk acc' c' hkeep hS hacc => ?_
  refine ⟨.ref _, upd H1 _ (.lst (kvs.map (·.2))), I2.laid hkeep (Nat.le_refl _) (show ObjOk X.prog X.w _ _ _ (.lst (kvs.map (·.2))) from ⟨?_, acc'.toList, c', ?_, ?_⟩), rfl, q _ (I2.hok.fresh (Nat.le_refl _))⟩
  · rw [List.length_map]; exact hz
  · have el : acc'.toList.length = acc'.size := by simp
    refine vals_of_at (by rw [List.length_map, el, hacc.1, lk]) fun j x w h1 h2 => ?_
    obtain ⟨k, hky⟩ := hacc.2 j w (by rw [← Array.getElem?_toList]; exact h2)
    rw [List.getElem?_map] at h1
    cases ekv : kvs[j]? with
    | none => rw [ekv] at h1; cases h1
    | some pr =>
      rw [ekv] at h1
      cases h1
      obtain ⟨y, f1, f2⟩ := LiI.paired_get kv ekv
      rw [hky] at f1
      cases f1
      exact f2.2
  · rw [Array.toArray_toList]; exact hS
end
/-! ### l.index(x, i) -/
section
variable {X : Cx}
def rIndexFrom (K : PySem.W.Frag) : V → List V → Hp → VK → Prop := fun x xs H Q => ∃ (a : Addr) (ys : List V) (y : V) (i j : Nat) (z : V), x = V.ref a ∧ xs = [y, .int (i : Nat)] ∧ SqL K H a ys ∧ flatV y = true ∧ ys.all flatV = true ∧ i ≤ j ∧ ys[j]? = some z ∧ eqV z y = true ∧
  (∀ (m : Nat) (z' : V), i ≤ m → m < j → ys[m]? = some z' → eqV z' y = false) ∧ Q (.int (j : Nat)) H
theorem mt_indexFrom : MtR X "list.index" (rIndexFrom X.K) := by
  intro pins s σ H x xs v us Q I rx rxs h
  obtain ⟨a, ys, y, i, j, z, rfl, rfl, hs, fy, fys, hij, hz, hzj, hno, q⟩ := h
  cases rx
  cases rxs with
  | cons ry rt =>
    rename_i uy ut
    obtain ⟨ui, eu, ri⟩ := vals1 rt
    subst eu
    obtain ⟨ti, rfl⟩ := ri
    obtain ⟨its, rv, ⟨⟨cls, dd, data, sl⟩, n, ho, hc, hdn, hd⟩, hlen⟩ := I.list hs
    simp only at hc hd
    subst hc hd
    have hvl := rv.length
    have hsl := sizeLine_eq
    have hjy : j < ys.length := (List.getElem?_eq_some_iff.mp hz).1
    have hj : j < its.toArray.size := by
      rw [List.size_toArray]
      omega
    refine call_meets PySem.F.slot_list_index ⟨_, ho, rfl⟩ PySem.F.entry_list_index (PySem.F.args_list_index_3 _ _ _)
      (SeqAt.list_index3_found a its.toArray n dd sl uy (fun m => match ys[m]? with | some z' => eqV z' y | none => false) (i : Int) ti j hj (by rw [SeqAt.searchFrom_nat]; exact hij) (by omega) ?_ ?_) ⟨ho, fun m hm => ?_, ?_⟩
    · rw [hz]; exact hzj
    · intro m hm h1 h2
      rw [SeqAt.searchFrom_nat] at h1
      cases e : ys[m]? with
      | none => rfl
      | some z' => exact hno m z' h1 h2 e
    · have hml : m < its.length := by simpa using hm
      have hmy : m < ys.length := by omega
      have hy' : ys[m]? = some ys[m] := List.getElem?_eq_getElem hmy
      obtain ⟨u2, hu2, ru2⟩ := rv.get hy'
      obtain ⟨_, hme⟩ := List.getElem?_eq_some_iff.mp hu2
      have e1 : its.toArray[m] = u2 := by simpa using hme
      rw [e1, hy']
      exact eqAt_V ru2 ry (flat_at fys hy') fy
    · exact ⟨.int (j : Nat), H, I.tok _, ⟨_, rfl⟩, q⟩
end
/-! ### tuple(x) of a list, a tuple, a dict -/
section
variable {prog : Program} {w : World} {A : Around} {E : Value → Shared → Prop} {s : Shared} {T : String} {r d : Addr} {n : Nat} {P : Nat → Value → Prop} {OK : Heap → Prop}
theorem collect_kdl {Q : List Value → Shared → Prop} (K : PySem.W.KdlSrc prog w T r d n P OK) (hh : A.handled = none) (hok : OK s.heap) (hn : n ≤ sizeLine)
    (hQ : ∀ (h' : Heap) (tk : Nat) (acc : Array Value), (∀ b o, s.heap.get? b = some o → h'.get? b = some o) → ItemsOf P acc n → Q acc.toList { s with heap := h', toks := tk }) :
    wpAny (model prog w) A (collect (.ref r)) Q E s := by
  have hlt := K.there _ hok
  unfold collect
  refine wpAny_bind (wpAny_runValue (codeAny_builtin F.entry_proto_collect ?_))
  rw [Around.under_plainId F.plain_proto_collect _]
  show wpAny _ A.in1 (newList [] >>= fun l => again (.builtin "list.__iadd__" ⟨[l, .ref r], []⟩)) _ _ s
  refine wpAny_bind (wpAny_newObj_type ?_)
  refine wpAny_pure ⟨plainId_quiet F.plain_list_iadd _, codeAny_builtin F.entry_list_iadd ?_⟩
  rw [Around.under_plainId F.plain_list_iadd _]
  show wpAny _ A.in1 (Builtin.List.listExtendWith (.ref s.heap.objs.size) (.ref r) (.ref s.heap.objs.size)) _ _ _
  have hS : (s.heap.push { cls := .type "list", data := .seq ([] : List Value).toArray }).get? s.heap.objs.size = some { cls := .type "list", data := .seq #[] 0 } := Heap.get?_push_size _ rfl
  refine wpAny_mono (PySem.W.kdl_extend (A := A) (R := fun rr s' => rr = .ok (.ret (.ref s.heap.objs.size)) ∧ ∃ (h' : Heap) (tk : Nat) (acc : Array Value) (c' : Nat), s' = { s with heap := h', toks := tk } ∧
      (∀ b o, s.heap.get? b = some o → h'.get? b = some o) ∧ h'.get? s.heap.objs.size = some { cls := .type "list", dict := none, data := .seq acc c', slots := #[] } ∧ ItemsOf P acc n)
    (s := { s with heap := s.heap.push { cls := .type "list", data := .seq ([] : List Value).toArray } }) K hh (K.keep _ _ hok fun b _ o e => Heap.get?_push_of_some _ e) s.heap.objs.size (Nat.ne_of_gt hlt.1) (Nat.ne_of_gt hlt.2) _ 0 hS
    (fun h' tk acc c' hk e hi => ⟨rfl, h', tk, acc, c', rfl, fun b o q => hk b o (Nat.ne_of_lt (Heap.lt_size q)) (Heap.get?_push_of_some _ q), e, hi⟩) hn) (fun fin s' h => ?_) (fun e s' h => ?_)
  · cases fin with
    | done f =>
      obtain ⟨e, h', tk, acc, c', rfl, hk, hS', hi⟩ := h
      cases e
      show wpAny _ A (load s.heap.objs.size >>= _) _ _ _
      exact wpAny_bind (wpAny_load hS' (wpAny_pure (hQ h' tk acc hk hi)))
    | again c' =>
      refine ⟨h.1, codeAny_mono h.2 fun rr s'' hr' => ?_⟩
      obtain ⟨rfl, h', tk, acc, c', rfl, hk, hS', hi⟩ := hr'
      show wpAny _ A (load s.heap.objs.size >>= _) _ _ _
      exact wpAny_bind (wpAny_load hS' (wpAny_pure (hQ h' tk acc hk hi)))
  · exact absurd h.1 (by simp)
theorem code_tuple_new_kdl {Q₁ : Value → Shared → Prop} (K : PySem.W.KdlSrc prog w "dict" r d n P OK) (hh : A.handled = none) (hok : OK s.heap) (hn : n ≤ sizeLine)
    (h : ∀ (h' : Heap) (tk : Nat) (acc : Array Value), (∀ b o, s.heap.get? b = some o → h'.get? b = some o) → ItemsOf P acc n →
      Q₁ (.ref h'.objs.size) { s with heap := h'.push { cls := .type "tuple", data := .seq acc }, toks := tk }) :
    codeAny (model prog w) A (.call (.builtin "tuple.__new__") ⟨[.type "tuple", .ref r], []⟩) (wants Q₁ E) s := by
  refine codeAny_of_tree ?_
  show wpAny _ A.in1 (do checkBuiltinCall "tuple.__new__" ⟨[.type "tuple", .ref r], []⟩; again (.builtin "tuple.__new__" ⟨[.type "tuple", .ref r], []⟩)) _ _ s
  refine wpAny_bind (wpAny_of_eq (F.newCall_tuple_1 _) (wpAny_pure ⟨plainId_quiet F.plain_tuple_new _, codeAny_builtin F.entry_tuple_new ?_⟩))
  rw [Around.under_plainId F.plain_tuple_new _]
  have hsub := sub_tuple_self
  have hinit := init_tuple_lookup
  have hmh := madeHere_tuple
  have hTI : s.TypeIs (.ref r) "dict" := K.type s hok
  have hh1 : A.in1.handled = none := hh
  wp_walk using wpAny_typeOf hTI, collect_kdl (A := A.in1) K hh1 hok hn
  intro h' tk acc hk hacc
  show wpAny _ _ (Builtin.Tuple.tupleExact acc.toList.toArray >>= fun v => ret v) _ _ _
  unfold Builtin.Tuple.tupleExact
  refine wpAny_bind (wpAny_newObj_type ?_ (by show acc.toList.toArray.size ≤ sizeLine; simp only [Array.toArray_toList]; rw [hacc.1]; exact hn))
  refine wpAny_pure ?_
  have e : acc.toList.toArray = acc := by simp
  rw [e]
  exact h h' tk acc hk hacc
theorem call_tuple_kdl {Q : Value → Shared → Prop} (K : PySem.W.KdlSrc prog w "dict" r d n P OK) (hh : A.handled = none) (hok : OK s.heap) (hn : n ≤ sizeLine)
    (hQ : ∀ (h' : Heap) (tk : Nat) (acc : Array Value), (∀ b o, s.heap.get? b = some o → h'.get? b = some o) → ItemsOf P acc n →
      Q (.ref h'.objs.size) { s with heap := h'.push { cls := .type "tuple", data := .seq acc }, toks := tk }) :
    wpAny (model prog w) A (call (.type "tuple") [.ref r]) Q E s := by
  refine callType_codes (Q₁ := fun obj s₁ => s₁.TypeIs obj "tuple" ∧ Q obj s₁) F.called_tuple (F.typeCall_tuple_1 _) F.entry_object_init
    (code_tuple_new_kdl (A := A.in1) K hh hok hn fun h' tk acc hk hacc => ⟨⟨_, Heap.get?_push_size _ rfl, rfl⟩, hQ h' tk acc hk hacc⟩) fun obj s₁ h₁ => ?_
  exact ⟨h₁.1, F.args_object_init_2 obj _, object_init_meets F.called_tuple.init.lookup F.called_tuple.made (by decide) prog w A.in1 _ s₁ ⟨h₁.1, rfl, h₁.2⟩⟩
end
section
variable {X : Cx}
def rTupOf (K : PySem.W.Frag) : List V → Hp → VK → Prop := fun vs H Q => ∃ p, vs = [.ref p] ∧ ((∃ xs, SqL K H p xs ∧ ∀ q, H q = none → Q (.ref q) (upd H q (.tup xs))) ∨ (∃ xs, SqT K H p xs ∧ Q (.ref p) H) ∨
  ∃ kvs : List (Key × V), H p = some (.dK kvs) ∧ ∀ q, H q = none → Q (.ref q) (upd H q (.tup (kvs.map fun kv => kV kv.1))))
theorem call_tupOf (hc : X.calm = true) : CallR X (.type "tuple") (rTupOf X.K) := by
  intro pins s σ H xs us Q I r h
  obtain ⟨p, rfl, h⟩ := h
  obtain ⟨v, rfl, rx⟩ := vals1 r
  rcases h with ⟨xs, hs, q⟩ | ⟨xs, hs, q⟩ | ⟨kvs, hk, q⟩
  · exact rl_tuple pins s σ H (.ref p) v Q I rx (.inl ⟨p, xs, rfl, hs, q⟩)
  · exact rl_tuple pins s σ H (.ref p) v Q I rx (.inr ⟨p, xs, rfl, hs, q⟩)
  · obtain rfl : v = Value.ref p := rx
    obtain ⟨z, lo, vs, rk, hd⟩ := (show ObjOk X.prog X.w H s.heap p (.dK kvs) from I.hok p _ hk)
    obtain ⟨ep, hat⟩ := hd.dictAt
    have hl : kvs.length = vs.length := Paired.length rk
    refine call_tuple_kdl (PySem.W.kdl_dict (knd := mixKind X.prog X.w) (kvs := vs) (ep := ep) lo) (I.ok.hd hc) hat (by rw [← hl]; exact z) fun h' tk acc' hkeep hacc => ?_
    have I1 : Inv X pins σ H { s with heap := h', toks := tk } := I.kept (t' := tk) hkeep
    refine ⟨.ref h'.objs.size, upd H h'.objs.size (.tup (kvs.map fun kv => kV kv.1)), I1.laid (t' := tk) (fun b o e => Heap.get?_push_of_some _ e) (Nat.le_refl _) (show ObjOk X.prog X.w _ _ _ (.tup (kvs.map fun kv => kV kv.1)) from ⟨?_, acc'.toList, ?_, ?_⟩), rfl, q _ (I1.hok.fresh (Nat.le_refl _))⟩
    · rw [List.length_map]; exact z
    · have el : acc'.toList.length = acc'.size := by simp
      refine vals_of_at (by rw [List.length_map, el, hacc.1, hl]) fun j x w h1 h2 => ?_
      obtain ⟨k, y, hky, hi⟩ := hacc.2 j w (by rw [← Array.getElem?_toList]; exact h2)
      have e1 : (kvs.map (·.1))[j]? = some k := by
        rw [KV.keys rk, List.getElem?_map, hky] <;> rfl
      have e2 : (kvs.map fun kv => kV kv.1)[j]? = some (kV k) := by
        have e3 : (kvs.map fun kv => kV kv.1) = (kvs.map (·.1)).map kV := by rw [List.map_map] <;> rfl
        rw [e3, List.getElem?_map, e1] <;> rfl
      rw [e2] at h1
      cases h1
      exact keyIs_rel hi
    · rw [Array.toArray_toList]
      exact IsTup.new _ _
end
/-! ### a walk over a list or a tuple -/
section
variable {X : Cx} {tg : Expr}
def SqA (K : PySem.W.Frag) (H : Hp) (a : Addr) (xs : List V) : Prop := SqL K H a xs ∨ SqT K H a xs
def iSeq (K : PySem.W.Frag) (tl : TE) : TI := fun σ H R => tl σ H fun x H1 => ∃ a, x = .ref a ∧ (((∃ xs, SqL K H1 a xs) ∧ R (Itl K a) H1) ∨ ((∃ xs, SqT K H1 a xs) ∧ R (Itt K a) H1))
theorem pi_seq {l : Expr} {tl : TE} (hl : PE X l tl) : PI X tg l (iSeq X.K tl) := by
  refine ⟨fun pins s σ H R I h => ?_⟩
  refine thn (hl.run pins s σ H _ I h) fun v s1 ⟨x, H1, I1, r1, q1⟩ => ?_
  obtain ⟨a, e, q⟩ := q1
  subst e
  cases r1
  rcases q with ⟨⟨xs, hq⟩, q⟩ | ⟨⟨xs, hq⟩, q⟩
  · obtain ⟨its, rv, p, hz⟩ := I1.list hq
    refine wpAny_pyIter_list p.isList ?_
    refine ⟨s1.heap.objs.size, [s1.heap.objs.size], _, _, H1, rfl, I1.kept (t' := s1.toks) fun b o e => Heap.get?_push_of_some _ e, turn_list a _, ⟨_, Heap.get?_push_size _ rfl, rfl, rfl⟩, fun b hb => ?_, q⟩
    have e : b = s1.heap.objs.size := by simpa using hb
    subst e
    exact I1.fpOk (Nat.le_refl _) (I1.hok.fresh (Nat.le_refl _))
  · obtain ⟨its, rv, p, hz⟩ := I1.tuple hq
    refine wpAny_pyIter_tuple (show s1.heap.IsTuple a its.toArray from p) ?_
    refine ⟨s1.heap.objs.size, [s1.heap.objs.size], _, _, H1, rfl, I1.kept (t' := s1.toks) fun b o e => Heap.get?_push_of_some _ e, turn_tuple a _, ⟨_, Heap.get?_push_size _ rfl, rfl, rfl⟩, fun b hb => ?_, q⟩
    have e : b = s1.heap.objs.size := by simpa using hb
    subst e
    exact I1.fpOk (Nat.le_refl _) (I1.hok.fresh (Nat.le_refl _))
end
/-! ### enumerate(tuple) -/
theorem meets_enumerate_newT (l : Addr) (items : Array Value) (n : Nat) (dct : Option Addr) (sl : Array (Option Value)) :
    Meets (Builtin.«enumerate.__new__» ⟨[.type "enumerate", .ref l], []⟩) (fun _ R s => s.heap.get? l = some { cls := .type "tuple", dict := dct, data := .seq items n, slots := sl } ∧
      R (.ok (.ret (.ref (s.heap.push { cls := .type "tuple_iterator", data := .fields #[.ref l, .int 0 0] }).objs.size)))
        { s with heap := (s.heap.push { cls := .type "tuple_iterator", data := .fields #[.ref l, .int 0 0] }).push { cls := .type "enumerate", data := .fields #[.none, .bool false, .ref s.heap.objs.size, rawInt 0, .none, .none] } }) :=
  .of_wp fun prog w A R s h => by
    obtain ⟨hp, g, d, tk, os⟩ := s; obtain ⟨hl, h⟩ := h
    have hsub := sub_enumerate
    have hL : Heap.IsTuple (Shared.heap ⟨hp, g, d, tk, os⟩) l items := ⟨_, hl, rfl, n, rfl⟩
    wp_walk using wpAny_loadPart' hl
    refine wpAny_stack_any fun st => wpAny_pure ?_
    split
    · rename_i c _ _ _ _ _
      cases (c == Value.type "enumerate")
      · wp_walk using wpAny_loadPart' hl, wpAny_pyIter_tuple hL
        exact ⟨_, rfl, h⟩
      · wp_walk using wpAny_loadPart' hl, wpAny_pyIter_tuple hL
        exact ⟨_, rfl, h⟩
    · wp_walk using wpAny_loadPart' hl, wpAny_pyIter_tuple hL
      exact ⟨_, rfl, h⟩
section
variable {prog : Program} {w : World} {A : Around} {E : Value → Shared → Prop} {s : Shared}
theorem call_enumerate_tup {l : Addr} {items : Array Value} {Q : Value → Shared → Prop} (hL : s.heap.IsTuple l items)
    (h : ∀ h', IsEnum h' (s.heap.objs.size + 1) s.heap.objs.size 0 .none → h'.IsTupleIter s.heap.objs.size l 0 → h'.objs.size = s.heap.objs.size + 2 →
      (∀ b o, s.heap.get? b = some o → h'.get? b = some o) → Q (.ref (s.heap.objs.size + 1)) { s with heap := h' }) :
    wpAny (model prog w) A (call (.type "enumerate") [.ref l]) Q E s := by
  obtain ⟨⟨c, dct, dt, sl⟩, hl, hc, n, hd⟩ := hL
  replace hc : c = .type "tuple" := hc
  replace hd : dt = .seq items n := hd
  subst hc hd
  refine callType_new F.called_enumerate (by decide) (F.typeCall_enumerate_1 _) (F.newCall_enumerate_1 _) (fun obj => F.args_object_init_2 obj _) F.entry_enumerate_new
    (meets_enumerate_newT l items n dct sl) ⟨hl, ?_⟩
  have hz : (s.heap.push { cls := .type "tuple_iterator", data := .fields #[.ref l, .int 0 0] }).objs.size = s.heap.objs.size + 1 := Heap.size_push ..
  show _ ∧ _
  rw [hz]
  have he : IsEnum ((s.heap.push { cls := .type "tuple_iterator", data := .fields #[.ref l, .int 0 0] }).push
      { cls := .type "enumerate", data := .fields #[.none, .bool false, .ref s.heap.objs.size, rawInt 0, .none, .none] }) (s.heap.objs.size + 1) s.heap.objs.size 0 .none := by
    have := Heap.get?_push_size (s.heap.push { cls := .type "tuple_iterator", data := .fields #[.ref l, .int 0 0] })
      (o := { cls := .type "enumerate", data := .fields #[.none, .bool false, .ref s.heap.objs.size, rawInt 0, .none, .none] }) rfl
    rw [hz] at this; exact this
  refine ⟨⟨_, he, rfl⟩, h _ he ⟨_, Heap.get?_push_of_some _ (Heap.get?_push_size _ rfl), rfl, rfl⟩ (by rw [Heap.size_push, hz]) fun b o x => Heap.get?_push_of_some _ (Heap.get?_push_of_some _ x)⟩
end
def Itet (K : PySem.W.Frag) (a : Addr) : It :=
  ⟨fun i H => ∃ (xs : List V) (x : V), SqT K H a xs ∧ xs[i]? = some x, fun i H v H' => ∃ T x, v = .ref T ∧ H T = none ∧ H' = upd H T (.tup [.int (i : Nat), x]) ∧ ∀ xs, SqT K H a xs → xs[i]? = some x, fun i H => ∃ xs : List V, SqT K H a xs ∧ xs.length = i⟩
theorem turn_enumT {P : Program} {w : World} {K : PySem.W.Frag} {elts : List Expr} {kk : Nat} {tpos : Pos} (a e it : Addr) :
    Turn P w K (.Tuple elts kk tpos) (Itet K a) [e, it] e (fun i h => (∃ old, IsEnum h e it ((i : Nat) : Int) old) ∧ h.IsTupleIter it a i ∧ e ≠ it ∧ a ≠ it ∧ a ≠ e) where
  mem := by simp
  obj := fun i h st b hb => by
    obtain ⟨⟨old, he⟩, ⟨o, ho, hc, hd⟩, _⟩ := st
    have e' : b = e ∨ b = it := by simpa using hb
    rcases e' with z | z
    · rw [z]; exact ⟨_, he, fun v q => nomatch q⟩
    · rw [z]; exact ⟨o, ho, fun v q => by rw [hd] at q; cases q⟩
  keep := fun i h h' st k => let ⟨⟨old, he⟩, hi, hne⟩ := st; ⟨⟨old, k e (by simp) _ he⟩, hi.at fun o q => k it (by simp) o q, hne⟩
  item := by
    intro X hP hw hK hc i pins s σ H E I hf st hg
    subst hP hw hK
    obtain ⟨⟨old, he⟩, hit, hne, hai, hae⟩ := st
    obtain ⟨xs, x, hq, hx⟩ := hg
    obtain ⟨its, rv, p, hz⟩ := I.tuple hq
    obtain ⟨u, hu, ru⟩ := rv.get hx
    have hel : e < s.heap.objs.size := Heap.lt_size he
    have hil : it < s.heap.objs.size := by obtain ⟨_, q, _⟩ := hit; exact Heap.lt_size q
    have hlt : i < its.toArray.size := by
      have := (List.getElem?_eq_some_iff.mp hu).1
      simpa using this
    refine wpAny_pyNext_enum_itemD (Draws.tuple (A := X.A.in1) (I.ok.hd hc) it a hai its.toArray) he ⟨hit, show s.heap.IsTuple a its.toArray from p⟩ hlt hne (by simp; exact ⟨hne, Ne.symm hae⟩) fun x' h' tk hx' ho hit' hT hsz hk => ?_
    have ex' : x' = u := by
      have h1 : its.toArray[i]? = some x' := hx'
      have h2 : its.toArray[i]? = some u := by simpa using hu
      rw [h1] at h2
      exact Option.some.inj h2
    subst ex'
    refine ⟨_, rfl, wpAny_letOwnedTupleGo_enum (s := { s with heap := h', toks := tk + 1 }) ho fun h'' he' sb => ?_⟩
    have hT2 : h''.get? s.heap.objs.size = some { cls := .type "tuple", data := .seq #[.int i tk, x'] } := (sb.2 _ (Nat.ne_of_gt hel)).trans hT
    have new : ObjOk X.prog X.w (upd H s.heap.objs.size (.tup [.int (i : Nat), x])) h'' s.heap.objs.size (.tup [.int (i : Nat), x]) :=
      ⟨by show 2 ≤ sizeLine; decide, [.int i tk, x'], .cons ⟨_, rfl⟩ (.cons ru .nil), ⟨_, hT2, rfl, _, rfl⟩⟩
    have I1 : Inv X pins σ (upd H s.heap.objs.size (.tup [.int (i : Nat), x])) { s with heap := h'', toks := tk + 1 } :=
      I.turnedNew (ch := [e, it]) (fun b ob hb q => (sb.2 b (fun z => hb (by simp [z]))).trans (hk b ob (fun z => hb (by simp [z])) (fun z => hb (by simp [z])) q)) hf (Nat.le_refl _) new
    refine ⟨.ref s.heap.objs.size, _, I1, rfl, ⟨_, x, rfl, I.hok.fresh (Nat.le_refl _), rfl, fun ys hy => by rw [I.tuple_inj hy hq]; exact hx⟩, ⟨⟨x', ?_⟩, hit'.1.at fun o q => (sb.2 it (Ne.symm hne)).trans q, hne, hai, hae⟩, fun b hb => ?_⟩
    · have e1 : ((i + 1 : Nat) : Int) = (i : Int) + 1 := by omega
      rw [e1]; exact he'
    · have hb' : b < s.heap.objs.size := by
        have e' : b = e ∨ b = it := by simpa using hb
        rcases e' with z | z
        · rw [z]; exact hel
        · rw [z]; exact hil
      rw [upd_ne (Nat.ne_of_lt hb')]
      exact (hf b hb).1
  done := by
    intro X hP hw hK hc i pins s σ H E I hf st hg
    subst hP hw hK
    obtain ⟨⟨old, he⟩, hit, hne, hai, hae⟩ := st
    obtain ⟨xs, hq, hx⟩ := hg
    obtain ⟨its, rv, p, hz⟩ := I.tuple hq
    obtain ⟨f0, f1, f2, f3, f4, f5⟩ := hf it (by simp)
    have hl := rv.length
    have en : i = its.toArray.size := by simp; omega
    subst en
    exact wpAny_pyNext_enum_endD (Draws.tuple (A := X.A.in1) (I.ok.hd hc) it a hai its.toArray) he ⟨hit, show s.heap.IsTuple a its.toArray from p⟩ fun h' eb => ⟨rfl, I.turned (t' := s.toks) (fun b o hb q => eb b o hb q) f0 f1 f3 f4 f5⟩
  self := fun A i s Q E st h => let ⟨⟨_, he⟩, _⟩ := st; wpAny_pyIter_enum he h
def iEnumT (K : PySem.W.Frag) (ta : TA) : TI := fun σ H R => ta σ H fun vs H1 => ∃ a xs, vs = [.ref a] ∧ SqT K H1 a xs ∧ R (Itet K a) H1
theorem pi_enumT {X : Cx} {e : Expr} {ta : TA} {p pos tpos : Pos} {elts : List Expr} {kk : Nat} (hg : Gl X "enumerate") (hm : X.mg "enumerate" = none) (ha : PA X [e] ta) (hs : starEach [e] X.env = [(false, eval e X.env)] := by rfl) :
    PI X (.Tuple elts kk tpos) (.Call (.Name "enumerate" p) [e] [] pos) (iEnumT X.K ta) := by
  refine ⟨fun pins s σ H R I h => ?_⟩
  refine Call_ (ld_blt I hg hm boot_enumerate (PyProof.Rows.callWith_type1 (thn (ha.run pos pins s σ H _ I h) fun us s1 ⟨vs, H1, I1, r1, q1⟩ => ?_) hs rfl))
  obtain ⟨a, xs, ex, hq, q⟩ := q1
  subst ex
  cases r1 with
  | cons r rr =>
    cases rr
    cases r
    obtain ⟨its, rv, p', hz⟩ := I1.tuple hq
    have hL : s1.heap.IsTuple a its.toArray := p'
    have hal : a < s1.heap.objs.size := by obtain ⟨o, ho, _⟩ := hL; exact Heap.lt_size ho
    refine call_enumerate_tup hL fun h' he hit hsz hk => wpAny_pyIter_enum he ?_
    have I2 : Inv X pins σ H1 { s1 with heap := h' } := I1.kept (t' := s1.toks) hk
    refine ⟨s1.heap.objs.size + 1, [s1.heap.objs.size + 1, s1.heap.objs.size], _, _, H1, rfl, I2, turn_enumT a (s1.heap.objs.size + 1) s1.heap.objs.size, ⟨⟨.none, he⟩, hit, Nat.succ_ne_self _, Nat.ne_of_lt hal, Nat.ne_of_lt (Nat.lt_succ_of_lt hal)⟩, fun b hb => ?_, q⟩
    have e' : b = s1.heap.objs.size + 1 ∨ b = s1.heap.objs.size := by simpa using hb
    have hle : s1.heap.objs.size ≤ b := by
      rcases e' with z | z
      · rw [z]; exact Nat.le_succ _
      · rw [z]; exact Nat.le_refl _
    exact I1.fpOk hle (I1.hok.fresh hle)
theorem walk_enumT {K : PySem.W.Frag} {a : Addr} {xs : List V} : Walk (Itet K a) xs.length (fun H => SqT K H a xs) (YPair (fun i => some (.int (i : Nat))) (fun i => xs[i]?)) := by
  refine ⟨fun i _ hi q => ⟨xs, xs[i], q, by simp [hi]⟩, fun _ q => ⟨xs, q, rfl⟩, fun i H v H' _ q y => ?_⟩
  obtain ⟨T, x, h1, h2, h3, h4⟩ := y
  exact ⟨T, .int (i : Nat), x, h1, h2, h3, rfl, h4 xs q⟩
end Cb
namespace Cb
open PySem PySem.Spec PyProof.Rows L2
theorem hu_of {k : Nat} {A : Around} (r : Room k A) : A.units + 1 < cLine := by have := r.units; omega
/-! ### more relations, by name -/
section
variable {X : Cx}
def rStrI : List V → Hp → VK → Prop := fun xs H Q => ∃ i : Int, xs = [.int i] ∧ i.natAbs.log2 < 1920 ∧ Q (.str (toString i)) H
theorem call_strI : CallR X (.type "str") rStrI := call_str_int
def rLenDi : List V → Hp → VK → Prop := fun xs H Q => ∃ a kvs, xs = [V.ref a] ∧ H a = some (.dK kvs) ∧ Q (.int (kvs.length : Nat)) H
theorem call_lenDi : CallR X (.builtin "len") rLenDi := call_lenD
def rLenSt : List V → Hp → VK → Prop := fun xs H Q => ∃ z : Str, xs = [.str z] ∧ z.length ≤ sizeLine ∧ Q (.int (z.length : Nat)) H
theorem call_lenSt : CallR X (.builtin "len") rLenSt := call_len_str
def rIntS : List V → Hp → VK → Prop := fun xs H Q => ∃ a n, xs = [.str a] ∧ PySem.intText? a = some n ∧ a.length ≤ 640 ∧ Q (.int n) H
theorem call_intS : CallR X (.type "int") rIntS := call_int_str
def rAddS : R2 := fun x y H Q => ∃ i j, x = .str i ∧ y = .str j ∧ i.length + j.length ≤ sizeLine ∧ Q (.str (i ++ j)) H
theorem op_addS : OpR X (binaryOp .Add) rAddS := op_add_str
def rInSg : R2 := fun x y H Q => ∃ (c : Nat) (z : Str), x = .str ⟨#[c]⟩ ∧ y = .str z ∧ Q (.bl (decide (c ∈ z.cps.toList))) H
theorem op_inSg : OpR X (compareOp .In) rInSg := op_in_sign
def rNiSg : R2 := fun x y H Q => ∃ (c : Nat) (z : Str), x = .str ⟨#[c]⟩ ∧ y = .str z ∧ Q (.bl (!decide (c ∈ z.cps.toList))) H
theorem op_niSg : OpR X (compareOp .NotIn) rNiSg := op_notIn_sign
def rIsNn : R2 := fun x y H Q => y = .non ∧ Q (.bl (decide (x = .non))) H
theorem op_isNn : OpR X (compareOp .Is) rIsNn := op_isN
def rNoNn : R2 := fun x y H Q => y = .non ∧ Q (.bl (!decide (x = .non))) H
theorem op_noNn : OpR X (compareOp .IsNot) rNoNn := op_notN
def rMaxTwo : List V → Hp → VK → Prop := fun xs H Q => ∃ i j : Int, xs = [.int i, .int j] ∧ Q (.int (if j > i then j else i)) H
theorem call_maxTwo (hc : X.calm = true) : CallR X (.builtin "max") rMaxTwo := call_max2 hc
def rMinTwo : List V → Hp → VK → Prop := fun xs H Q => ∃ i j : Int, xs = [.int i, .int j] ∧ Q (.int (if j < i then j else i)) H
theorem call_minTwo (hc : X.calm = true) : CallR X (.builtin "min") rMinTwo := call_min2 hc
def rSplit : V → List V → Hp → VK → Prop := fun x xs H Q => ∃ a b, x = .str a ∧ xs = [.str b] ∧ (b.length == 0) = false ∧ a.length + 2 ≤ sizeLine ∧ rNewStrs (Txt.split a b) H Q
theorem pe_splitR {o e : Expr} {to te : TE} {apos pos : Pos} (ho : PE X o to) (he : PE X e te) (hs : starEach [e] X.env = [(false, eval e X.env)] := by rfl) (hbase : attributeBase o "split" X.env (eval o X.env) = eval o X.env := by rfl) (hline : (apos.endLine == pos.line) = true := by rfl) :
    PE X (.Call (.Attribute o "split" apos) [e] [] pos) (tM1 rSplit to te) := pe_split ho he hs hbase hline
def rInsert : V → List V → Hp → VK → Prop := fun x vs H Q => ∃ (l : Addr) (xs : List V) (i : Int) (y : V), x = .ref l ∧ vs = [.int i, y] ∧ H l = some (.lst xs) ∧ xs.length < sizeLine ∧ 0 ≤ i ∧ i < 2 ^ 63 ∧
  Q .non (upd H l (.lst (xs.take i.toNat ++ y :: xs.drop i.toNat)))
theorem mt_insertR {X : Cx} : MtR X "list.insert" rInsert := fun pins s σ H x xs v us Q I rx rxs h => mt_insert pins s σ H x xs v us Q I rx rxs (by
  obtain ⟨l, ys, i, y, h1, h2, h3, h4, h5, h6, h7⟩ := h
  exact ⟨l, ys, i, y, h1, h2, h3, h4, h5, h6, by rw [List.append_assoc]; exact h7⟩)
end
section
variable {σ : L2.St} {H : Hp} {Q : VK} {D : Ends} {te ta tb tc td ty tx tk tv to : TE} {t u : TS} {tt : TT} {tr : TA} {v y z : V} {i j : Int} {K : PySem.W.Frag}
theorem x_strN {n : Nat} (h : n < 9223372036854775808) (q : Q (.str (SX.S (TL.numL n))) H) : rStrI [.int (n : Nat)] H Q := by
  refine ⟨(n : Nat), rfl, ?_, ?_⟩
  · show ((n : Int).natAbs).log2 < 1920
    rw [Int.natAbs_natCast]
    rcases Nat.eq_zero_or_pos n with e | e
    · subst e; decide
    · exact Nat.lt_of_lt_of_le ((Nat.log2_lt (k := 63) (by omega)).mpr h) (by decide)
  · have e : (toString ((n : Nat) : Int) : Str) = SX.S (TL.numL n) := SX.num_S n
    rw [e]
    exact q
theorem x_lenDi {a : Addr} {kvs : List (Key × V)} (e : H a = some (.dK kvs)) (h : Q (.int (kvs.length : Nat)) H) : rLenDi [.ref a] H Q := ⟨a, kvs, rfl, e, h⟩
theorem x_lenSt {z : Str} (l : z.length ≤ sizeLine) (h : Q (.int (z.length : Nat)) H) : rLenSt [.str z] H Q := ⟨z, rfl, l, h⟩
theorem x_intS {a : Str} {n : Int} (e : PySem.intText? a = some n) (l : a.length ≤ 640) (h : Q (.int n) H) : rIntS [.str a] H Q := ⟨a, n, rfl, e, l, h⟩
theorem x_addS {a b : Str} (l : a.length + b.length ≤ sizeLine) (h : Q (.str (a ++ b)) H) : rAddS (.str a) (.str b) H Q := ⟨a, b, rfl, rfl, l, h⟩
theorem x_inSg {c : Nat} {z : Str} (h : Q (.bl (decide (c ∈ z.cps.toList))) H) : rInSg (.str ⟨#[c]⟩) (.str z) H Q := ⟨c, z, rfl, rfl, h⟩
theorem x_niSg {c : Nat} {z : Str} (h : Q (.bl (!decide (c ∈ z.cps.toList))) H) : rNiSg (.str ⟨#[c]⟩) (.str z) H Q := ⟨c, z, rfl, rfl, h⟩
theorem x_isNn (h : Q (.bl (decide (v = .non))) H) : rIsNn v .non H Q := ⟨rfl, h⟩
theorem x_noNn (h : Q (.bl (!decide (v = .non))) H) : rNoNn v .non H Q := ⟨rfl, h⟩
theorem x_dictOf {a : Addr} {kvs : List (Key × V)} (e : H a = some (.dK kvs)) (h : ∀ p, H p = none → Q (.ref p) (upd H p (.dK kvs))) : rDictOf [.ref a] H Q := ⟨a, kvs, rfl, .inl e, h⟩
theorem x_maxTwo (h : Q (.int (if j > i then j else i)) H) : rMaxTwo [.int i, .int j] H Q := ⟨i, j, rfl, h⟩
theorem x_minTwo (h : Q (.int (if j < i then j else i)) H) : rMinTwo [.int i, .int j] H Q := ⟨i, j, rfl, h⟩
theorem x_gcd (h : Q (.int ((Nat.gcd i.natAbs j.natAbs : Nat) : Int)) H) : rGcd [.int i, .int j] H Q := ⟨i, j, rfl, h⟩
theorem x_tupL {p : Addr} {xs : List V} (s : SqL K H p xs) (h : ∀ q, H q = none → Q (.ref q) (upd H q (.tup xs))) : rTupOf K [.ref p] H Q := ⟨p, rfl, .inl ⟨xs, s, h⟩⟩
theorem x_tupT {p : Addr} {xs : List V} (s : SqT K H p xs) (h : Q (.ref p) H) : rTupOf K [.ref p] H Q := ⟨p, rfl, .inr (.inl ⟨xs, s, h⟩)⟩
theorem x_tupD {p : Addr} {kvs : List (Key × V)} (e : H p = some (.dK kvs)) (h : ∀ q, H q = none → Q (.ref q) (upd H q (.tup (kvs.map fun kv => kV kv.1)))) : rTupOf K [.ref p] H Q := ⟨p, rfl, .inr (.inr ⟨kvs, e, h⟩)⟩
theorem x_listT {p : Addr} {xs : List V} (s : SqT K H p xs) (h : ∀ l, H l = none → Q (.ref l) (upd H l (.lst xs))) : rListS K [.ref p] H Q := ⟨p, xs, rfl, .inr s, h⟩
theorem x_vals {d : Addr} {kvs : List (Key × V)} (e : H d = some (.dK kvs)) (h : ∀ p, H p = none → Q (.ref p) (upd H p (.lst (kvs.map (·.2))))) : rVals (.ref d) H Q := ⟨d, kvs, rfl, e, h⟩
theorem x_listVals (h : te σ H fun x H1 => rVals x H1 Q) : tListVals te σ H Q := h
theorem x_all {a : Addr} {bs : List Bool} (s : SqL K H a (bs.map V.bl)) (h : Q (.bl (bs.all id)) H) : rAll K [.ref a] H Q := ⟨a, bs, rfl, s, h⟩
theorem x_max {a : Addr} {ns : List Int} (s : SqL K H a (ns.map V.int)) (l : 0 < ns.length) (h : ∀ m, m ∈ ns → (∀ y, y ∈ ns → y ≤ m) → Q (.int m) H) : rMax K [.ref a] H Q := ⟨a, ns, rfl, s, l, h⟩
theorem x_cat {p q : Addr} {xs ys : List V} (e1 : H p = some (.lst xs)) (e2 : H q = some (.lst ys)) (l : xs.length + ys.length ≤ sizeLine) (h : ∀ r, H r = none → Q (.ref r) (upd H r (.lst (xs ++ ys)))) : rCat (.ref p) (.ref q) H Q := ⟨p, q, xs, ys, rfl, rfl, e1, e2, l, h⟩
theorem x_rep {p : Addr} {xs : List V} (e1 : H p = some (.lst xs)) (h1 : -(2 ^ 63) ≤ i) (h2 : i < 2 ^ 63) (l : xs.length * i.toNat ≤ sizeLine) (h : ∀ r, H r = none → Q (.ref r) (upd H r (.lst (List.replicate i.toNat xs).flatten))) : rRep (.ref p) (.int i) H Q := ⟨p, i, xs, rfl, rfl, e1, h1, h2, l, h⟩
theorem x_popAt {p : Addr} {xs : List V} {k : Nat} {y : V} (e1 : H p = some (.lst xs)) (hk : xs[k]? = some y) (hl : xs.length < 4611686018427387904) (h : Q y (upd H p (.lst (xs.eraseIdx k)))) : rPopAt (.ref p) [.int (k : Nat)] H Q := by
  have hkl : k < xs.length := (List.getElem?_eq_some_iff.mp hk).1
  refine ⟨p, xs, (k : Nat), k, y, rfl, rfl, e1, by omega, by omega, ?_, hk, h⟩
  unfold seqIndex?
  have h0 : ¬ ((k : Nat) : Int) < 0 := by omega
  simp only [if_neg h0]
  have h1 : (decide ((0 : Int) ≤ (k : Nat)) && decide (((k : Nat) : Int) < (xs.length : Nat))) = true := by
    rw [decide_eq_true (by omega), decide_eq_true (by omega)]
    rfl
  rw [if_pos h1]
  rfl
theorem x_insert {p : Addr} {xs : List V} {k : Nat} {y : V} (e1 : H p = some (.lst xs)) (hl : xs.length < sizeLine) (hk : k < 4611686018427387904) (h : Q .non (upd H p (.lst (xs.take k ++ y :: xs.drop k)))) : rInsert (.ref p) [.int (k : Nat), y] H Q := ⟨p, xs, (k : Nat), y, rfl, rfl, e1, hl, by omega, by omega, by rw [Int.toNat_natCast]; exact h⟩
theorem x_index {p : Addr} {xs : List V} {k : Nat} {y z : V} (s : SqL K H p xs) (fy : flatV y = true) (fx : xs.all flatV = true) (hk : xs[k]? = some z) (he : eqV z y = true) (hn : ∀ (m : Nat) (z' : V), m < k → xs[m]? = some z' → eqV z' y = false) (h : Q (.int (k : Nat)) H) : rIndex K (.ref p) [y] H Q := ⟨p, xs, y, k, z, rfl, rfl, s, fy, fx, hk, he, hn, h⟩
theorem x_indexF {p : Addr} {xs : List V} {k i : Nat} {y z : V} (s : SqL K H p xs) (fy : flatV y = true) (fx : xs.all flatV = true) (hik : i ≤ k) (hk : xs[k]? = some z) (he : eqV z y = true) (hn : ∀ (m : Nat) (z' : V), i ≤ m → m < k → xs[m]? = some z' → eqV z' y = false) (h : Q (.int (k : Nat)) H) : rIndexFrom K (.ref p) [y, .int (i : Nat)] H Q := ⟨p, xs, y, i, k, z, rfl, rfl, s, fy, fx, hik, hk, he, hn, h⟩
/-! #### dicts -/
def rDGet (x y : V) (H : Hp) (Q : VK) : Prop := ∃ a v, x = .ref a ∧ DGet H a y (some v) ∧ Q v H
def rDIn (y x : V) (H : Hp) (Q : VK) : Prop := ∃ a o, x = .ref a ∧ DGet H a y o ∧ Q (.bl o.isSome) H
def rDNi (y x : V) (H : Hp) (Q : VK) : Prop := ∃ a o, x = .ref a ∧ DGet H a y o ∧ Q (.bl (!o.isSome)) H
theorem x_dget (h : td σ H fun x H1 => ty σ H1 fun y H2 => rDGet x y H2 Q) : tDGet td ty σ H Q := h
theorem x_din (h : ty σ H fun y H1 => td σ H1 fun x H2 => rDIn y x H2 Q) : tDIn ty td σ H Q := h
theorem x_dni (h : ty σ H fun y H1 => td σ H1 fun x H2 => rDNi y x H2 Q) : tDNotIn ty td σ H Q := h
theorem x_dgetS {a : Addr} {kvs : List (Key × V)} {s : Str} (e : Rd H a (.dK kvs)) (g : valV kvs (.inr s) = some v) (h : Q v H) : rDGet (.ref a) (.str s) H Q := ⟨a, v, rfl, .inl ⟨kvs, .inr s, e, rfl, g.symm⟩, h⟩
theorem x_dinS {a : Addr} {kvs : List (Key × V)} {s : Str} {o : Option V} (e : Rd H a (.dK kvs)) (g : valV kvs (.inr s) = o) (h : Q (.bl o.isSome) H) : rDIn (.str s) (.ref a) H Q := ⟨a, o, rfl, .inl ⟨kvs, .inr s, e, rfl, g.symm⟩, h⟩
theorem x_dniS {a : Addr} {kvs : List (Key × V)} {s : Str} {o : Option V} (e : Rd H a (.dK kvs)) (g : valV kvs (.inr s) = o) (h : Q (.bl (!o.isSome)) H) : rDNi (.str s) (.ref a) H Q := ⟨a, o, rfl, .inl ⟨kvs, .inr s, e, rfl, g.symm⟩, h⟩
def rDPut (D : Ends) (σ : L2.St) (v x y : V) (H : Hp) : Prop := ∃ a H4, x = .ref a ∧ DPut H a y v H4 ∧ D.nx σ H4
theorem x_dput (h : tv σ H fun v H1 => td σ H1 fun x H2 => ty σ H2 fun y H3 => rDPut D σ v x y H3) : sDPut td ty tv D σ H := h
theorem x_dputS {a : Addr} {kvs : List (Key × V)} {s : Str} (e : H a = some (.dK kvs)) (l : kvs.length < sizeLine) (h : D.nx σ (upd H a (.dK (putK kvs (.inr s) v)))) : rDPut D σ v (.ref a) (.str s) H := ⟨a, _, rfl, DPut.k (k := .inr s) e l, h⟩
theorem x_dnew (h : ∀ p, H p = none → Q (.ref p) (upd H p (.dK []))) : tDNewK σ H Q := h
def rDG3 (a : Addr) (y z : V) (H : Hp) (Q : VK) : Prop := ∃ o : Option V, DGet H a y o ∧ Q (o.getD z) H
def rDG2 (ty tx : TE) (σ : L2.St) (x : V) (H : Hp) (Q : VK) : Prop := ∃ a, x = .ref a ∧ IsD H a ∧ ty σ H fun y H2 => tx σ H2 fun z H3 => rDG3 a y z H3 Q
theorem x_dget2 (h : td σ H fun x H1 => rDG2 ty tx σ x H1 Q) : tDGet2 td ty tx σ H Q := h
theorem x_dg2 {a : Addr} {kvs : List (Key × V)} (e : Rd H a (.dK kvs)) (h : ty σ H fun y H2 => tx σ H2 fun z H3 => rDG3 a y z H3 Q) : rDG2 ty tx σ (.ref a) H Q := ⟨a, rfl, .inl ⟨kvs, e⟩, h⟩
theorem x_dg2S {a : Addr} {kvs : List (Key × V)} {s : Str} {d : V} (e : Rd H a (.dK kvs)) (h : Q ((valV kvs (.inr s)).getD d) H) : rDG3 a (.str s) d H Q := ⟨_, .inl ⟨kvs, .inr s, e, rfl, rfl⟩, h⟩
theorem x_iteS {α : Type} {x : α} {A B : Prop} (h : A) : if (some x).isSome = true then A else B := iteT h
theorem x_iteO {α : Type} {A B : Prop} (h : B) : if (none : Option α).isSome = true then A else B := iteF h
theorem x_iteNS {α : Type} {x : α} {A B : Prop} (h : B) : if (!(some x).isSome) = true then A else B := iteF h
theorem x_iteNO {α : Type} {A B : Prop} (h : A) : if (!(none : Option α).isSome) = true then A else B := iteT h
/-! #### instances -/
def rFld (K : PySem.W.Frag) (f : Str) (x : V) (H : Hp) (Q : VK) : Prop := ∃ a C dx fs v, x = .ref a ∧ H a = some (.ins C dx fs) ∧ Cls K C ∧ NoAttr K C f ∧ fs.lookup f = some v ∧ Q v H
theorem x_fldR {f : Str} (h : ta σ H fun x H1 => rFld K f x H1 Q) : tFld K ta f σ H Q := h
theorem x_fldI {f : Str} {a C dx : Addr} {fs : List (Str × V)} (e : H a = some (.ins C dx fs)) (c : Cls K C) (n : NoAttr K C f) (l : fs.lookup f = some v) (h : Q v H) : rFld K f (.ref a) H Q := ⟨a, C, dx, fs, v, rfl, e, c, n, l, h⟩
def rSFld (K : PySem.W.Frag) (f : Str) (D : Ends) (σ : L2.St) (y x : V) (H : Hp) : Prop := ∃ a C dx fs, x = .ref a ∧ H a = some (.ins C dx fs) ∧ Cls K C ∧ NoAttr K C f ∧ fs.length < 1000 ∧ D.nx σ (upd H a (.ins C dx (putF f y fs)))
theorem x_sfld {f : Str} (h : tv σ H fun y H1 => ta σ H1 fun x H2 => rSFld K f D σ y x H2) : sFld K ta tv f D σ H := h
theorem x_sfldI {f : Str} {a C dx : Addr} {fs fs' : List (Str × V)} (e : H a = some (.ins C dx fs)) (c : Cls K C) (n : NoAttr K C f) (p : putF f y fs = fs') (l : fs.length < 1000) (h : D.nx σ (upd H a (.ins C dx fs'))) : rSFld K f D σ y (.ref a) H := ⟨a, C, dx, fs, rfl, e, c, n, l, by rw [p]; exact h⟩
def rMeth (C : Addr) (m : Str) (sp : Sp) (dvs : List V) (E : XK) (t : TA) (σ : L2.St) (x : V) (H : Hp) (Q : VK) : Prop := ∃ a dx fs, x = .ref a ∧ H a = some (.ins C dx fs) ∧ fs.lookup m = none ∧ t σ H fun vs H2 => sp (x :: (vs ++ dvs)) H2 Q E
theorem x_meth {C : Addr} {m : Str} {sp : Sp} {dvs : List V} {E : XK} (h : ta σ H fun x H1 => rMeth C m sp dvs E tr σ x H1 Q) : tMeth C m sp dvs E ta tr σ H Q := h
theorem x_methI {C a dx : Addr} {m : Str} {sp : Sp} {dvs : List V} {E : XK} {fs : List (Str × V)} (e : H a = some (.ins C dx fs)) (l : fs.lookup m = none) (h : tr σ H fun vs H2 => sp (.ref a :: (vs ++ dvs)) H2 Q E) : rMeth C m sp dvs E tr σ (.ref a) H Q := ⟨a, dx, fs, rfl, e, l, h⟩
theorem x_make {C : Addr} {sp : Sp} {dvs : List V} {E : XK} (h : tr σ H fun vs H1 => ∀ x dx, H1 x = none → H1 dx = none → dx ≠ x → sp (.ref x :: (vs ++ dvs)) (upd (upd H1 dx (.own x)) x (.ins C dx [])) (fun v H2 => v = .non ∧ Q (.ref x) H2) E) : tMake C sp dvs E tr σ H Q := h
/-! #### the same rules, K told: within a comprehension -/
theorem pe_fldK {X : Cx} {K : PySem.W.Frag} {e : Expr} {f : Str} {pos : Pos} {ta : TE} (hK : X.K = K) (he : PE X e ta) (hb : attributeBase e f X.env (eval e X.env) = eval e X.env) : PE X (.Attribute e f pos) (tFld K ta f) := by
  subst hK
  exact pe_fld he hb
theorem ix_listK {X : Cx} {K : PySem.W.Frag} (hK : X.K = K) : IxR X (rIxL K) := by
  subst hK
  exact ix_list
theorem ix_tupK {X : Cx} {K : PySem.W.Frag} (hK : X.K = K) : IxR X (rIxT K) := by
  subst hK
  exact ix_tup
theorem callLenSK {X : Cx} {K : PySem.W.Frag} (hK : X.K = K) : CallR X (.builtin "len") (rLenS K) := by
  subst hK
  exact callLenS
theorem op_inSeqK {X : Cx} {K : PySem.W.Frag} (hK : X.K = K) : OpR X (compareOp .In) (rIn K false) := by
  subst hK
  exact op_in_seq
theorem op_niSeqK {X : Cx} {K : PySem.W.Frag} (hK : X.K = K) : OpR X (compareOp .NotIn) (rIn K true) := by
  subst hK
  exact op_notIn_seq
theorem call_isiKK {X : Cx} {K : PySem.W.Frag} (hK : X.K = K) : CallR X (.builtin "isinstance") (rIsi K) := by
  subst hK
  exact call_isi
/-! #### targets -/
theorem x_gtup {a : Addr} {xs : List V} {n : Nat} {ts : TGs} {R : L2.St → Hp → Prop} (s : SqT K H a xs) (l : xs.length = n) (h : ts xs σ H R) : gTup K n ts (.ref a) σ H R := ⟨a, xs, rfl, s, l, h⟩
theorem x_gunl {a : Addr} {xs : List V} {n : Nat} {ts : TGs} {R : L2.St → Hp → Prop} (s : SqL K H a xs) (l : xs.length = n) (h : ts xs σ H R) : gUnl K n ts (.ref a) σ H R := ⟨a, xs, rfl, s, l, h⟩
theorem x_gcons {tg : TG} {ts : TGs} {r : List V} {R : L2.St → Hp → Prop} (h : tg v σ H fun σ' H' => ts r σ' H' R) : gCons tg ts (v :: r) σ H R := ⟨v, r, rfl, h⟩
theorem x_gnil {R : L2.St → Hp → Prop} (h : R σ H) : gNil [] σ H R := ⟨rfl, h⟩
/-! #### a text's methods -/
def rStrM (r : V → List V → Hp → VK → Prop) (x : V) (xs : List V) (H : Hp) (Q : VK) : Prop := r x xs H Q
theorem x_split {a b : Str} (hb : (b.length == 0) = false) (hl : a.length + 2 ≤ sizeLine) (h : ∀ p, H p = none → Q (.ref p) (upd H p (.lst ((Txt.split a b).map V.str)))) : rSplit (.str a) [.str b] H Q := ⟨a, b, rfl, rfl, hb, hl, h⟩
theorem x_tM1 {r : V → List V → Hp → VK → Prop} (h : to σ H fun x H1 => (∃ a, x = .str a) ∧ te σ H1 fun y H2 => r x [y] H2 Q) : tM1 r to te σ H Q := h
theorem x_isS {z : Str} {R : Prop} (h : R) : (∃ a, V.str z = .str a) ∧ R := ⟨⟨z, rfl⟩, h⟩
end
/-! ### texts: a sign, a part, sign by sign -/
section
variable {σ : L2.St} {H : Hp} {Q : VK} {tx te : TE} {tt : TT} {g : TG} {vs : List Nat} {i : Int}
theorem x_ixS {l : List Nat} {c : Nat} (hl : l.length ≤ sizeLine) (a : atI l i = some c) (h : Q (.str ⟨#[c]⟩) H) : rIxS (.str (SX.S l)) (.int i) H Q := ⟨SX.S l, i, c, rfl, rfl, by rw [SX.S_len]; exact hl, a, h⟩
theorem x_slS {z : Str} {lo hi : Option Int} (l : z.length ≤ sizeLine) (h : Q (.str (Txt.slice z lo hi)) H) : rSlS (.str z) lo hi H Q := ⟨z, rfl, l, by rw [C8.cutS_slice]; exact h⟩
def rLcStr (g : TG) (tt : TT) (te : TE) (vs : List Nat) (σ : L2.St) (x : V) (H : Hp) (Q : VK) : Prop := ∃ z, x = .str z ∧ ∀ p, H p = none → ∃ W : Nat → Nat → Hp → Prop, (∃ m, W 0 m (upd H p (.lst []))) ∧ ∀ k l H, W k l H → ((Its z).stop k H ∧ Q (.ref p) H) ∨ ((Its z).go k H ∧ ∃ Nx : Hp → Prop, (∀ H', Nx H' → ∃ m', m' < l ∧ W (k + 1) m' H') ∧ ∀ x H', (Its z).yld k H x H' → g x (wipe σ vs) H' fun σ2 H2 => wipe σ2 vs = wipe σ vs ∧ tt σ2 H2 fun b H3 => if b = true then te σ2 H3 fun y H4 => ∃ acc, H4 p = some (.lst acc) ∧ acc.length < sizeLine ∧ Nx (upd H4 p (.lst (acc ++ [y]))) else Nx H3)
theorem x_lcStr (h : tx σ H fun x H1 => rLcStr g tt te vs σ x H1 Q) : tLc (iStr tx) g tt te vs σ H Q := h
theorem w_lcStr {l : List Nat} (hz : l.length < sizeLine) (Iv : Nat → List V → Prop) (I0 : Iv 0 [])
    (turn : ∀ i c H' acc, l[i]? = some c → Same H H' → Iv i acc → acc.length ≤ i → ∀ (R : VK) (S : Hp → Prop), (∀ y H4, Same H' H4 → Iv (i + 1) (acc ++ [y]) → R y H4) → (∀ H3, Same H' H3 → Iv (i + 1) acc → S H3) →
      g (.str ⟨#[c]⟩) (wipe σ vs) H' fun σ2 H2 => wipe σ2 vs = wipe σ vs ∧ tt σ2 H2 fun b H3 => if b = true then te σ2 H3 R else S H3)
    (done : ∀ p H' acc, H p = none → Same H H' → H' p = some (.lst acc) → Iv l.length acc → Q (.ref p) H') : rLcStr g tt te vs σ (.str (SX.S l)) H Q := by
  refine ⟨SX.S l, rfl, fun p hp => ?_⟩
  have hs : (SX.S l).cps.size = l.length := by simp [SX.S]
  refine lc_it walk_str (fun i H' => ∃ acc, Same H H' ∧ H' p = some (.lst acc) ∧ Iv i acc ∧ acc.length ≤ i) ⟨[], Same.new hp, upd_same, I0, Nat.le_refl _⟩ (fun _ _ _ _ => True.intro) ?_ ?_
  · rintro i x H0 H' hi ⟨acc, s', hd', iv, hl⟩ ⟨rfl, c, e, rfl⟩
    have e' : l[i]? = some c := by simpa [SX.S] using e
    refine turn i c H' acc e' s' iv hl _ _ (fun y H4 q iv' => ?_) fun H3 q iv' => ?_
    · exact ⟨acc, q _ _ hd', by omega, acc ++ [y], Same.mut (Same.trans s' q) hp, upd_same, iv', by rw [List.length_append, List.length_singleton]; omega⟩
    · exact ⟨acc, Same.trans s' q, q _ _ hd', iv', by omega⟩
  · rintro H' ⟨acc, s', hd', iv, _⟩
    rw [hs] at iv
    exact done p H' acc hp s' hd' iv
end
/-! ### isinstance of ints and texts -/
section
variable {H : Hp} {Q : VK} {i : Int} {z : Str} {K : PySem.W.Frag}
theorem x_isII (h : Q (.bl true) H) : rIsi K [.int i, .ty "int"] H Q := x_isTy (.int _) (kit_ty (by decide +kernel)) h
theorem x_isIB (h : Q (.bl false) H) : rIsi K [.int i, .ty "bool"] H Q := x_isTy (.int _) (kit_ty (by decide +kernel)) h
theorem x_isIL (h : Q (.bl false) H) : rIsi K [.int i, .ty "list"] H Q := x_isTy (.int _) (kit_ty (by decide +kernel)) h
theorem x_isIT (h : Q (.bl false) H) : rIsi K [.int i, .ty "tuple"] H Q := x_isTy (.int _) (kit_ty (by decide +kernel)) h
theorem x_isID (h : Q (.bl false) H) : rIsi K [.int i, .ty "dict"] H Q := x_isTy (.int _) (kit_ty (by decide +kernel)) h
theorem x_isIS (h : Q (.bl false) H) : rIsi K [.int i, .ty "str"] H Q := x_isTy (.int _) (kit_ty (by decide +kernel)) h
theorem x_isSS (h : Q (.bl true) H) : rIsi K [.str z, .ty "str"] H Q := x_isTy (.str _) (kit_ty (by decide +kernel)) h
end
/-- all but b and c is as it was -/
def Kq (b c : Addr) (H H' : Hp) : Prop := ∀ a o, a ≠ b → a ≠ c → H a = some o → H' a = some o
theorem Kq.refl {b c : Addr} {H : Hp} : Kq b c H H := fun _ _ _ _ h => h
theorem Kq.of {b c : Addr} {H H' : Hp} (s : Same H H') : Kq b c H H' := fun a o _ _ h => s a o h
theorem Kq.of1 {b c : Addr} {H H' : Hp} (s : Kp b H H') : Kq b c H H' := fun a o n _ h => s a o n h
theorem Kq.of2 {b c : Addr} {H H' : Hp} (s : Kp c H H') : Kq b c H H' := fun a o _ n h => s a o n h
theorem Kq.trans {b c : Addr} {H H1 H2 : Hp} (x : Kq b c H H1) (y : Kq b c H1 H2) : Kq b c H H2 := fun a o n m h => y a o n m (x a o n m h)
theorem Kq.get {b c : Addr} {H H' : Hp} {a : Addr} {u : HO} (s : Kq b c H H') (n : a ≠ b) (m : a ≠ c) (h : H a = some u) : H' a = some u := s a u n m h
theorem Kq.swap {b c : Addr} {H H' : Hp} (s : Kq b c H H') : Kq c b H H' := fun a o n m h => s a o m n h
/-- both new: nothing that was is changed -/
theorem Kq.new {b c : Addr} {H0 H H' : Hp} (s : Kq b c H H') (s0 : Same H0 H) (hb : H0 b = none) (hc : H0 c = none) : Same H0 H' := fun a o h => s a o (ne_of_none h hb) (ne_of_none h hc) (s0 a o h)
/-- one of them new -/
theorem Kq.new2 {b c : Addr} {H0 H H' : Hp} (s : Kq b c H H') (s0 : Kp b H0 H) (hc : H0 c = none) : Kp b H0 H' := fun a o n h => s a o n (ne_of_none h hc) (s0 a o n h)
theorem Kq.upd1 {b c : Addr} {H H' : Hp} {o : HO} (k : Kq b c H H') : Kq b c H (upd H' b o) := fun a u n m e => by
  rw [upd_ne n]
  exact k a u n m e
theorem Kq.upd2 {b c : Addr} {H H' : Hp} {o : HO} (k : Kq b c H H') : Kq b c H (upd H' c o) := fun a u n m e => by
  rw [upd_ne m]
  exact k a u n m e
theorem Kp.new {b : Addr} {H0 H H' : Hp} (s : Kp b H H') (s0 : Same H0 H) (hb : H0 b = none) : Same H0 H' := fun a o h => s a o (ne_of_none h hb) (s0 a o h)
theorem Kp.sqt_i {K : PySem.W.Frag} {H H' : Hp} {a w C dx : Addr} {fs : List (Str × V)} {xs : List V} (k : Kp a H H') (ha : H a = some (.ins C dx fs)) (h : SqT K H w xs) : SqT K H' w xs := by
  rcases h with (h | ⟨o, h⟩) | h
  · exact .inl (.inl (k _ _ (fun e => by rw [e, ha] at h; cases h) h))
  · exact .inl (.inr ⟨o, k _ _ (fun e => by rw [e, ha] at h; cases h) h⟩)
  · exact .inr h
theorem Kp.sql_i {K : PySem.W.Frag} {H H' : Hp} {a w C dx : Addr} {fs : List (Str × V)} {xs : List V} (k : Kp a H H') (ha : H a = some (.ins C dx fs)) (h : SqL K H w xs) : SqL K H' w xs := by
  rcases h with (h | ⟨o, h⟩) | h
  · exact .inl (.inl (k _ _ (fun e => by rw [e, ha] at h; cases h) h))
  · exact .inl (.inr ⟨o, k _ _ (fun e => by rw [e, ha] at h; cases h) h⟩)
  · exact .inr h
theorem ne_of_some {H : Hp} {a b : Addr} {u v : HO} (h1 : H a = some u) (h2 : H b = some v) (n : u ≠ v) : a ≠ b := fun e => n (Option.some.inj (h1.symm.trans (by rw [e]; exact h2)))
/-! ### star calls -/
structure CalS (P : Program) (w : World) (K : PySem.W.Frag) (mg : Str → Option Value) (base : Heap) (k : Nat) (x : Str) (sp : Sp) : Prop where
  ex : ∃ f : Addr, FnR P w K mg base CX0 k f sp ∧ mg x = some (.ref f) ∧ PySem.W.keepIn K (.ref f) = true
theorem pe_cS {X : Cx} {k j : Nat} {x : Str} {p pos : Pos} {e : Expr} {es : List Expr} {t : TA} {sp : Sp} (c : CalS X.prog X.w X.K X.mg X.base k x sp) (hr : Room j X.A) (hk : k ≤ j) (hg : Gl X x) (ha : PA X (e :: es) t)
    (hdb : (x == ("__debug__" : Str)) = false := by decide) (he : starEach (e :: es) X.env = (false, eval e X.env) :: starEach es X.env := by rfl) (hst : (backTo pos (starEach es X.env)).any (·.1) = true := by rfl) :
    PE X (.Call (.Name x p) (e :: es) [] pos) (tCall sp [] E0 t) := by
  obtain ⟨f, F, hm, kp⟩ := c.ex
  have h := StX.pe_callS2 (E := E0) (p := p) F (hr.mono hk) kp hg hm pass0 ha hdb he hst
  refine ⟨fun pins s σ H Q I q => h.run pins s σ H Q I ?_⟩
  have q' : t σ H fun vs H1 => sp (vs ++ []) H1 Q E0 := q
  simpa only [List.append_nil] using q'
theorem x_pstar {σ : L2.St} {H : Hp} {te : TE} {t : TA} {K : PySem.W.Frag} {R : List V → Hp → Prop} (h : te σ H fun x H1 => ∃ p xs, x = V.ref p ∧ (SqT K H1 p xs ∨ SqL K H1 p xs) ∧ t σ H1 fun ys H2 => R (xs ++ ys) H2) : StX.tStar K te t σ H R := h
/-! ### walks: a list or a tuple; a tuple by places; a locked dict -/
def rForS (K : PySem.W.Frag) (g : TG) (tb : TS) (D : Ends) (σ : L2.St) (x : V) (H : Hp) : Prop := ∃ a, x = .ref a ∧ (((∃ xs, SqL K H a xs) ∧ ∃ W : Nat → Nat → L2.St → Hp → Prop, (∃ m, W 0 m σ H) ∧ ∀ i m σ H, W i m σ H → ((Itl K a).stop i H ∧ D.nx σ H) ∨ ((Itl K a).go i H ∧ ∃ N : L2.St → Hp → Prop, (∀ σ' H', N σ' H' → ∃ m', m' < m ∧ W (i + 1) m' σ' H') ∧ ∀ x H', (Itl K a).yld i H x H' → g x σ H' fun σ2 H2 => tb { D with nx := N, ct := N, bk := D.nx } σ2 H2)) ∨
  ((∃ xs, SqT K H a xs) ∧ ∃ W : Nat → Nat → L2.St → Hp → Prop, (∃ m, W 0 m σ H) ∧ ∀ i m σ H, W i m σ H → ((Itt K a).stop i H ∧ D.nx σ H) ∨ ((Itt K a).go i H ∧ ∃ N : L2.St → Hp → Prop, (∀ σ' H', N σ' H' → ∃ m', m' < m ∧ W (i + 1) m' σ' H') ∧ ∀ x H', (Itt K a).yld i H x H' → g x σ H' fun σ2 H2 => tb { D with nx := N, ct := N, bk := D.nx } σ2 H2)))
theorem Same.sqt {K : PySem.W.Frag} {H H' : Hp} {a : Addr} {xs : List V} (e : Same H H') (h : SqT K H a xs) : SqT K H' a xs := by
  rcases h with (h | ⟨o, h⟩) | h
  · exact .inl (.inl (e _ _ h))
  · exact .inl (.inr ⟨o, e _ _ h⟩)
  · exact .inr h
theorem SqA.same {K : PySem.W.Frag} {H H' : Hp} {a : Addr} {xs : List V} (h : SqA K H a xs) (s : Same H H') : SqA K H' a xs := h.elim (fun h => .inl (Same.sql s h)) fun h => .inr (Same.sqt s h)
section
variable {σ : L2.St} {H : Hp} {Q : VK} {D : Ends} {tx te td tk tv : TE} {ta : TA} {tt : TT} {K : PySem.W.Frag} {g : TG} {tb : TS} {vs : List Nat}
theorem x_forS (h : tx σ H fun x H1 => rForS K g tb D σ x H1) : tFor (iSeq K tx) g tb D σ H := h
theorem w_forS {H0 : Hp} {a : Addr} {xs : List V} (s : SqA K H0 a xs) (s0 : Same H0 H) (Pv : Nat → L2.St → Hp → Prop) (h0 : Pv 0 σ H) (hl : ∀ i σ H, Pv i σ H → Same H0 H)
    (hs : ∀ i x σ H, xs[i]? = some x → Pv i σ H → g x σ H fun σ2 H2 => tb { D with nx := Pv (i + 1), ct := Pv (i + 1), bk := D.nx } σ2 H2) (hd : ∀ σ H, Pv xs.length σ H → D.nx σ H) : rForS K g tb D σ (.ref a) H := by
  rcases s with s | s
  · exact ⟨a, rfl, .inl ⟨⟨xs, Same.sql s0 s⟩, for_list Pv h0 (fun i σ H _ p => Same.sql (hl i σ H p) s) hs hd⟩⟩
  · exact ⟨a, rfl, .inr ⟨⟨xs, Same.sqt s0 s⟩, for_tup Pv h0 (fun i σ H _ p => Same.sqt (hl i σ H p) s) hs hd⟩⟩
def rForE (K : PySem.W.Frag) (g : TG) (tb : TS) (D : Ends) (σ : L2.St) (us : List V) (H : Hp) : Prop := ∃ a xs, us = [.ref a] ∧ SqT K H a xs ∧ ∃ W : Nat → Nat → L2.St → Hp → Prop, (∃ m, W 0 m σ H) ∧ ∀ i m σ H, W i m σ H → ((Itet K a).stop i H ∧ D.nx σ H) ∨ ((Itet K a).go i H ∧ ∃ N : L2.St → Hp → Prop, (∀ σ' H', N σ' H' → ∃ m', m' < m ∧ W (i + 1) m' σ' H') ∧ ∀ x H', (Itet K a).yld i H x H' → g x σ H' fun σ2 H2 => tb { D with nx := N, ct := N, bk := D.nx } σ2 H2)
theorem x_forE (h : ta σ H fun us H1 => rForE K g tb D σ us H1) : tFor (iEnumT K ta) g tb D σ H := h
theorem w_forE {a : Addr} {xs : List V} (s : SqT K H a xs) (Pv : Nat → L2.St → Hp → Prop) (h0 : Pv 0 σ H) (hl : ∀ i σ H, Pv i σ H → SqT K H a xs)
    (hs : ∀ i x σ H T, xs[i]? = some x → Pv i σ H → H T = none → g (.ref T) σ (upd H T (.tup [.int (i : Nat), x])) fun σ2 H2 => tb { D with nx := Pv (i + 1), ct := Pv (i + 1), bk := D.nx } σ2 H2) (hd : ∀ σ H, Pv xs.length σ H → D.nx σ H) : rForE K g tb D σ [.ref a] H := by
  refine ⟨a, xs, rfl, s, for_it walk_enumT Pv h0 (fun i σ H _ p => hl i σ H p) ?_ hd⟩
  rintro i v σ H H' hi p ⟨T, x, y, rfl, hT, rfl, e1, e2⟩
  cases e1
  exact hs i y σ H T e2 p hT
/-- [e for x in a tuple if t] -/
theorem w_lcT {a : Addr} {xs : List V} (s : SqT K H a xs) (hz : xs.length < sizeLine) (Iv : Nat → List V → Prop) (I0 : Iv 0 [])
    (turn : ∀ i x H' acc, xs[i]? = some x → Same H H' → Iv i acc → acc.length ≤ i → ∀ (R : VK) (S : Hp → Prop), (∀ y H4, Same H' H4 → Iv (i + 1) (acc ++ [y]) → R y H4) → (∀ H3, Same H' H3 → Iv (i + 1) acc → S H3) →
      g x (wipe σ vs) H' fun σ2 H2 => wipe σ2 vs = wipe σ vs ∧ tt σ2 H2 fun b H3 => if b = true then te σ2 H3 R else S H3)
    (done : ∀ p H' acc, H p = none → Same H H' → H' p = some (.lst acc) → Iv xs.length acc → Q (.ref p) H') : rLcT K g tt te vs σ (.ref a) H Q := by
  refine ⟨a, rfl, ⟨xs, s⟩, fun p hp => ?_⟩
  refine lc_it walk_tup (fun i H' => ∃ acc, Same H H' ∧ H' p = some (.lst acc) ∧ Iv i acc ∧ acc.length ≤ i) ⟨[], Same.new hp, upd_same, I0, Nat.le_refl _⟩ (fun i H' _ ⟨acc, s', _⟩ => Same.sqt s' s) ?_ ?_
  · rintro i x H0 H' hi ⟨acc, s', hd', iv, hl⟩ ⟨rfl, e⟩
    refine turn i x H' acc e s' iv hl _ _ (fun y H4 q iv' => ?_) fun H3 q iv' => ?_
    · exact ⟨acc, q _ _ hd', by omega, acc ++ [y], Same.mut (Same.trans s' q) hp, upd_same, iv', by rw [List.length_append, List.length_singleton]; omega⟩
    · exact ⟨acc, Same.trans s' q, q _ _ hd', iv', by omega⟩
  · rintro H' ⟨acc, s', hd', iv, _⟩
    exact done p H' acc hp s' hd' iv
def lockD (d : Addr) (u : HO) (od : Obj) (D : Ends) : Ends := ⟨fun σ' H' => H' d = some (.frz od u) ∧ D.nx σ' (upd H' d u), fun v H' => H' d = some (.frz od u) ∧ D.rt v (upd H' d u), fun σ' H' => H' d = some (.frz od u) ∧ D.bk σ' (upd H' d u), fun σ' H' => H' d = some (.frz od u) ∧ D.ct σ' (upd H' d u)⟩
/-- for k in d: with d locked -/
theorem w_lockForK {d : Addr} {kvs : List (Key × V)} (hd : H d = some (.dK kvs)) (ht : ∀ od, td σ (upd H d (.frz od (.dK kvs))) fun x H1 => x = .ref d ∧ H1 = upd H d (.frz od (.dK kvs)))
    (mono : ∀ (H : Hp) (R R' : VK), (∀ v H, R v H → R' v H) → td σ H R → td σ H R') (Pv : Obj → Nat → L2.St → Hp → Prop) (h0 : ∀ od, Pv od 0 σ (upd H d (.frz od (.dK kvs)))) (hl : ∀ od i σ H', Pv od i σ H' → H' d = some (.frz od (.dK kvs)))
    (hs : ∀ od i k v σ H', kvs[i]? = some (k, v) → Pv od i σ H' → g (kV k) σ H' fun σ2 H2 => tb { lockD d (.dK kvs) od D with nx := Pv od (i + 1), ct := Pv od (i + 1), bk := (lockD d (.dK kvs) od D).nx } σ2 H2)
    (hn : ∀ od σ H', Pv od kvs.length σ H' → D.nx σ (upd H' d (.dK kvs))) : tLock (tFor (iKeys td) g tb) D σ H := by
  refine ⟨d, .dK kvs, hd, True.intro, fun od => ?_⟩
  refine mono _ _ _ ?_ (ht od)
  rintro x H1 ⟨rfl, rfl⟩
  refine ⟨d, od, rfl, .inl ⟨kvs, upd_same, ?_⟩⟩
  refine for_it (D := lockD d (.dK kvs) od D) walk_keys (Pv od) (h0 od) (fun i σ H _ p => hl od i σ H p) ?_ (fun σ H p => ⟨hl od _ σ H p, hn od σ H p⟩)
  rintro i x σ' H H' hi p ⟨rfl, k, v, e, rfl⟩
  exact hs od i k v σ' H' e p
/-- [e for k in d if t] with d locked -/
theorem w_lockLcK {d : Addr} {kvs : List (Key × V)} (hd : H d = some (.dK kvs)) (hz : kvs.length < sizeLine) (ht : ∀ od, td σ (upd H d (.frz od (.dK kvs))) fun x H1 => x = .ref d ∧ H1 = upd H d (.frz od (.dK kvs)))
    (mono : ∀ (H : Hp) (R R' : VK), (∀ v H, R v H → R' v H) → td σ H R → td σ H R') (Iv : Nat → List V → Prop) (I0 : Iv 0 [])
    (turn : ∀ od i k v H' acc, kvs[i]? = some (k, v) → Same (upd H d (.frz od (.dK kvs))) H' → Iv i acc → acc.length ≤ i → ∀ (R : VK) (S : Hp → Prop), (∀ y H4, Same H' H4 → Iv (i + 1) (acc ++ [y]) → R y H4) → (∀ H3, Same H' H3 → Iv (i + 1) acc → S H3) →
      g (kV k) (wipe σ vs) H' fun σ2 H2 => wipe σ2 vs = wipe σ vs ∧ tt σ2 H2 fun b H3 => if b = true then te σ2 H3 R else S H3)
    (done : ∀ p H' acc, H p = none → Same H H' → H' p = some (.lst acc) → Iv kvs.length acc → Q (.ref p) H') : tLockE (tLc (iKeys td) g tt te vs) σ H Q := by
  refine ⟨d, .dK kvs, hd, True.intro, fun od => ?_⟩
  refine mono _ _ _ ?_ (ht od)
  rintro x H1 ⟨rfl, rfl⟩
  refine ⟨d, od, rfl, .inl ⟨kvs, upd_same, fun p hp => ?_⟩⟩
  have hpd : p ≠ d := fun e => by rw [e, upd_same] at hp; cases hp
  refine lc_it walk_keys (fun i H' => ∃ acc, Same (upd H d (.frz od (.dK kvs))) H' ∧ H' p = some (.lst acc) ∧ Iv i acc ∧ acc.length ≤ i) ⟨[], Same.new hp, upd_same, I0, Nat.le_refl _⟩ (fun i H' _ ⟨acc, s, _⟩ => s _ _ upd_same) ?_ ?_
  · rintro i x H0 H' hi ⟨acc, s', hd', iv, hl⟩ ⟨rfl, k, v, e, rfl⟩
    refine turn od i k v H' acc e s' iv hl _ _ (fun y H4 q iv' => ?_) fun H3 q iv' => ?_
    · exact ⟨acc, q _ _ hd', by omega, acc ++ [y], Same.mut (Same.trans s' q) hp, upd_same, iv', by rw [List.length_append, List.length_singleton]; omega⟩
    · exact ⟨acc, Same.trans s' q, q _ _ hd', iv', by omega⟩
  · rintro H' ⟨acc, s', hd', iv, _⟩
    refine ⟨s' _ _ upd_same, done p _ acc (by rw [upd_ne hpd] at hp; exact hp) (fun a u ha => ?_) (by rw [upd_ne hpd]; exact hd') iv⟩
    by_cases hb : a = d
    · rw [hb] at ha ⊢
      rw [upd_same, ← ha, hd]
    · rw [upd_ne hb]
      exact s' _ _ (by rw [upd_ne hb]; exact ha)
/-- {k: v for x in a tuple} -/
def rDcT (K : PySem.W.Frag) (g : TG) (tt : TT) (tk tv : TE) (vs : List Nat) (σ : L2.St) (x : V) (H1 : Hp) (Q : VK) : Prop := ∃ a, x = .ref a ∧ (∃ xs, SqT K H1 a xs) ∧ ∀ D, H1 D = none → ∃ W : Nat → Nat → Hp → Prop, (∃ m, W 0 m (upd H1 D (.dK []))) ∧ ∀ i m H, W i m H →
  ((Itt K a).stop i H ∧ Q (.ref D) H) ∨ ((Itt K a).go i H ∧ ∃ Nx : Hp → Prop, (∀ H', Nx H' → ∃ m', m' < m ∧ W (i + 1) m' H') ∧ ∀ x H', (Itt K a).yld i H x H' → g x (wipe σ vs) H' fun σ2 H2 => wipe σ2 vs = wipe σ vs ∧ tt σ2 H2 fun b H3 =>
    if b = true then tk σ2 H3 fun y H4 => tv σ2 H4 fun z H5 => ∃ kvs k, y = kV k ∧ H5 D = some (.dK kvs) ∧ kvs.length < sizeLine ∧ Nx (upd H5 D (.dK (putK kvs k z))) else Nx H3)
theorem x_dcT (h : tx σ H fun x H1 => rDcT K g tt tk tv vs σ x H1 Q) : tDc (iTup K tx) g tt tk tv vs σ H Q := h
theorem w_dcT {a : Addr} {xs : List V} (s : SqT K H a xs) (hz : xs.length < sizeLine) (Iv : Nat → List (Key × V) → Prop) (I0 : Iv 0 [])
    (turn : ∀ i x H' acc, xs[i]? = some x → Same H H' → Iv i acc → acc.length ≤ i → ∀ (R : V → V → Hp → Prop) (S : Hp → Prop), (∀ k z H4, Same H' H4 → Iv (i + 1) (putK acc k z) → R (kV k) z H4) → (∀ H3, Same H' H3 → Iv (i + 1) acc → S H3) →
      g x (wipe σ vs) H' fun σ2 H2 => wipe σ2 vs = wipe σ vs ∧ tt σ2 H2 fun b H3 => if b = true then tk σ2 H3 fun y H4 => tv σ2 H4 fun z H5 => R y z H5 else S H3)
    (done : ∀ p H' acc, H p = none → Same H H' → H' p = some (.dK acc) → Iv xs.length acc → Q (.ref p) H') : rDcT K g tt tk tv vs σ (.ref a) H Q := by
  refine ⟨a, rfl, ⟨xs, s⟩, fun D hD => ?_⟩
  refine ⟨fun i m H' => m = xs.length - i ∧ i ≤ xs.length ∧ ∃ acc, Same H H' ∧ H' D = some (.dK acc) ∧ Iv i acc ∧ acc.length ≤ i, ⟨xs.length, by simp, Nat.zero_le _, [], Same.new hD, upd_same, I0, Nat.le_refl _⟩, ?_⟩
  rintro i m H' ⟨rfl, hi, acc, s', hd, iv, hl⟩
  have hq : SqT K H' a xs := Same.sqt s' s
  by_cases hlt : i < xs.length
  · refine .inr ⟨⟨xs, xs[i], hq, by simp [hlt]⟩, fun H2 => i + 1 ≤ xs.length ∧ ∃ acc, Same H H2 ∧ H2 D = some (.dK acc) ∧ Iv (i + 1) acc ∧ acc.length ≤ i + 1, fun H2 p => ⟨xs.length - (i + 1), by omega, rfl, p⟩, ?_⟩
    rintro x H2 ⟨rfl, y⟩
    refine turn i x H2 acc (y xs hq) s' iv hl (fun y z H5 => ∃ kvs k, y = kV k ∧ H5 D = some (.dK kvs) ∧ kvs.length < sizeLine ∧ (i + 1 ≤ xs.length ∧ ∃ acc, Same H (upd H5 D (.dK (putK kvs k z))) ∧ upd H5 D (.dK (putK kvs k z)) D = some (.dK acc) ∧ Iv (i + 1) acc ∧ acc.length ≤ i + 1)) _ (fun k z H4 q iv' => ?_) fun H3 q iv' => ?_
    · exact ⟨acc, k, rfl, q _ _ hd, by omega, hlt, _, Same.mut (Same.trans s' q) hD, upd_same, iv', Nat.le_trans (length_putK acc k z) (by omega)⟩
    · exact ⟨hlt, acc, Same.trans s' q, q _ _ hd, iv', by omega⟩
  · have e : i = xs.length := by omega
    subst e
    exact .inl ⟨⟨xs, hq, Nat.le_refl _⟩, done D H' acc hD s' hd iv⟩
end
end Cb
/-! ### further steps: masks, tables (comprehensions whose items are objects) -/
namespace Cb
open PySem PySem.Spec PyProof.Rows L2
section
variable {σ : L2.St} {H : Hp} {Q : VK} {D : Ends} {te ta tb tc : TE} {t u : TS} {tt : TT} {v : V} {i j : Int} {K : PySem.W.Frag} {g : TG} {vs : List Nat}
theorem pip_xor {X : Cx} : PIp X .BitXor (rI0 fun i j => .int (Builtin.bitXor i j)) := iop_xor
/-- a op1 b op2 c op3 d -/
def rCh2 (r' r'' : R2) (tc td : TE) (σ : L2.St) (y : V) (H3 : Hp) (Q : VK) : Prop := tc σ H3 fun z H4 => r' y z H4 fun q H5 => ∃ k, q = .bl k ∧ (if k = true then td σ H5 fun x' H6 => r'' z x' H6 Q else Q (.bl false) H5)
def tChain3 (r r' r'' : R2) (ta tb tc td : TE) : TE := fun σ H Q => ta σ H fun x H1 => tb σ H1 fun y H2 => r x y H2 fun z H3 => ∃ k, z = .bl k ∧ (if k = true then rCh2 r' r'' tc td σ y H3 Q else Q (.bl false) H3)
theorem pe_chain3 {X : Cx} {a b c d : Expr} {pos : Pos} {ta tb tc td : TE} {op op' op'' : CmpOp} {r r' r'' : R2} (ho : OpR X (compareOp op) r) (ho' : OpR X (compareOp op') r') (ho'' : OpR X (compareOp op'') r'') (ha : PE X a ta) (hb : PE X b tb) (hc : PE X c tc) (hd : PE X d td)
    (hm : lastMarks [op, op', op''] [b, c, d] = false := by with_unfolding_all rfl) : PE X (.Compare a [op, op', op''] [b, c, d] pos) (tChain3 r r' r'' ta tb tc td) := by
  refine ⟨fun pins s σ H Q I h => ?_⟩
  refine Compare_chain (thn (ha.run pins s σ H _ I h) fun v s1 ⟨x, H1, I1, r1, q1⟩ => chain_link (thn (hb.run pins s1 σ H1 _ I1 q1) fun u s2 ⟨y, H2, I2, r2, q2⟩ =>
    thn (ho pins s2 σ H2 x y v u _ I2 r1 r2 q2) fun d s3 ⟨z, H3, I3, r3, k, e, q3⟩ => ?_)) hm
  subst e
  cases r3
  refine wpAny_truthy_bool ?_
  cases k with
  | false => exact ite_ff ⟨.bl false, H3, I3, rfl, q3⟩
  | true =>
    refine ite_tt (chain_link (thn (hc.run pins s3 σ H3 _ I3 q3) fun w' s4 ⟨z', H4, I4, r4, q4⟩ => thn (ho' pins s4 σ H4 y z' u w' _ I4 r2 r4 q4) fun d' s5 ⟨z2, H5, I5, r5, k2, e2, q5⟩ => ?_))
    subst e2
    cases r5
    refine wpAny_truthy_bool ?_
    cases k2 with
    | false => exact ite_ff ⟨.bl false, H5, I5, rfl, q5⟩
    | true => exact ite_tt (chain_last (thn (hd.run pins s5 σ H5 _ I5 q5) fun w2 s6 ⟨z3, H6, I6, r6, q6⟩ => ho'' pins s6 σ H6 z' z3 w' w2 Q I6 r4 r6 q6))
theorem x_chain3 {td : TE} {r r' r'' : R2} (h : ta σ H fun x H1 => tb σ H1 fun y H2 => r x y H2 fun z H3 => ∃ k, z = .bl k ∧ (if k = true then rCh2 r' r'' tc td σ y H3 Q else Q (.bl false) H3)) : tChain3 r r' r'' ta tb tc td σ H Q := h
theorem x_ch2 {td : TE} {r' r'' : R2} {y : V} (h : tc σ H fun z H4 => r' y z H4 fun q H5 => ∃ k, q = .bl k ∧ (if k = true then td σ H5 fun x' H6 => r'' z x' H6 Q else Q (.bl false) H5)) : rCh2 r' r'' tc td σ y H Q := h
def rRevL (K : PySem.W.Frag) (x : V) (H1 : Hp) (Q : VK) : Prop := ∃ a xs, x = .ref a ∧ SqL K H1 a xs ∧ ∀ p, H1 p = none → Q (.ref p) (upd H1 p (.lst xs.reverse))
theorem x_revL (h : te σ H fun x H1 => rRevL K x H1 Q) : tRevL K te σ H Q := h
theorem x_revLI {a : Addr} {xs : List V} (s : SqL K H a xs) (h : ∀ p, H p = none → Q (.ref p) (upd H p (.lst xs.reverse))) : rRevL K (.ref a) H Q := ⟨a, xs, rfl, s, h⟩
theorem x_bits (h : te σ H fun x H1 => ∃ i, x = .int i ∧ Q (.int (Builtin.Int.intBits i : Nat)) H1) : tBits te σ H Q := h
theorem x_truI {R : Bool → Prop} (h : R (i != 0)) : ∃ k, TruV K (.int i) H k ∧ R k := ⟨_, rfl, h⟩
theorem x_dgetI {a : Addr} {kvs : List (Key × V)} {n : Int} (e : Rd H a (.dK kvs)) (g : valV kvs (.inl n) = some v) (h : Q v H) : rDGet (.ref a) (.int n) H Q := ⟨a, v, rfl, .inl ⟨kvs, .inl n, e, rfl, g.symm⟩, h⟩
theorem x_dinI {a : Addr} {kvs : List (Key × V)} {n : Int} {o : Option V} (e : Rd H a (.dK kvs)) (g : valV kvs (.inl n) = o) (h : Q (.bl o.isSome) H) : rDIn (.int n) (.ref a) H Q := ⟨a, o, rfl, .inl ⟨kvs, .inl n, e, rfl, g.symm⟩, h⟩
theorem x_dputI {a : Addr} {kvs : List (Key × V)} {n : Int} (e : H a = some (.dK kvs)) (l : kvs.length < sizeLine) (h : D.nx σ (upd H a (.dK (putK kvs (.inl n) v)))) : rDPut D σ v (.ref a) (.int n) H := ⟨a, _, rfl, DPut.k (k := .inl n) e l, h⟩
theorem Kp.mutp {p : Addr} {H : Hp} {o : HO} : Kp p H (upd H p o) := fun a u n e => by rw [upd_ne n]; exact e
/-- [e for x in t] whose items are new objects: what is said of them stays when all but the list in the making stays -/
theorem w_lcTH {a : Addr} {xs : List V} (s : SqT K H a xs) (hz : xs.length < sizeLine) (Iv : Addr → Nat → List V → Hp → Prop) (mono : ∀ p i acc H1 H2, Kp p H1 H2 → Iv p i acc H1 → Iv p i acc H2) (I0 : ∀ p, H p = none → Iv p 0 [] H)
    (turn : ∀ p i x H' acc, H p = none → xs[i]? = some x → Same H H' → H' p = some (.lst acc) → Iv p i acc H' → acc.length ≤ i → ∀ (R : VK) (S : Hp → Prop), (∀ y H4, Same H' H4 → Iv p (i + 1) (acc ++ [y]) H4 → R y H4) → (∀ H3, Same H' H3 → Iv p (i + 1) acc H3 → S H3) →
      g x (wipe σ vs) H' fun σ2 H2 => wipe σ2 vs = wipe σ vs ∧ tt σ2 H2 fun b H3 => if b = true then te σ2 H3 R else S H3)
    (done : ∀ p H' acc, H p = none → Same H H' → H' p = some (.lst acc) → Iv p xs.length acc H' → Q (.ref p) H') : rLcT K g tt te vs σ (.ref a) H Q := by
  refine ⟨a, rfl, ⟨xs, s⟩, fun p hp => ?_⟩
  refine lc_it walk_tup (fun i H' => ∃ acc, Same H H' ∧ H' p = some (.lst acc) ∧ Iv p i acc H' ∧ acc.length ≤ i) ⟨[], Same.new hp, upd_same, mono _ _ _ _ _ Kp.mutp (I0 p hp), Nat.le_refl _⟩ (fun i H' _ ⟨acc, s', _⟩ => Same.sqt s' s) ?_ ?_
  · rintro i x H0 H' hi ⟨acc, s', hd', iv, hl⟩ ⟨rfl, e⟩
    refine turn p i x H' acc hp e s' hd' iv hl _ _ (fun y H4 q iv' => ?_) fun H3 q iv' => ?_
    · exact ⟨acc, q _ _ hd', by omega, acc ++ [y], Same.mut (Same.trans s' q) hp, upd_same, mono _ _ _ _ _ Kp.mutp iv', by rw [List.length_append, List.length_singleton]; omega⟩
    · exact ⟨acc, Same.trans s' q, q _ _ hd', iv', by omega⟩
  · rintro H' ⟨acc, s', hd', iv, _⟩
    exact done p H' acc hp s' hd' iv
theorem w_lcLH {a : Addr} {xs : List V} (s : SqL K H a xs) (hz : xs.length < sizeLine) (Iv : Addr → Nat → List V → Hp → Prop) (mono : ∀ p i acc H1 H2, Kp p H1 H2 → Iv p i acc H1 → Iv p i acc H2) (I0 : ∀ p, H p = none → Iv p 0 [] H)
    (turn : ∀ p i x H' acc, H p = none → xs[i]? = some x → Same H H' → H' p = some (.lst acc) → Iv p i acc H' → acc.length ≤ i → ∀ (R : VK) (S : Hp → Prop), (∀ y H4, Same H' H4 → Iv p (i + 1) (acc ++ [y]) H4 → R y H4) → (∀ H3, Same H' H3 → Iv p (i + 1) acc H3 → S H3) →
      g x (wipe σ vs) H' fun σ2 H2 => wipe σ2 vs = wipe σ vs ∧ tt σ2 H2 fun b H3 => if b = true then te σ2 H3 R else S H3)
    (done : ∀ p H' acc, H p = none → Same H H' → H' p = some (.lst acc) → Iv p xs.length acc H' → Q (.ref p) H') : rLcL K g tt te vs σ (.ref a) H Q := by
  refine ⟨a, rfl, ⟨xs, s⟩, fun p hp => ?_⟩
  refine lc_list (K := K) (a := a) (xs := xs) (fun i H' => ∃ acc, Same H H' ∧ H' p = some (.lst acc) ∧ Iv p i acc H' ∧ acc.length ≤ i) ⟨[], Same.new hp, upd_same, mono _ _ _ _ _ Kp.mutp (I0 p hp), Nat.le_refl _⟩ (fun i H' _ ⟨acc, s', _⟩ => s'.seq s) ?_ ?_
  · rintro i x H' hi ⟨acc, s', hd', iv, hl⟩
    have hil : i < xs.length := (List.getElem?_eq_some_iff.mp hi).1
    refine turn p i x H' acc hp hi s' hd' iv hl _ _ (fun y H4 q iv' => ?_) fun H3 q iv' => ?_
    · exact ⟨acc, q _ _ hd', by omega, acc ++ [y], Same.mut (Same.trans s' q) hp, upd_same, mono _ _ _ _ _ Kp.mutp iv', by rw [List.length_append, List.length_singleton]; omega⟩
    · exact ⟨acc, Same.trans s' q, q _ _ hd', iv', by omega⟩
  · rintro H' ⟨acc, s', hd', iv, _⟩
    exact done p H' acc hp s' hd' iv
end
end Cb
/-! ### enumerate of a list; xs[i] op= e; bits -/
namespace Cb
open PySem PySem.Spec PyProof.Rows L2
section
variable {σ : L2.St} {H : Hp} {Q : VK} {D : Ends} {te ta tb tc : TE} {t u : TS} {tt : TT} {v : V} {i j : Int} {K : PySem.W.Frag} {g : TG} {vs : List Nat}
def rForEL (K : PySem.W.Frag) (g : TG) (tb : TS) (D : Ends) (σ : L2.St) (us : List V) (H : Hp) : Prop := ∃ a xs, us = [.ref a] ∧ SqL K H a xs ∧ ∃ W : Nat → Nat → L2.St → Hp → Prop, (∃ m, W 0 m σ H) ∧ ∀ i m σ H, W i m σ H → ((Ite K a).stop i H ∧ D.nx σ H) ∨ ((Ite K a).go i H ∧ ∃ N : L2.St → Hp → Prop, (∀ σ' H', N σ' H' → ∃ m', m' < m ∧ W (i + 1) m' σ' H') ∧ ∀ x H', (Ite K a).yld i H x H' → g x σ H' fun σ2 H2 => tb { D with nx := N, ct := N, bk := D.nx } σ2 H2)
theorem x_forEL {ta : TA} {tb : TS} (h : ta σ H fun us H1 => rForEL K g tb D σ us H1) : tFor (iEnum K ta) g tb D σ H := h
theorem w_forEL {tb : TS} {a : Addr} {xs : List V} (s : SqL K H a xs) (Pv : Nat → L2.St → Hp → Prop) (h0 : Pv 0 σ H) (hl : ∀ i σ H, Pv i σ H → SqL K H a xs)
    (hs : ∀ i x σ H T, xs[i]? = some x → Pv i σ H → H T = none → g (.ref T) σ (upd H T (.tup [.int (i : Nat), x])) fun σ2 H2 => tb { D with nx := Pv (i + 1), ct := Pv (i + 1), bk := D.nx } σ2 H2) (hd : ∀ σ H, Pv xs.length σ H → D.nx σ H) : rForEL K g tb D σ [.ref a] H := by
  refine ⟨a, xs, rfl, s, for_it walk_enum Pv h0 (fun i σ H _ p => hl i σ H p) ?_ hd⟩
  rintro i v σ H H' hi p ⟨T, x, y, rfl, hT, rfl, e1, e2⟩
  cases e1
  exact hs i y σ H T e2 p hT
theorem pg_list {X : Cx} : PGet X (rIxL X.K) := by
  intro pins s σ H x y v u Q I rx ry h
  obtain ⟨p, xs, i, z, rfl, rfl, hq, he, q⟩ := h
  cases rx
  obtain ⟨t, rfl⟩ := ry
  obtain ⟨its, r, pl, hz⟩ := I.list hq
  obtain ⟨j, h1, h2, h3, h4, h5⟩ := atI_get he
  obtain ⟨w, ew, rw'⟩ := r.get h2
  have hl := r.length
  have hn := line63
  have fin : EP X pins σ Q w s := ⟨z, H, I, rw', q⟩
  by_cases h0 : 0 ≤ i
  · have hj : i.toNat = j := by
      rw [seqIndex_of h0 h5] at h1
      exact Option.some.inj h1
    exact wpAny_getItem_list pl.isList h0 (by omega) (by rw [hj]; simpa using ew) fin
  · have hj : (i + (its.toArray.size : Int)).toNat = j := by
      rw [seqIndex_neg (by omega) h4] at h1
      rw [List.size_toArray, ← hl]
      exact Option.some.inj h1
    exact wpAny_getItem_list_neg pl.isList (by omega) (by rw [List.size_toArray] <;> omega) (by omega) (by rw [hj]; simpa using ew) fin
theorem x_augS {to ti te : TE} {tget : V → V → Hp → VK → Prop} {tip : TIp} {tset : TSet} (h : to σ H fun o H1 => ti σ H1 fun i H2 => tget o i H2 fun x H3 => te σ H3 fun y H4 => tip x y H4 fun z H5 => tset o i z H5 fun H6 => D.nx σ H6) : tAugS to ti te tget tip tset D σ H := h
theorem bit_and (m k : Nat) : Builtin.bitAnd ((m : Int) / 2 ^ k) 1 = (((m.testBit k).toNat : Nat) : Int) := by
  rw [show ((m : Int) / 2 ^ k) = ((m / 2 ^ k : Nat) : Int) by rw [Int.natCast_ediv, Int.natCast_pow]; rfl, PyProof.Rows.bitAnd_pp (Int.natCast_nonneg _) (by decide), Int.toNat_natCast]
  congr 1
  show m / 2 ^ k &&& 1 = _
  rw [Nat.and_one_is_mod, Nat.testBit_eq_decide_div_mod_eq]
  by_cases h : m / 2 ^ k % 2 = 1
  · rw [decide_eq_true h, h]; rfl
  · rw [decide_eq_false h]
    show _ = 0
    omega
theorem bx_and (a b : Bool) : Builtin.bitAnd ((a.toNat : Nat) : Int) ((b.toNat : Nat) : Int) = (((a && b).toNat : Nat) : Int) := by
  rw [PyProof.Rows.bitAnd_pp (Int.natCast_nonneg _) (Int.natCast_nonneg _)]
  cases a <;> cases b <;> rfl
theorem bx_xor (a b : Bool) : Builtin.bitXor ((a.toNat : Nat) : Int) ((b.toNat : Nat) : Int) = (((xor a b).toNat : Nat) : Int) := by
  rw [Bits.bitXor_pp (Int.natCast_nonneg _) (Int.natCast_nonneg _)]
  cases a <;> cases b <;> rfl
end
end Cb
namespace Cb
open PySem PySem.Spec PyProof.Rows L2
/-! ### a op1 b op2 c op3 d as a test; in over texts -/
theorem pt_chain3 {X : Cx} {a b c d : Expr} {pos : Pos} {ta tb tc td : TE} {op op' op'' : CmpOp} {r r' r'' : R2} (ho : OpR X (compareOp op) r) (ho' : OpR X (compareOp op') r') (ho'' : OpR X (compareOp op'') r'') (ha : PE X a ta) (hb : PE X b tb) (hc : PE X c tc) (hd : PE X d td)
    (hm : lastMarks [op, op', op''] [b, c, d] = false := by with_unfolding_all rfl) : PT X (.Compare a [op, op', op''] [b, c, d] pos) (tTest (tChain3 r r' r'' ta tb tc td)) := by
  refine ⟨fun pins s σ H Q I h => ?_⟩
  refine isTrue_chain (thn (ha.run pins s σ H _ I h) fun v s1 ⟨x, H1, I1, r1, q1⟩ => test_link (thn (hb.run pins s1 σ H1 _ I1 q1) fun u s2 ⟨y, H2, I2, r2, q2⟩ =>
    thn (ho pins s2 σ H2 x y v u _ I2 r1 r2 q2) fun _ s3 ⟨z, H3, I3, r3, k, e, q3⟩ => ?_)) hm
  subst e
  cases r3
  refine wpAny_truthy_bool ?_
  cases k with
  | false =>
    obtain ⟨k', e', q'⟩ := q3
    cases e'
    exact ite_ff ⟨H3, I3, q'⟩
  | true =>
    refine ite_tt (test_link (thn (hc.run pins s3 σ H3 _ I3 q3) fun w' s4 ⟨z', H4, I4, r4, q4⟩ => thn (ho' pins s4 σ H4 y z' u w' _ I4 r2 r4 q4) fun _ s5 ⟨z2, H5, I5, r5, k2, e2, q5⟩ => ?_))
    subst e2
    cases r5
    refine wpAny_truthy_bool ?_
    cases k2 with
    | false =>
      obtain ⟨k', e', q'⟩ := q5
      cases e'
      exact ite_ff ⟨H5, I5, q'⟩
    | true =>
      refine ite_tt (test_last (thn (hd.run pins s5 σ H5 _ I5 q5) fun w2 s6 ⟨z3, H6, I6, r6, q6⟩ => thn (ho'' pins s6 σ H6 z' z3 w' w2 _ I6 r4 r6 q6) fun _ s7 ⟨z4, H7, I7, r7, k3, e3, q7⟩ => ?_))
      subst e3
      cases r7
      exact wpAny_truthy_bool ⟨H7, I7, q7⟩
theorem inV_str (L : List Str) (b : Str) : inV (.str b) (L.map V.str) = decide (b ∈ L) := by
  induction L with
  | nil => rfl
  | cons a L ih =>
    show (eqV (.str a) (.str b) || inV (.str b) (L.map V.str)) = _
    rw [ih]
    by_cases e : a = b
    · subst e
      rw [show eqV (.str a) (.str a) = true from by simp [eqV], decide_eq_true (List.mem_cons_self ..)]
      rfl
    · rw [show eqV (.str a) (.str b) = false from by simp [eqV, e]]
      rw [Bool.false_or]
      exact decide_eq_decide.mpr ⟨fun z => List.mem_cons_of_mem _ z, fun z => (List.mem_cons.mp z).elim (fun q => absurd q.symm e) id⟩
theorem flat_str (L : List Str) : (L.map V.str).all flatV = true := by
  rw [List.all_eq_true]
  intro x hx
  obtain ⟨b, _, rfl⟩ := List.mem_map.mp hx
  rfl
theorem x_inS {K : PySem.W.Frag} {H : Hp} {Q : VK} {p : Addr} {L : List Str} {b : Str} (s : SqL K H p (L.map V.str) ∨ SqT K H p (L.map V.str)) (h : Q (.bl (decide (b ∈ L))) H) : rIn K false (.str b) (.ref p) H Q :=
  ⟨p, L.map V.str, rfl, s, rfl, flat_str L, by rw [if_neg Bool.false_ne_true, inV_str]; exact h⟩
theorem x_niS {K : PySem.W.Frag} {H : Hp} {Q : VK} {p : Addr} {L : List Str} {b : Str} (s : SqL K H p (L.map V.str) ∨ SqT K H p (L.map V.str)) (h : Q (.bl (!decide (b ∈ L))) H) : rIn K true (.str b) (.ref p) H Q :=
  ⟨p, L.map V.str, rfl, s, rfl, flat_str L, by rw [if_pos rfl, inV_str]; exact h⟩
theorem x_sum {K : PySem.W.Frag} {H : Hp} {Q : VK} {p : Addr} {ns : List Int} (s : SqL K H p (ns.map V.int)) (h : Q (.int ns.sum) H) : rSum K [.ref p] H Q := ⟨p, ns, rfl, s, h⟩
end Cb
namespace Cb
open PySem PySem.Spec PyProof.Rows L2
/-! ### own errors whose __init__ says super().__init__(text) and keeps its arguments -/
section
open PySem.W PySem.Calls
/-- what a class of errors over the built-in B says -/
structure SupC (K : Frag) (B newId i : String) (bmB : List Value) (C : Addr) : Prop where
  FB : ExcBaseFacts B newId i bmB
  SF : StoreFacts B bmB "object.__setattr__" "object"
  KF : KxsFacts B i
  exI : excInitIn K C bmB newId = true
  ov : excOver K C bmB = true
  hdC : hasDictIn K C = true
  sa : findIn K (.ref C) "__setattr__" = some (some (.builtin "object.__setattr__"))
  kC : keepIn K (.ref C) = true
  exC : subIn K (.ref C) (.type "BaseException") = some true
  subB : subIn K (.ref C) (.type B) = some true
  tyC : typeIn K (.ref C) = some (.type "type")
  tp : nsIn K cStatics "thirdparty.any" = some none
  mroC : mroIn K C (.ref C) = some true
  supI : ks_superIn K C C "__init__" = some (some (.builtin i))
/-- what its __init__ says -/
structure SupF (P : Program) (K : Frag) (C fI : Addr) (qual : Str) (params : Arguments) (body : List Stmt) (scope : Scope) : Prop where
  iC : findIn K (.ref C) "__init__" = some (some (.ref fI))
  tI : typeIn K (.ref fI) = some (.type "function")
  fn : ∃ (oc : Value) (od : Option Addr) (doc pm : Value) (an : Option Addr) (cda : Addr) (ct : Value) (cc : Addr) (osl : Array (Option Value)),
    (K.lookup fI = some ⟨oc, od, .func (ksFn "__init__" qual params body scope .none .none doc pm an (.ref cda) ct cc), osl⟩ ∧ codeIn K (.ref cda) qual = true) ∧
    (∃ ccl cdd vs ccs file tf, K.lookup cda = some ⟨ccl, cdd, .fields vs, ccs⟩ ∧ vs[2]? = some (.str file tf) ∧ ((P.main.file : Str) == file) = true) ∧
    ∃ cl cld csl, K.lookup cc = some ⟨cl, cld, .cell (some (.ref C)), csl⟩
  top : (P.main.scope.names.lookup ("super" : Str)).isSome = false
section
variable {P : Program} {w : World} {A : Around} {K : Frag} {B newId i : String} {bmB : List Value} {C : Addr}
/-- the wrapper of B's own __init__, called: the error's args are new -/
theorem sup_call {E : Value → Shared → Prop} {h : Heap} {g : Array GenState} {d : Drawn} {t : Nat} {os : OsState} {e u t0 : Addr} {rest : List Value} {Q : Value → Shared → Prop}
    (T : SupC K B newId i bmB C) (X : K.In h) (he : h.get? e = some (HandSPX.excO C t0)) (gu : h.get? u = some (kxs_mw i e)) (hz : rest.length ≤ sizeLine)
    (kq : ∀ hz t1, (∀ b o, b ≠ e → h.get? b = some o → hz.get? b = some o) → hz.get? e = some (HandSPX.excO C t1) → Q .none ⟨hz, g, d, t, os⟩) :
    wpAny (model P w) A (call (.ref u) rest) Q E ⟨h, g, d, t, os⟩ := by
  obtain ⟨nm, N, qn, bs, bm, hdct, sn, sub, ab, col, dd, k0, k1, k2, k3, k5, hC, hT⟩ := excInit_of X T.exI
  refine wpAny_call (codeAny_of_tree (show wpAny _ A.in1 (callAny (.ref u) ⟨rest, []⟩) _ _ _ from ?_))
  unfold callAny
  refine wpAny_bind (wpAny_load gu ?_)
  refine W.KFB.if_so (by dsimp only [kxs_mw]; decide) ?_
  refine wpAny_bind (check_bound_init T.FB.toExcCallFacts hC he rfl ?_)
  refine wpAny_bind (wpAny_pure (wpAny_pure ⟨plainId_quiet T.FB.init.plain _, codeAny_builtin T.FB.initEntry ?_⟩))
  exact exc_init_tree (cls := .ref C) (t0 := t0) (dv := none) (c2 := .none) (c3 := .none) (b4 := .bool false) he hz fun hz k e' _ => kq hz _ k e'
/-- the first field -/
theorem sup_new {hp : Heap} {g : Array GenState} {d : Drawn} {t : Nat} {os : OsState} {R : Result → Shared → Prop} {name : Str} {tk : Tok} {v : Value} {x t0 : Addr}
    (T : SupC K B newId i bmB C) (X : K.In hp) (hx : hp.get? x = some (excObj C t0 none .none)) (ht : takerIn K C name = some none)
    (kq : ∀ hz tz dx, (∀ b o, b ≠ x → hp.get? b = some o → hz.get? b = some o) → hp.objs.size ≤ dx → dx ≠ x → hz.get? x = some (excObj C t0 (some dx) .none) →
      hz.Ns1 dx (fun y => if y = name then some v else none) → R (.ok (.ret .none)) ⟨hz, g, d, tz, os⟩) :
    codeAny (model P w) A (.call (.builtin "object.__setattr__") ⟨[.ref x, .str name tk, v], []⟩) R ⟨hp, g, d, t, os⟩ := by
  have nxs : x ≠ hp.objs.size := Nat.ne_of_lt (Heap.lt_size hx)
  refine osa_openX (od := none) T.SF X ⟨hx, rfl, rfl, trivial⟩ T.ov ht fun b => ?_
  obtain ⟨cd, hc, hd2⟩ := any_some T.hdC
  refine wpAny_bind (wpAny_pure (wpAny_bind (instanceDict_exc hx (looks_clsIn X hc) hd2 ?_)))
  refine HandSPX.store_in_new ?_ fun hz tz hn2 sb => ?_
  · exact ⟨_, #[], _, (Heap.get?_update_ne _ _ _ _ nxs.symm).trans (Heap.get?_push_at rfl rfl), rfl, fun e he => absurd he (by simp), fun _ => rfl⟩
  · have hx1 : (hp.push { cls := .type "dict", data := .dict #[] }).get? x = some (excObj C t0 none .none) := Heap.get?_push_of_some _ hx
    refine kq hz tz hp.objs.size (fun b o hb ho => ?_) (Nat.le_refl _) nxs.symm ?_ hn2
    · exact (sb.2 b (Nat.ne_of_lt (Heap.lt_size ho))).trans ((Heap.get?_update_ne _ _ _ _ hb).trans (Heap.get?_push_of_some _ ho))
    · exact (sb.2 x nxs).trans (Heap.get?_update_self _ hx1 rfl)
/-- a later field -/
theorem sup_old {hp : Heap} {g : Array GenState} {d : Drawn} {t : Nat} {os : OsState} {R : Result → Shared → Prop} {name : Str} {tk : Tok} {v : Value} {x dx t0 : Addr} {m0 : Str → Option Value} {nl : List Str}
    (T : SupC K B newId i bmB C) (X : K.In hp) (hx : hp.get? x = some (excObj C t0 (some dx) .none)) (hns : hp.Ns1 dx m0) (hw : Within m0 nl) (hz : nl.length ≤ 1000) (ht : takerIn K C name = some none)
    (kq : ∀ hz tz, (∀ b o, b ≠ dx → hp.get? b = some o → hz.get? b = some o) → hz.Ns1 dx (fun y => if y = name then some v else m0 y) → R (.ok (.ret .none)) ⟨hz, g, d, tz, os⟩) :
    codeAny (model P w) A (.call (.builtin "object.__setattr__") ⟨[.ref x, .str name tk, v], []⟩) R ⟨hp, g, d, t, os⟩ := by
  obtain ⟨uD, eD, pD, gD, dD, _⟩ := hns.count hw
  refine osa_openX (od := some uD) T.SF X ⟨hx, rfl, rfl, gD⟩ T.ov ht fun b => ?_
  obtain ⟨cd, hc, hd2⟩ := any_some T.hdC
  refine wpAny_bind (wpAny_pure (wpAny_bind (wpAny_bind (wpAny_loadPart hx (wpAny_bind ((looks_clsIn X hc).here ?_))))))
  rw [hd2]
  refine wpAny_pure (a := some dx) ?_
  exact PySem.ESX.store_in_old hns hw hz fun hz tz hn2 sb => kq hz tz (fun b o hb ho => (sb.2 b hb).trans ho) hn2
/-- the scope of such an __init__ -/
abbrev supS (nms : List (Str × NameKind)) : Scope := { kind := .function, names := nms, isGenerator := false, isCoroutine := false, more := [] }
/-- super().__init__(text): the error's args are new, all else stays -/
theorem sup_first {E : Value → Shared → Prop} {mg : Str → Option Value} {base h : Heap} {g : Array GenState} {d : Drawn} {t : Nat} {os : OsState} {L x t0 fI cda cc : Addr} {qual msg : Str} {params : Arguments} {body0 body : List Stmt} {nms : List (Str × NameKind)}
    {doc pm ct oc ccl cl : Value} {an od cdd cld : Option Addr} {osl ccs csl : Array (Option Value)} {vs : Array Value} {file : Str} {tf : Tok} {ar : Arg} {m : Str → Option Value} {p0 p1 p2 p3 p4 p5 : Pos} {j : Nat} {Q : Flow → Shared → Prop}
    (T : SupC K B newId i bmB C) (X : K.In h) (Md : Mod K mg base) (kb : ∀ b o, base.get? b = some o → h.get? b = some o) (hsup : mg "super" = none)
    (ho : K.lookup fI = some ⟨oc, od, .func (ksFn "__init__" qual params body0 (supS nms) .none .none doc pm an (.ref cda) ct cc), osl⟩)
    (hcode : K.lookup cda = some ⟨ccl, cdd, .fields vs, ccs⟩) (hvs : vs[2]? = some (.str file tf)) (hfile : ((P.main.file : Str) == file) = true) (htop : (P.main.scope.names.lookup ("super" : Str)).isSome = false)
    (hcell : K.lookup cc = some ⟨cl, cld, .cell (some (.ref C)), csl⟩) (hns : h.Ns L m) (hself : m "self" = some (.ref x)) (hx : h.get? x = some (HandSPX.excO C t0))
    (hp : (params.posonlyargs ++ params.args).head? = some ar) (har : ar.arg = "self")
    (hks : nms.lookup ("super" : Str) = some .globalImplicit) (hkc : nms.lookup ("__class__" : Str) = some .free) (hka : nms.lookup ("self" : Str) = some .local)
    (hpos : (p2.endLine == p4.line) = true)
    (hq : ∀ h' tk t1, (∀ b o, b ≠ x → h.get? b = some o → h'.get? b = some o) → h'.get? x = some (HandSPX.excO C t1) → Q .next ⟨h', g, d, tk, os⟩) :
    PySem.wpAt (model P w) A (.func body (ksEnv qual (supS nms) L fI (.ref cda) cc)) (exec (.Expr (.Call (.Attribute (.Call (.Name "super" p0) [] [] p1) "__init__" p2) [.Constant (.str msg) j p3] [] p4) p5) (ksEnv qual (supS nms) L fI (.ref cda) cc)) Q E ⟨h, g, d, t, os⟩ := by
  obtain ⟨cd, hcC, _⟩ := any_some T.hdC
  obtain ⟨oD, hD1, hD2⟩ : ∃ oD, h.get? C = some oD ∧ oD.data = .cls cd := by
    unfold clsIn at hcC
    split at hcC
    · rename_i c d cd' sl ho'
      cases hcC
      exact ⟨_, X _ _ ho', rfl⟩
    · cases hcC
  have hxC : x ≠ C := by
    intro e
    rw [e, hD1] at hx
    cases hx
    cases hD2
  obtain ⟨mb, hb1, hb2⟩ := Md.blt
  refine ks_wpAt_Expr_any ?_
  refine ks_wpAt_MethodCall (pl := (do return (← importBound (.Call (.Name "super" p0) [] [] p1) (ksEnv qual (supS nms) L fI (.ref cda) cc)).getD true)) ?_ (he := by
    show (do
      let ov ← attributeBase (.Call (.Name "super" p0) [] [] p1) "__init__" _ _
      standAt p2.atName
      methodCall _ _ _ _ _ ov _ _ _) = _
    unfold methodCall methodCallPos
    rw [hpos]
    rfl)
  refine ks_wpAt_super_base hks hkc rfl rfl (X _ _ ho) rfl hp rfl (X _ _ hcode) rfl hvs hfile htop ?_
  refine ks_loadName_global rfl hks (loadGlobal_builtin (env := ksEnv qual (supS nms) L fI (.ref cda) cc) (Md.glob.keeps kb) hsup (hb1.keeps kb) ((hb2 "super" (by decide)).trans (by first | boot_by_name | rfl | kernel_rfl)) ⟨rfl, ?_⟩)
  refine wpAny_loadName_free rfl hkc rfl ⟨_, X _ _ hcell, rfl⟩ ?_
  rw [har]
  refine wpAny_loadName_local rfl hka hns hself ?_
  refine ks_wpAny_isType_cls hD1 hD2 ⟨rfl, ?_⟩
  refine ks_wpAny_call_super hD1 hD2 hx rfl (fun c e => by cases e) (looks_mroIn X T.mroC) (fun h1 e1 k1 => ?_)
  have X1 : K.In h1 := X.keeps k1
  have sI : alongIn K "__init__" ((cd.mro.dropWhile (· != .ref C)).drop 1) = some (some (.builtin i)) := by
    have z := T.supI
    unfold ks_superIn at z
    rw [hcC] at z
    exact z
  have hI : Looks (model P w) h1 (isInstance (.ref x) (.type B)) true := (InstAt.type (⟨k1 _ _ hx, rfl, rfl, trivial⟩ : InstAt h1 x (HandSPX.excO C t0) C none)).andThen (looks_subIn X1 T.subB)
  refine kxs_getMethod T.KF e1 (looks_opaque X1 T.tp) (l₀ := cd.mro) (fun A Q E s k q => wpAny_bind ((looks_clsIn X1 hcC) A _ E s k (wpAny_pure q))) rfl X1 sI hI hxC (by decide) ?_
  refine kxs_callWith (x := x) (i := i) rfl (evalArgs_plain (spliced_cons (wpAny_Constant_str (k := j) (pos := p3) (spliced_nil ⟨Heap.get?_push_at rfl rfl, ?_⟩))))
  have kp : ∀ b o, h1.get? b = some o → (h1.push (kxs_mw i x)).get? b = some o := fun b o e => Heap.get?_push_of_some _ e
  refine sup_call T (X1.keeps kp) (kp _ _ (k1 _ _ hx)) (Heap.get?_push_at rfl rfl) (by show 1 ≤ sizeLine; rw [sizeLine_eq]; decide) fun h' t1 k' e' => ?_
  exact hq h' _ t1 (fun b o hb e => k' b o hb (kp _ _ (k1 _ _ e))) e'
/-- the places of the first statement -/
structure SupP where
  p0 : Pos
  p1 : Pos
  p2 : Pos
  p3 : Pos
  p4 : Pos
  p5 : Pos
  j : Nat
abbrev supE (msg : Str) (z : SupP) : Stmt := .Expr (.Call (.Attribute (.Call (.Name "super" z.p0) [] [] z.p1) "__init__" z.p2) [.Constant (.str msg) z.j z.p3] [] z.p4) z.p5
/-- the places of a storing statement -/
structure SupQ where
  q1 : Pos
  q2 : Pos
  q3 : Pos
  q4 : Pos
abbrev supA (f : Str) (z : SupQ) : Stmt := .Assign [.Attribute (.Name "self" z.q1) f z.q2] (.Name f z.q3) z.q4
theorem ns_but {h h' : Heap} {L x : Addr} {m : Str → Option Value} (hn : h.Ns L m) (hx : L ≠ x) (k : ∀ b o, b ≠ x → h.get? b = some o → h'.get? b = some o) : h'.Ns L m := by
  obtain ⟨oL, es, ep, hL, r⟩ := hn
  exact ⟨oL, es, ep, k _ _ hx hL, r⟩
theorem in_but {h h' : Heap} {x : Addr} (X : K.In h) (hx : K.lookup x = none) (k : ∀ b o, b ≠ x → h.get? b = some o → h'.get? b = some o) : K.In h' := fun a o e => k a o (fun z => by rw [z, hx] at e; cases e) (X a o e)
/-- what __init__ leaves -/
structure SupEnd (h h' : Heap) (x C dx t1 : Addr) (mA : Str → Option Value) : Prop where
  keep : ∀ b o, b ≠ x → h.get? b = some o → h'.get? b = some o
  obj : h'.get? x = some (excObj C t1 (some dx) .none)
  big : h.objs.size ≤ dx
  ne : dx ≠ x
  ns : h'.Ns1 dx mA
theorem sup_init1 {s : Shared} {R : Result → Shared → Prop} {mg : Str → Option Value} {base : Heap} {fI x t0 : Addr} {v : Value} {qual msg f : Str} {params : Arguments} {nms : List (Str × NameKind)} {ar : Arg} {z : SupP} {z1 : SupQ}
    (T : SupC K B newId i bmB C) (F : SupF P K C fI qual params [supE msg z, supA f z1] (supS nms)) (X : K.In s.heap) (Md : Mod K mg base) (kb : ∀ b o, base.get? b = some o → s.heap.get? b = some o) (hsup : mg "super" = none)
    (hlim : s.heap.NoLimit) (hx : s.heap.get? x = some (HandSPX.excO C t0)) (hnx : K.lookup x = none) (hroom : A.depth < recursionLimit) (ht : takerIn K C f = some none)
    (hbind : ∀ (doc pm : Value) (an : Option Addr) (cdv ct : Value) (cc : Addr), BindsTo s (ksFn "__init__" qual params [supE msg z, supA f z1] (supS nms) .none .none doc pm an cdv ct cc) ⟨[.ref x, v], []⟩ [("self", .ref x), (f, v)])
    (hp : (params.posonlyargs ++ params.args).head? = some ar) (har : ar.arg = "self") (hcl : ∀ y ∈ nms, y.2 ≠ .cell)
    (hks : nms.lookup ("super" : Str) = some .globalImplicit) (hkc : nms.lookup ("__class__" : Str) = some .free) (hka : nms.lookup ("self" : Str) = some .local) (hkf : nms.lookup f = some .local)
    (hf1 : (("self" : Str) == f) = false) (hf2 : (f == ("__debug__" : Str)) = false) (hpos : (z.p2.endLine == z.p4.line) = true)
    (hq : ∀ h' tk dx t1, SupEnd s.heap h' x C dx t1 (fun y => if y = f then some v else none) → R (.ok (.ret .none)) { s with heap := h', toks := tk }) :
    codeAny (model P w) A (.call (.ref fI) ⟨[.ref x, v], []⟩) R s := by
  obtain ⟨oc, od, doc, pm, an, cda, ct, cc, osl, ⟨ho, hcd⟩, ⟨ccl, cdd, vs, ccs, file, tf, hcode, hvs, hfile⟩, cl, cld, csl, hcell⟩ := F.fn
  refine ks_codeAny_call_defAt (binds := [("self", .ref x), (f, v)]) hroom (X _ _ ho) rfl hlim (codeRec_of X hcd) rfl (hbind _ _ _ _ _ _) hcl (fun y hy => ?_) (fun h1 hns k1 => ?_)
  · rcases List.mem_cons.mp hy with rfl | hy
    · exact hka
    · rcases List.mem_cons.mp hy with rfl | hy
      · exact hkf
      · cases hy
  have X1 : K.In h1 := X.keeps k1
  have hLx : s.heap.objs.size ≠ x := Nat.ne_of_gt (Heap.lt_size hx)
  have mS : (fun y : Str => List.lookup y ([(("self" : Str), Value.ref x), (f, v)] : List (Str × Value)).reverse) ("self" : Str) = some (.ref x) := by
    show List.lookup ("self" : Str) ([(f, v), (("self" : Str), Value.ref x)] : List (Str × Value)) = _
    rw [List.lookup_cons, hf1]
    rfl
  have mF : (fun y : Str => List.lookup y ([(("self" : Str), Value.ref x), (f, v)] : List (Str × Value)).reverse) f = some v := by
    show List.lookup f ([(f, v), (("self" : Str), Value.ref x)] : List (Str × Value)) = _
    rw [List.lookup_cons, beq_self_eq_true]
  refine ks_wpAt_execs_cons (sup_first T X1 Md (fun b o e => k1 b o (kb b o e)) hsup ho hcode hvs hfile F.top hcell hns mS (k1 _ _ hx) hp har hks hkc hka hpos fun h2 tk t1 k2 e2 => ?_)
  have X2 : K.In h2 := in_but X1 hnx k2
  have n2 := ns_but hns hLx k2
  refine wpAt_of_wpAny (wpAny_execs_cons (plainObj_wpAny_Assign_Attribute ?_))
  refine wpAny_Name (wpAny_loadName_local rfl hkf n2 mF ?_) hf2
  refine wpAny_Name (wpAny_loadName_local rfl hka n2 mS ?_) (by decide)
  refine set_plain X2 (ox := excObj C t1 none .none) (od := none) ⟨e2, rfl, rfl, trivial⟩ T.sa ?_
  refine sup_new T X2 e2 ht fun h3 tk3 dx k3 dn dne e3 n3 => ?_
  show wpAny _ _ (execs _ _) _ _ _
  have lt : s.heap.objs.size < h2.objs.size := n2.lt
  exact wpAny_execs_nil (hq h3 tk3 dx t1 ⟨fun b o hb e => k3 b o hb (k2 b o hb (k1 b o e)), e3, Nat.le_of_lt (Nat.lt_of_lt_of_le lt dn), dne, n3⟩)
theorem sup_init2 {s : Shared} {R : Result → Shared → Prop} {mg : Str → Option Value} {base : Heap} {fI x t0 : Addr} {v v' : Value} {qual msg f f' : Str} {params : Arguments} {nms : List (Str × NameKind)} {ar : Arg} {z : SupP} {z1 z2 : SupQ}
    (T : SupC K B newId i bmB C) (F : SupF P K C fI qual params [supE msg z, supA f z1, supA f' z2] (supS nms)) (X : K.In s.heap) (Md : Mod K mg base) (kb : ∀ b o, base.get? b = some o → s.heap.get? b = some o) (hsup : mg "super" = none)
    (hlim : s.heap.NoLimit) (hx : s.heap.get? x = some (HandSPX.excO C t0)) (hnx : K.lookup x = none) (hroom : A.depth < recursionLimit) (ht : takerIn K C f = some none) (ht' : takerIn K C f' = some none)
    (hbind : ∀ (doc pm : Value) (an : Option Addr) (cdv ct : Value) (cc : Addr), BindsTo s (ksFn "__init__" qual params [supE msg z, supA f z1, supA f' z2] (supS nms) .none .none doc pm an cdv ct cc) ⟨[.ref x, v, v'], []⟩ [("self", .ref x), (f, v), (f', v')])
    (hp : (params.posonlyargs ++ params.args).head? = some ar) (har : ar.arg = "self") (hcl : ∀ y ∈ nms, y.2 ≠ .cell)
    (hks : nms.lookup ("super" : Str) = some .globalImplicit) (hkc : nms.lookup ("__class__" : Str) = some .free) (hka : nms.lookup ("self" : Str) = some .local) (hkf : nms.lookup f = some .local) (hkg : nms.lookup f' = some .local)
    (hf1 : (("self" : Str) == f) = false) (hf2 : (f == ("__debug__" : Str)) = false) (hg1 : (("self" : Str) == f') = false) (hg2 : (f' == ("__debug__" : Str)) = false) (hfg : (f == f') = false) (hpos : (z.p2.endLine == z.p4.line) = true)
    (hq : ∀ h' tk dx t1, SupEnd s.heap h' x C dx t1 (fun y => if y = f' then some v' else if y = f then some v else none) → R (.ok (.ret .none)) { s with heap := h', toks := tk }) :
    codeAny (model P w) A (.call (.ref fI) ⟨[.ref x, v, v'], []⟩) R s := by
  obtain ⟨oc, od, doc, pm, an, cda, ct, cc, osl, ⟨ho, hcd⟩, ⟨ccl, cdd, vs, ccs, file, tf, hcode, hvs, hfile⟩, cl, cld, csl, hcell⟩ := F.fn
  refine ks_codeAny_call_defAt (binds := [("self", .ref x), (f, v), (f', v')]) hroom (X _ _ ho) rfl hlim (codeRec_of X hcd) rfl (hbind _ _ _ _ _ _) hcl (fun y hy => ?_) (fun h1 hns k1 => ?_)
  · rcases List.mem_cons.mp hy with rfl | hy
    · exact hka
    · rcases List.mem_cons.mp hy with rfl | hy
      · exact hkf
      · rcases List.mem_cons.mp hy with rfl | hy
        · exact hkg
        · cases hy
  have X1 : K.In h1 := X.keeps k1
  have hLx : s.heap.objs.size ≠ x := Nat.ne_of_gt (Heap.lt_size hx)
  have mS : (fun y : Str => List.lookup y ([(("self" : Str), Value.ref x), (f, v), (f', v')] : List (Str × Value)).reverse) ("self" : Str) = some (.ref x) := by
    show List.lookup ("self" : Str) ([(f', v'), (f, v), (("self" : Str), Value.ref x)] : List (Str × Value)) = _
    rw [List.lookup_cons, hg1]
    show List.lookup ("self" : Str) ([(f, v), (("self" : Str), Value.ref x)] : List (Str × Value)) = _
    rw [List.lookup_cons, hf1]
    rfl
  have mF : (fun y : Str => List.lookup y ([(("self" : Str), Value.ref x), (f, v), (f', v')] : List (Str × Value)).reverse) f = some v := by
    show List.lookup f ([(f', v'), (f, v), (("self" : Str), Value.ref x)] : List (Str × Value)) = _
    rw [List.lookup_cons, hfg]
    show List.lookup f ([(f, v), (("self" : Str), Value.ref x)] : List (Str × Value)) = _
    rw [List.lookup_cons, beq_self_eq_true]
  have mG : (fun y : Str => List.lookup y ([(("self" : Str), Value.ref x), (f, v), (f', v')] : List (Str × Value)).reverse) f' = some v' := by
    show List.lookup f' ([(f', v'), (f, v), (("self" : Str), Value.ref x)] : List (Str × Value)) = _
    rw [List.lookup_cons, beq_self_eq_true]
  refine ks_wpAt_execs_cons (sup_first T X1 Md (fun b o e => k1 b o (kb b o e)) hsup ho hcode hvs hfile F.top hcell hns mS (k1 _ _ hx) hp har hks hkc hka hpos fun h2 tk t1 k2 e2 => ?_)
  have X2 : K.In h2 := in_but X1 hnx k2
  have n2 := ns_but hns hLx k2
  refine wpAt_of_wpAny (wpAny_execs_cons (plainObj_wpAny_Assign_Attribute ?_))
  refine wpAny_Name (wpAny_loadName_local rfl hkf n2 mF ?_) hf2
  refine wpAny_Name (wpAny_loadName_local rfl hka n2 mS ?_) (by decide)
  refine set_plain X2 (ox := excObj C t1 none .none) (od := none) ⟨e2, rfl, rfl, trivial⟩ T.sa ?_
  refine sup_new T X2 e2 ht fun h3 tk3 dx k3 dn dne e3 n3 => ?_
  show wpAny _ _ (execs _ _) _ _ _
  have lt : s.heap.objs.size < h2.objs.size := n2.lt
  have Ld : s.heap.objs.size ≠ dx := Nat.ne_of_lt (Nat.lt_of_lt_of_le lt dn)
  have X3 : K.In h3 := in_but X2 hnx k3
  have N3 := ns_but n2 hLx k3
  refine wpAny_execs_cons (plainObj_wpAny_Assign_Attribute ?_)
  refine wpAny_Name (wpAny_loadName_local rfl hkg N3 mG ?_) hg2
  refine wpAny_Name (wpAny_loadName_local rfl hka N3 mS ?_) (by decide)
  obtain ⟨oD, esD, epD, hoD, hdD, _⟩ := n3.count (Within.cons f v Within.nil)
  refine set_plain X3 (ox := excObj C t1 (some dx) .none) (od := some oD) ⟨e3, rfl, rfl, hoD⟩ T.sa ?_
  refine sup_old T X3 e3 n3 (Within.cons f v Within.nil) (by show 1 ≤ 1000; decide) ht' fun h4 tk4 k4 n4 => ?_
  show wpAny _ _ (execs _ _) _ _ _
  have nd : ∀ b o, s.heap.get? b = some o → b ≠ dx := fun b o e q => by
    have z := Nat.lt_of_lt_of_le (Nat.lt_trans (Heap.lt_size e) lt) dn
    rw [q] at z
    exact Nat.lt_irrefl _ z
  exact wpAny_execs_nil (hq h4 tk4 dx t1 ⟨fun b o hb e => k4 b o (nd b o e) (k3 b o hb (k2 b o hb (k1 b o e))), k4 _ _ (Ne.symm dne) e3, Nat.le_of_lt (Nat.lt_of_lt_of_le lt dn), dne, n4⟩)
/-- a made error: its own dict d bears mA -/
structure SupMade (h h' : Heap) (e C d : Addr) (mA : Str → Option Value) : Prop where
  keep : ∀ b o, h.get? b = some o → h'.get? b = some o
  new : h.objs.size ≤ e
  obj : ∃ t1, h'.get? e = some (excObj C t1 (some d) .none)
  dbig : h.objs.size ≤ d
  dne : d ≠ e
  ns : h'.Ns1 d mA
/-- what is asked of the text of a one-field __init__ -/
structure SupS1 (qual msg f : Str) (params : Arguments) (nms : List (Str × NameKind)) (z : SupP) (z1 : SupQ) : Prop where
  bind : ∀ (s : Shared) (x : Addr) (v doc pm : Value) (an : Option Addr) (cdv ct : Value) (cc : Addr), BindsTo s (ksFn "__init__" qual params [supE msg z, supA f z1] (supS nms) .none .none doc pm an cdv ct cc) ⟨[.ref x, v], []⟩ [("self", .ref x), (f, v)]
  hp : ∃ ar : Arg, (params.posonlyargs ++ params.args).head? = some ar ∧ ar.arg = "self"
  hcl : ∀ y ∈ nms, y.2 ≠ .cell
  hks : nms.lookup ("super" : Str) = some .globalImplicit
  hkc : nms.lookup ("__class__" : Str) = some .free
  hka : nms.lookup ("self" : Str) = some .local
  hkf : nms.lookup f = some .local
  hf1 : (("self" : Str) == f) = false
  hf2 : (f == ("__debug__" : Str)) = false
  hpos : (z.p2.endLine == z.p4.line) = true
structure SupS2 (qual msg f f' : Str) (params : Arguments) (nms : List (Str × NameKind)) (z : SupP) (z1 z2 : SupQ) : Prop where
  bind : ∀ (s : Shared) (x : Addr) (v v' doc pm : Value) (an : Option Addr) (cdv ct : Value) (cc : Addr), BindsTo s (ksFn "__init__" qual params [supE msg z, supA f z1, supA f' z2] (supS nms) .none .none doc pm an cdv ct cc) ⟨[.ref x, v, v'], []⟩ [("self", .ref x), (f, v), (f', v')]
  hp : ∃ ar : Arg, (params.posonlyargs ++ params.args).head? = some ar ∧ ar.arg = "self"
  hcl : ∀ y ∈ nms, y.2 ≠ .cell
  hks : nms.lookup ("super" : Str) = some .globalImplicit
  hkc : nms.lookup ("__class__" : Str) = some .free
  hka : nms.lookup ("self" : Str) = some .local
  hkf : nms.lookup f = some .local
  hkg : nms.lookup f' = some .local
  hf1 : (("self" : Str) == f) = false
  hf2 : (f == ("__debug__" : Str)) = false
  hg1 : (("self" : Str) == f') = false
  hg2 : (f' == ("__debug__" : Str)) = false
  hfg : (f == f') = false
  hpos : (z.p2.endLine == z.p4.line) = true
theorem sup_made {s : Shared} {R : Result → Shared → Prop} {fI : Addr} {vs : List Value} {mA : Str → Option Value}
    (T : SupC K B newId i bmB C) (iC : findIn K (.ref C) "__init__" = some (some (.ref fI))) (tI : typeIn K (.ref fI) = some (.type "function")) (X : K.In s.heap) (hlim : s.heap.NoLimit) (hz : vs.length ≤ sizeLine)
    (hi : ∀ (A' : Around) (s' : Shared) (x t0 : Addr) (R' : Result → Shared → Prop), A'.depth = A.depth + 1 → (∀ b o, s.heap.get? b = some o → s'.heap.get? b = some o) → s'.heap.NoLimit → s'.heap.get? x = some (HandSPX.excO C t0) → K.lookup x = none →
      (∀ h' tk dx t1, SupEnd s'.heap h' x C dx t1 mA → R' (.ok (.ret .none)) { s' with heap := h', toks := tk }) → codeAny (model P w) A' (.call (.ref fI) ⟨.ref x :: vs, []⟩) R' s')
    (hq : ∀ h' tk e d, SupMade s.heap h' e C d mA → R (.ok (.ret (.ref e))) { s with heap := h', toks := tk }) :
    codeAny (model P w) A (.call (.ref C) ⟨vs, []⟩) R s := by
  obtain ⟨nm, N, qn, bs, bm, hdct, sn, sub, ab, col, dd, k0, k1, k2, k3, k5, hC, hT⟩ := excInit_of X T.exI
  obtain ⟨hp, g, dr, tk, os⟩ := s
  have k : ∀ b o, hp.get? b = some o → ((hp.push (kdv_tup vs)).push (HandSPX.excO C hp.objs.size)).get? b = some o := fun b o e => Heap.get?_push_of_some _ (Heap.get?_push_of_some _ e)
  have hget : ((hp.push (kdv_tup vs)).push (HandSPX.excO C hp.objs.size)).get? (hp.objs.size + 1) = some (HandSPX.excO C hp.objs.size) := by heap_get
  have hnx : K.lookup (hp.objs.size + 1) = none := by
    cases e : K.lookup (hp.objs.size + 1) with
    | none => rfl
    | some o =>
      have z : hp.get? (hp.objs.size + 1) = some o := X _ _ e
      exact absurd (Nat.lt_of_succ_lt (Heap.lt_size z)) (Nat.lt_irrefl _)
  refine HandSPX.call_own T.FB hT hC (looks_findIn X iC) (fun self => bind_fn X self tI) hz ?_
  refine hi _ ⟨(hp.push (kdv_tup vs)).push (HandSPX.excO C hp.objs.size), g, dr, tk, os⟩ _ _ _ rfl k (hlim.keeps k) hget hnx fun h' tk' dx t1 e => ?_
  have old : ∀ b o, hp.get? b = some o → h'.get? b = some o := fun b o q => e.keep b o (Nat.ne_of_lt (Nat.lt_succ_of_lt (Heap.lt_size q))) (k b o q)
  have zz : hp.objs.size + 1 + 1 ≤ dx := by
    have q := e.big
    first
      | (simpa only [Heap.size_push] using q)
      | exact q
  exact ⟨rfl, hq h' tk' (hp.objs.size + 1) dx ⟨old, Nat.le_succ _, ⟨t1, e.obj⟩, Nat.le_trans (Nat.le_trans (Nat.le_succ _) (Nat.le_succ _)) zz, e.ne, e.ns⟩⟩
end
end
/-! ### made and raised, in the hand layer -/
theorem relO_one {v : V} {v' : Value} {f : Str} (r : RelV v v') (y : Str) : RelO (List.lookup y [(f, v)]) (if y = f then some v' else none) := by
  by_cases e : y = f
  · subst e
    rw [if_pos rfl, List.lookup_cons, beq_self_eq_true]
    exact r
  · rw [if_neg e, List.lookup_cons, beq_eq_false_iff_ne.mpr e]
    trivial
theorem relO_two {v u : V} {v' u' : Value} {f g : Str} (r : RelV v v') (q : RelV u u') (y : Str) : RelO (List.lookup y [(g, u), (f, v)]) (if y = g then some u' else if y = f then some v' else none) := by
  by_cases e : y = g
  · subst e
    rw [if_pos rfl, List.lookup_cons, beq_self_eq_true]
    exact q
  · rw [if_neg e, List.lookup_cons, beq_eq_false_iff_ne.mpr e]
    exact relO_one r y
/-- what is common to the classes of errors that are made here -/
structure ErC (K : PySem.W.Frag) (mg : Str → Option Value) (cn : Str) (C : Addr) : Prop where
  g : mg cn = some (.ref C)
  gs : mg "super" = none
  kC : PySem.W.keepIn K (.ref C) = true
  exC : PySem.W.subIn K (.ref C) (.type "BaseException") = some true
  tyC : PySem.W.typeIn K (.ref C) = some (.type "type")
  ec : ExcC K C
theorem ErC.xf {K : PySem.W.Frag} {mg : Str → Option Value} {cn : Str} {C : Addr} (T : ErC K mg cn C) : XfC K C := ⟨T.ec.hg, T.ec.hk, T.ec.hs, T.ec.hd⟩
/-- one field -/
structure Er1 (P : Program) (K : PySem.W.Frag) (mg : Str → Option Value) (cn : Str) (C : Addr) (f : Str) : Prop extends ErC K mg cn C where
  ex : ∃ (B newId i : String) (bmB : List Value) (fI : Addr) (qual msg : Str) (params : Arguments) (nms : List (Str × NameKind)) (z : SupP) (z1 : SupQ),
    SupC K B newId i bmB C ∧ SupF P K C fI qual params [supE msg z, supA f z1] (supS nms) ∧ SupS1 qual msg f params nms z z1
  tf : PySem.W.takerIn K C f = some none
  nof : PySem.W.findIn K (.ref C) f = some none
/-- two fields -/
structure Er2 (P : Program) (K : PySem.W.Frag) (mg : Str → Option Value) (cn : Str) (C : Addr) (f f' : Str) : Prop extends ErC K mg cn C where
  ex : ∃ (B newId i : String) (bmB : List Value) (fI : Addr) (qual msg : Str) (params : Arguments) (nms : List (Str × NameKind)) (z : SupP) (z1 z2 : SupQ),
    SupC K B newId i bmB C ∧ SupF P K C fI qual params [supE msg z, supA f z1, supA f' z2] (supS nms) ∧ SupS2 qual msg f f' params nms z z1 z2
  tf : PySem.W.takerIn K C f = some none
  tg : PySem.W.takerIn K C f' = some none
  nof : PySem.W.findIn K (.ref C) f = some none
  nog : PySem.W.findIn K (.ref C) f' = some none
section
variable {X : Cx} {C : Addr} {cn f f' : Str}
/-- behind the making: the error is laid beside, its dict into the heap that is told -/
theorem mkp_made {pins : List (Addr × Obj)} {σ : L2.St} {H1 : Hp} {s1 : Shared} {Q : XK} {fs : List (Str × V)} {mA : Str → Option Value} {h' : Heap} {tk : Nat} {e d : Addr} (I1 : Inv X pins σ H1 s1) (E : ErC X.K X.mg cn C) (M : SupMade s1.heap h' e C d mA)
    (hr : ∀ y, RelO (List.lookup y fs) (mA y)) (q : Q (.ref C) (some d) (upd H1 d (.xd fs))) : L2N.MkP X pins σ Q (.ref e) { s1 with heap := h', toks := tk } := by
  obtain ⟨hp, g, dr, tk0, os⟩ := s1
  obtain ⟨t1, he⟩ := M.obj
  have hns := M.ns
  obtain ⟨G', r1, r2⟩ := restrict h' fun b => decide (b ≠ e)
  have g1 : ∀ b, b ≠ e → G'.get? b = h'.get? b := fun b hb => r1 b (decide_eq_true hb)
  have g2 : G'.get? e = none := r2 e (by simp)
  have old : ∀ b o, hp.get? b = some o → G'.get? b = some o := fun b o q => (g1 b (Nat.ne_of_lt (Nat.lt_of_lt_of_le (Heap.lt_size q) M.new))).trans (M.keep b o q)
  have ob : ObjOk X.prog X.w (upd H1 d (.xd fs)) G' d (.xd fs) := ⟨_, hns.at (fun o q => (g1 d M.dne).trans q), hr⟩
  have J : Inv X pins σ (upd H1 d (.xd fs)) ⟨G', g, dr, tk, os⟩ := I1.laid (t' := tk) old M.dbig ob
  refine ⟨e, _, _, ⟨G', g, dr, tk, os⟩, _, .ref C, some d, rfl, J, fun b o q => ?_, g2, he, ⟨rfl, rfl, fun vs h => by cases h; rfl⟩, rfl, rfl, ?_, rfl, I1.bare, raises_own E.exC E.tyC, q⟩
  · by_cases hb : b = e
    · have q' : G'.get? b = some o := q
      rw [hb, g2] at q'
      cases q'
    · exact (g1 b hb).symm.trans q
  · rw [upd_ne (Ne.symm M.dne)]
    exact I1.hok.fresh M.new
/-- cn(a) -/
def tMk1 (C : Addr) (f : Str) (ta : TA) : L2.St → Hp → XK → Prop := fun σ H Q => ta σ H fun vs H1 => ∃ v, vs = [v] ∧ ∀ d, H1 d = none → Q (.ref C) (some d) (upd H1 d (.xd [(f, v)]))
def tMk2 (C : Addr) (f f' : Str) (ta : TA) : L2.St → Hp → XK → Prop := fun σ H Q => ta σ H fun vs H1 => ∃ v u, vs = [v, u] ∧ ∀ d, H1 d = none → Q (.ref C) (some d) (upd H1 d (.xd [(f', u), (f, v)]))
theorem pmk_1 {a : Expr} {ta : TA} {p pos : Pos} {k : Nat} (T : Er1 X.prog X.K X.mg cn C f) (hr : Room k X.A) (ha : PA X [a] ta) (hg : Gl X cn := by rfl) (hd : (cn == ("__debug__" : Str)) = false := by decide)
    (he : starEach (a :: []) X.env = (false, eval a X.env) :: starEach [] X.env := by rfl) (hpl : (backTo pos (starEach [] X.env)).any (·.1) = false := by rfl) : L2N.PMk X (.Call (.Name cn p) [a] [] pos) (tMk1 C f ta) := by
  intro pins s σ H Q I h
  refine wpAny_Call_Name_kw (ld_glob I hg T.g ?_ hd)
  refine PySem.W.callWith_K (h₀ := X.base) I.ok.mod.kin T.kC (thn (ha.run pos pins s σ H _ I h) fun us s1 hh => ?_) he hpl
  obtain ⟨vs, H1, I1, r1, v, ev, q1⟩ := hh
  subst ev
  refine ⟨I1.kIn, ?_⟩
  cases r1 with
  | cons rv rn =>
    rename_i v' us'
    cases rn
    obtain ⟨B, newId, i, bmB, fI, qual, msg, params, nms, z, z1, TC, TF, TS⟩ := T.ex
    obtain ⟨ar, hp1, hp2⟩ := TS.hp
    refine wpAny_call (sup_made TC TF.iC TF.tI I1.kIn I1.nolimit (by show 1 ≤ sizeLine; rw [sizeLine_eq]; decide) (fun A' s' x t0 R' dA k' lim hx hnx hq => ?_) fun h' tk e d M => mkp_made I1 T.toErC M (relO_one rv) (q1 d (I1.hok.fresh M.dbig)))
    exact sup_init1 TC TF (I1.kIn.keeps k') I1.ok.mod (fun b o e => k' b o (I1.bk b o e)) T.gs lim hx hnx (by rw [dA]; have := hr.dp; omega) T.tf (TS.bind _ _ _) hp1 hp2 TS.hcl TS.hks TS.hkc TS.hka TS.hkf TS.hf1 TS.hf2 TS.hpos hq
theorem pmk_2 {a a' : Expr} {ta : TA} {p pos : Pos} {k : Nat} (T : Er2 X.prog X.K X.mg cn C f f') (hr : Room k X.A) (ha : PA X [a, a'] ta) (hg : Gl X cn := by rfl) (hd : (cn == ("__debug__" : Str)) = false := by decide)
    (he : starEach (a :: [a']) X.env = (false, eval a X.env) :: starEach [a'] X.env := by rfl) (hpl : (backTo pos (starEach [a'] X.env)).any (·.1) = false := by rfl) : L2N.PMk X (.Call (.Name cn p) [a, a'] [] pos) (tMk2 C f f' ta) := by
  intro pins s σ H Q I h
  refine wpAny_Call_Name_kw (ld_glob I hg T.g ?_ hd)
  refine PySem.W.callWith_K (h₀ := X.base) I.ok.mod.kin T.kC (thn (ha.run pos pins s σ H _ I h) fun us s1 hh => ?_) he hpl
  obtain ⟨vs, H1, I1, r1, v, u, ev, q1⟩ := hh
  subst ev
  refine ⟨I1.kIn, ?_⟩
  cases r1 with
  | cons rv rn =>
    rename_i v' us'
    cases rn with
    | cons ru rn =>
      cases rn
      obtain ⟨B, newId, i, bmB, fI, qual, msg, params, nms, z, z1, z2, TC, TF, TS⟩ := T.ex
      obtain ⟨ar, hp1, hp2⟩ := TS.hp
      refine wpAny_call (sup_made TC TF.iC TF.tI I1.kIn I1.nolimit (by show 2 ≤ sizeLine; rw [sizeLine_eq]; decide) (fun A' s' x t0 R' dA k' lim hx hnx hq => ?_) fun h' tk e d M => mkp_made I1 T.toErC M (relO_two rv ru) (q1 d (I1.hok.fresh M.dbig)))
      exact sup_init2 TC TF (I1.kIn.keeps k') I1.ok.mod (fun b o e => k' b o (I1.bk b o e)) T.gs lim hx hnx (by rw [dA]; have := hr.dp; omega) T.tf T.tg (TS.bind _ _ _ _) hp1 hp2 TS.hcl TS.hks TS.hkc TS.hka TS.hkf TS.hkg TS.hf1 TS.hf2 TS.hg1 TS.hg2 TS.hfg TS.hpos hq
/-- isinstance(e, c), e the caught error at a, of the class C, its own dict d -/
def rIsX (K : PySem.W.Frag) (C a : Addr) (cls : Value) (d : Option Addr) : List V → Hp → VK → Prop := fun xs H Q => ∃ (c : V) (cv : Value) (b : Bool) (dd : Addr) (fs : List (Str × V)), cls = .ref C ∧ d = some dd ∧ H dd = some (.xd fs) ∧ xs = [.ref a, c] ∧ (∀ u, RelV c u → u = cv) ∧ PySem.W.kitOne K (.ref C) cv = some b ∧ Q (.bl b) H
theorem call_isX {a : Addr} {oe : Obj} {cls : Value} {d : Option Addr} {pn : List (Addr × Obj)} (T : ExcC X.K C) (hz : Zc cls d oe) (hf : ∃ vs, oe.data = .fields vs) : CallR (X.suite a ((a, oe) :: pn)) (.builtin "isinstance") (rIsX X.K C a cls d) := by
  intro pins s σ H xs us Q I r h
  obtain ⟨c, cv, b, dd, fs, ec, ed, hd, rfl, hcv, e, q⟩ := h
  subst ec ed
  cases r with
  | cons rx rr =>
    cases rr with
    | cons rt rr =>
      cases rr
      cases rx
      have e2 := hcv _ rt
      subst e2
      obtain ⟨hget, _⟩ := I.pin (a, oe) (List.mem_append.mpr (.inl List.mem_cons_self))
      obtain ⟨vs, hv⟩ := hf
      have hx : ObjOk X.prog X.w H s.heap dd (.xd fs) := I.hok dd _ hd
      obtain ⟨mA, hns, _⟩ := hx
      obtain ⟨od, ho, _⟩ := lookIn_ns hns
      have J : PySem.W.InstAt s.heap a oe C (some od) := ⟨hget, hz.1, by unfold PySem.W.notCls; rw [hv] <;> rfl, by rw [hz.2]; exact ho⟩
      obtain ⟨cd, hcd, _⟩ := PySem.W.any_some T.hd
      exact PySem.W.kia_one (PySem.W.kitx_exc (by rw [hcd]; rfl) T.hg T.hk T.hs T.ha T.hn T.ht T.hm) I.kIn J e (fun z => nomatch z) fun tk => ⟨.bl b, H, I.kept (t' := tk) fun _ _ z => z, rfl, q⟩
/-- raise cn(a) -/
def tRaise1 (C : Addr) (f : Str) (W : WX) (ta : TA) : TS := fun _ σ H => tMk1 C f ta σ H fun cls d H' => W cls d σ H'
def tRaise2 (C : Addr) (f f' : Str) (W : WX) (ta : TA) : TS := fun _ σ H => tMk2 C f f' ta σ H fun cls d H' => W cls d σ H'
theorem ps_raise1 {a : Expr} {ta : TA} {W : WX} {p pos pos2 : Pos} {k : Nat} (hc : X.calm = true) (T : Er1 X.prog X.K X.mg cn C f) (hr : Room k X.A) (tk : L2N.Takes X W) (ha : PA X [a] ta) (hg : Gl X cn := by rfl) (hd : (cn == ("__debug__" : Str)) = false := by decide)
    (he : starEach (a :: []) X.env = (false, eval a X.env) :: starEach [] X.env := by rfl) (hpl : (backTo pos (starEach [] X.env)).any (·.1) = false := by rfl) : PS X (.Raise (some (.Call (.Name cn p) [a] [] pos)) none pos2) (tRaise1 C f W ta) :=
  L2N.ps_raise hc tk (pmk_1 T hr ha hg hd he hpl)
theorem ps_raise2 {a a' : Expr} {ta : TA} {W : WX} {p pos pos2 : Pos} {k : Nat} (hc : X.calm = true) (T : Er2 X.prog X.K X.mg cn C f f') (hr : Room k X.A) (tk : L2N.Takes X W) (ha : PA X [a, a'] ta) (hg : Gl X cn := by rfl) (hd : (cn == ("__debug__" : Str)) = false := by decide)
    (he : starEach (a :: [a']) X.env = (false, eval a X.env) :: starEach [a'] X.env := by rfl) (hpl : (backTo pos (starEach [a'] X.env)).any (·.1) = false := by rfl) : PS X (.Raise (some (.Call (.Name cn p) [a, a'] [] pos)) none pos2) (tRaise2 C f f' W ta) :=
  L2N.ps_raise hc tk (pmk_2 T hr ha hg hd he hpl)
end
end Cb
/-! ### a comprehension where an error is handled -/
namespace Cb
open PySem PySem.Spec PyProof.Rows L2
/-- the block's context, the handled error's object kept -/
abbrev blkH (X : Cx) (s : Shared) (H : Hp) (scope : Scope) (cenv : Env) (fp : List Addr) (p : Addr × Obj) : Cx := { X.blk s H scope cenv fp with pn := [p] }
section
variable {X : Cx}
theorem inv_blkH {s s' : Shared} {σ : L2.St} {H H' : Hp} {scope : Scope} {cenv : Env} {fp : List Addr} {p : Addr × Obj} (I : Inv (X.blk s H scope cenv fp) [] σ H' s')
    (h : s'.heap.get? p.1 = some p.2 ∧ H' p.1 = none ∧ p.1 ≠ cenv.locals ∧ p.1 ∉ frs X.stack ∧ ∀ v, p.2.data ≠ .cell v) : Inv (blkH X s H scope cenv fp p) [] σ H' s' := by
  refine ⟨⟨I.ok.mod, I.ok.kind, I.ok.glob, I.ok.blt, I.ok.above, I.ok.inj, I.ok.has, I.ok.cab, I.ok.hd, I.ok.frames, I.ok.stk, I.ok.exf, I.ok.bs, I.ok.bsz, I.ok.noex, I.ok.exfs, I.ok.funs, I.ok.frf⟩, I.os, I.bare, I.base, I.loc, I.cell, I.free, I.freeC, fun q hq => ?_, I.hok, I.len⟩
  have e : q = p := by simpa using (show q ∈ [p] ++ ([] : List (Addr × Obj)) from hq)
  rw [e]
  exact h
theorem hot_blk {s : Shared} {H : Hp} {scope : Scope} {cenv : Env} {fp : List Addr} {p : Addr × Obj} (h : L2H.Hot1 X.A p) : L2H.HotC (blkH X s H scope cenv fp p) := ⟨p, h, List.mem_singleton_self _⟩
theorem pe_lcH {elt tg iter : Expr} {ifs : List Expr} {scope : Scope} {own : List (Str × Nat)} {pos : Pos} {wi : TI} {g : TG} {tt : TT} {te : TE} (hot : L2H.HotC X) (hN : X.N.Nodup) (hi : L2H.PIH X tg iter wi) (ok : BlkOk X.N X.env.scope scope own)
    (hg : ∀ (s : Shared) (H : Hp) (C : Addr) (cl : List (Str × Addr)) (fp : List Addr) (p : Addr × Obj), L2H.Hot1 X.A p → PG (blkH X s H scope (compEnvC scope cl C X.env) fp p) tg g)
    (ht : ∀ (s : Shared) (H : Hp) (C : Addr) (cl : List (Str × Addr)) (fp : List Addr) (p : Addr × Obj), L2H.Hot1 X.A p → PTs (blkH X s H scope (compEnvC scope cl C X.env) fp p) ifs tt)
    (he : ∀ (s : Shared) (H : Hp) (C : Addr) (cl : List (Str × Addr)) (fp : List Addr) (p : Addr × Obj), L2H.Hot1 X.A p → PE (blkH X s H scope (compEnvC scope cl C X.env) fp p) elt te) (hs : ∀ x, foldedSetIterable iter X.env x = pure x := by intro _; rfl) :
    PE X (.ListComp elt [⟨tg, iter, ifs, 0⟩] scope pos) (tLc wi g tt te (own.map (·.2))) := by
  refine ⟨fun pins s σ H Q I h => ?_⟩
  rw [eval_ListComp]
  obtain ⟨p, hp1, hpm⟩ := hot
  have hfree : ∀ y ∈ scope.names, y.2 = .free → ∃ c, X.env.cells.lookup y.1 = some c := fun y hy e => by
    rcases ok.free y hy e with k | k
    · exact I.ok.has _ (.inl k)
    · exact I.ok.has _ (.inr k)
  refine wpAny_comprehension_free (use := none) rfl hs (closure_ok hfree) ok.kind (fun y hy e => by rw [ok.uniq y hy, e])
    (thn (hi.run pins s σ H _ I h) fun xv s1 hx => thn hx fun itv s2 h2 => ?_)
  obtain ⟨it, fp, tn, J, H2, e, I2, T, st2, f2, q⟩ := h2
  subst e
  refine wpAny_newObj_type (newEnv_comp ?_) (by show 0 ≤ sizeLine; decide)
  generalize hD : s2.heap.objs.size = D
  have hDn : H2 D = none := I2.hok.fresh (Nat.le_of_eq hD)
  obtain ⟨W, ⟨m0, w0⟩, turn⟩ := q D hDn
  generalize hs3 : ({ s2 with heap := s2.heap.push { cls := .type "list", data := .seq ([] : List Value).toArray } } : Shared) = s3
  have I3 : Inv X pins σ (upd H2 D (.lst [])) s3 := by
    rw [← hs3]
    refine I2.laid (t' := s2.toks) (fun b o e => Heap.get?_push_of_some _ e) (Nat.le_of_eq hD) ⟨Nat.zero_le _, [], 0, .nil, ?_⟩
    rw [← hD]
    exact Heap.get?_push_size _ rfl
  have h3 : s3.heap = s2.heap.push { cls := .type "list", data := .seq ([] : List Value).toArray } := by rw [← hs3]
  have sz : ∀ b ∈ fp, b < s2.heap.objs.size := fun b hb => by
    obtain ⟨o, e, _⟩ := T.obj _ _ st2 b hb
    exact Heap.lt_size e
  have f3 : ∀ b ∈ fp, FpOk X pins (upd H2 D (.lst [])) b ∧ b < s3.heap.objs.size := fun b hb => by
    have hlt := sz b hb
    refine ⟨⟨?_, (f2 b hb).2⟩, by rw [h3, Heap.size_push]; exact Nat.lt_succ_of_lt hlt⟩
    rw [upd_ne (by rw [← hD]; exact Nat.ne_of_lt hlt)]
    exact (f2 b hb).1
  have st3 : tn 0 s3.heap := T.keep _ _ _ st2 fun b _ o e => by rw [h3]; exact Heap.get?_push_of_some _ e
  have P3 := I3.pin p (List.mem_append_left _ hpm)
  have npf : ∀ b ∈ fp, p.1 ≠ b := fun b hb => (f3 b hb).1.2.2.2.2.2 p (List.mem_append_left _ hpm)
  have npC : p.1 ≠ s3.heap.objs.size := Nat.ne_of_lt (Heap.lt_size P3.1)
  have nps : p.1 ∉ frs X.stack := fun hm => (List.mem_cons.mp (I3.stkSub p.1 hm)).elim P3.2.2.1 P3.2.2.2.1
  have I4' := block_start I3 ok hN f3
  have I4 := inv_blkH (p := p) I4' ⟨pushCells_keeps _ _ _ _ (Heap.get?_push_of_some _ P3.1), P3.2.1, npC, nps, P3.2.2.2.2⟩
  have pg := hg s3 (upd H2 D (.lst [])) s3.heap.objs.size (cellsFrom (s3.heap.objs.size + 1) scope.names (cloFrom X.env.cells scope.names [])) fp p hp1
  have pt := ht s3 (upd H2 D (.lst [])) s3.heap.objs.size (cellsFrom (s3.heap.objs.size + 1) scope.names (cloFrom X.env.cells scope.names [])) fp p hp1
  have pe := he s3 (upd H2 D (.lst [])) s3.heap.objs.size (cellsFrom (s3.heap.objs.size + 1) scope.names (cloFrom X.env.cells scope.names [])) fp p hp1
  show codeAny _ _ (.compStart (.ListComp elt [⟨tg, iter, ifs, 0⟩] scope pos) 0 (.ref it) (.ref D) (compEnvC scope (cellsFrom (s3.heap.objs.size + 1) scope.names (cloFrom X.env.cells scope.names [])) s3.heap.objs.size X.env)) (compPost (model X.prog X.w) X.A X.xe none (EP X pins σ Q) (.ref D) s3.heap.objs.size) { s3 with heap := pushCells (s3.heap.push { cls := .type "dict", data := .dict #[] }) scope.names }
  have nfp : ∀ b ∈ fp, (upd H2 D (.lst [])) b = none := fun b hb => (f3 b hb).1.1
  clear I4'
  generalize hce : compEnvC scope (cellsFrom (s3.heap.objs.size + 1) scope.names (cloFrom X.env.cells scope.names [])) s3.heap.objs.size X.env = ce at I4 pg pt pe ⊢
  have cL : ce.locals = s3.heap.objs.size := by subst hce; rfl
  generalize hH3 : upd H2 D (.lst []) = H3 at I3 I4 pg pt pe w0 nfp f3
  generalize hs4 : ({ s3 with heap := pushCells (s3.heap.push { cls := .type "dict", data := .dict #[] }) scope.names } : Shared) = s4 at I4 ⊢
  have st4 : tn 0 s4.heap := T.keep _ _ _ st3 fun b _ o e => by rw [← hs4]; exact pushCells_keeps _ _ _ _ (Heap.get?_push_of_some _ e)
  have hotB : L2H.HotC (blkH X s3 H3 scope ce fp p) := hot_blk hp1
  have stat : ∀ {σ' : L2.St} {H' : Hp} {s' : Shared}, Inv (blkH X s3 H3 scope ce fp p) [] σ' H' s' → (∀ b ∈ fp, H' b = none) → ∀ b ∈ fp, FpOk (blkH X s3 H3 scope ce fp p) [] H' b := fun {σ' H' s'} I' hn b hb =>
    ⟨hn b hb, (I'.ok.exf b hb).1, I'.ok.exfs b hb, .inl hb, fun x c e => (I'.ok.exf b hb).2 x c e, fun q hq => by
      have e : q = p := by simpa using (show q ∈ [p] ++ ([] : List (Addr × Obj)) from hq)
      rw [e]
      exact npf b hb⟩
  have loop : codeAny (model X.prog X.w) X.A (.compLoop (.ListComp elt [⟨tg, iter, ifs, 0⟩] scope pos) 0 (.ref it) (.ref D) ce) (compPost (model X.prog X.w) X.A X.xe none (EP X pins σ Q) (.ref D) s3.heap.objs.size) s4 := by
    refine compLoop_any (fun n s' => ∃ i H', Inv (blkH X s3 H3 scope ce fp p) [] (wipe σ (own.map (·.2))) H' s' ∧ tn i s'.heap ∧ (∀ b ∈ fp, H' b = none) ∧ W i n H') ?_ m0 ⟨0, H3, I4, st4, nfp, w0⟩
    rintro n s5 ⟨i, H5, I5, st5, n5, w5⟩
    rcases turn i n H5 w5 with ⟨stop, qq⟩ | ⟨go, Nx, hNx, step⟩
    · have td := T.done (blkH X s3 H3 scope ce fp p) rfl rfl rfl hotB i [] s5 _ H5 (fun _ _ => False) I5 (stat I5 n5) st5 stop
      refine thnF td fun r s6 ⟨hr, I6⟩ => ?_
      subst hr
      have I7 : Inv X pins σ H5 s6 := I3.call' (ch := fp) I6.os I6.base I6.hok I6.bare fun b hb => ⟨(f3 b hb).1.2.2.2.1, (f3 b hb).1.2.1, (f3 b hb).1.2.2.2.2.1, (f3 b hb).1.2.2.2.2.2⟩
      have nC : H5 s3.heap.objs.size = none := by
        have z : H5 ce.locals = none := I6.free
        rw [cL] at z
        exact z
      obtain ⟨m, hn, _⟩ := I6.loc
      have hn : s6.heap.Ns ce.locals m := hn
      rw [cL] at hn
      refine ⟨m, hn, fun h'' sb => ?_⟩
      obtain ⟨f0, f1, f2, f3, f4, f5⟩ := I3.fpOk (H' := H5) (Nat.le_refl _) nC
      exact ⟨.ref D, H5, I7.turned (t' := s6.toks) (fun b o hb e => (sb.2 b hb).trans e) f0 f1 f3 f4 f5, rfl, qq⟩
    · have ti := T.item (blkH X s3 H3 scope ce fp p) rfl rfl rfl hotB i [] s5 _ H5 (fun _ _ => False) I5 (stat I5 n5) st5 go
      refine thnF ti fun r s6 ⟨u, hr, h6⟩ => ?_
      subst hr
      refine thnF h6 fun _ s7 ⟨x, H7, I7, r7, y7, st7, n7⟩ => ?_
      have I7' := I7.pinned (stat I7 n7) (T.obj _ _ st7)
      refine thnF (pg.run _ s7 _ H7 x u _ I7' r7 (step x H7 y7)) fun _ s8 ⟨σ8, H8, I8, hw8, q8⟩ => ?_
      refine thnF (pt.run _ s8 σ8 H8 _ I8 q8) fun b s9 ⟨H9, I9, q9⟩ => ?_
      have fin : ∀ {s' : Shared} {H' : Hp}, Inv (blkH X s3 H3 scope ce fp p) ([] ++ pinsAt fp s7.heap) σ8 H' s' → Nx H' → ∃ m, m < n ∧ ∃ i H', Inv (blkH X s3 H3 scope ce fp p) [] (wipe σ (own.map (·.2))) H' s' ∧ tn i s'.heap ∧ (∀ b ∈ fp, H' b = none) ∧ W i m H' := fun {s' H'} I' nx => by
        obtain ⟨m', hm, w'⟩ := hNx H' nx
        have pin' : ∀ b ∈ fp, ∀ o, s7.heap.get? b = some o → s'.heap.get? b = some o ∧ H' b = none := fun b hb o e =>
          let z := I'.pin (b, o) (List.mem_append_right _ (List.mem_append_right _ (mem_pinsAt hb e)))
          ⟨z.1, z.2.1⟩
        have hl : (wipe σ (own.map (·.2))).length = σ8.length := by rw [← hw8, wipe_length]
        refine ⟨m', hm, i + 1, H', (I'.unpinned (pins := [])).weak hl (fun j v e => ?_), T.keep _ _ _ st7 fun b hb o e => (pin' b hb o e).1, fun b hb => ?_, w'⟩
        · rw [← hw8] at e
          exact (wipe_some e).1
        · obtain ⟨o, e, _⟩ := T.obj _ _ st7 b hb
          exact (pin' b hb o e).2
      cases b with
      | false =>
        simp only [Bool.false_eq_true, if_false] at q9 ⊢
        exact fin I9 q9
      | true =>
        simp only [if_true] at q9 ⊢
        refine thnF (pe.run _ s9 σ8 H9 _ I9 q9) fun z s10 ⟨yv, H10, I10, r10, acc, hD10, hz10, nx⟩ => ?_
        exact app_ok (X := blkH X s3 H3 scope ce fp p) I10 hD10 hz10 r10 fun s11 I11 => fin I11 nx
  exact codeAny_compStart_list loop (T.self X.A 0 _ _ _ st4 loop)
end
end Cb
/-! ### len of an instance whose class has __len__ -/
namespace Cb
open PySem PySem.Spec PyProof.Rows L2
section
variable {X : Cx} {C g : Addr} {sp : Sp} {n : Nat}
def rLenOwn (C : Addr) (sp : Sp) : List V → Hp → VK → Prop := fun xs H Q => ∃ a dx fs, xs = [V.ref a] ∧ H a = some (.ins C dx fs) ∧ sp [.ref a] H (fun z H' => ∃ m : Nat, z = .int (m : Nat) ∧ m < 1000000 ∧ Q z H') C8.E0
theorem call_lenOwn (hs : PySem.W.findIn X.K (.ref C) "__len__" = some (some (.ref g))) (hf : PySem.W.isFn X.K (.ref g) = true) (F : FnR X.prog X.w X.K X.mg X.base L2.CX0 n g sp) (hr : Room (n + 1) X.A) : CallR X (.builtin "len") (rLenOwn C sp) := by
  intro pins s σ H xs us Q I r h
  obtain ⟨a, dx, fs, rfl, e, q⟩ := h
  obtain ⟨u, rfl, ru⟩ := vals1 r
  cases (show u = Value.ref a from ru)
  obtain ⟨mA, O, _⟩ := ins_get I.hok e
  obtain ⟨od, J, _⟩ := O.look
  refine Calls.call_function_entry PySem.kind_len PySem.plain_len PySem.entry_len (PySem.args_len1 _) ?_
  unfold Builtin.«len»
  refine wpAny_bind (m := oneArg "len" _) (wpAny_pure ?_)
  refine wpAny_bind (m := callSpecial? (.ref a) (Str.ofString "__len__")) (PySem.W.special_fn I.kIn J hs (beq_iff_eq.mp hf) (wpAny_mono (wpAny_call (SlX.run_at (us := [.ref a]) (ws := [.ref a]) F hr.in1 I.env0.in1 (E := C8.E0) (CX := L2.CX0) (fun _ _ _ _ _ _ _ h => h.elim) I (.cons rfl .nil) q)) (fun v s' z => ?_) fun _ _ y => y))
  obtain ⟨z', H', I', rz, m, ei, hm, qz⟩ := z
  subst ei
  obtain ⟨t, e⟩ := (show ∃ t, v = Value.int (m : Nat) t from rz)
  cases e
  refine wpAny_bind (wpAny_holding (wpAny_pure ?_))
  refine wpAny_bind (wpAny_letGo ?_)
  show wpAny _ _ (if ((m : Nat) : Int) < 0 then _ else _) _ _ _
  rw [if_neg (by omega)]
  show wpAny _ _ (if ((m : Nat) : Int) ≥ 2 ^ 63 then _ else _) _ _ _
  rw [if_neg (by omega)]
  exact wpAny_bind (wpAny_mkInt (wpAny_pure ⟨_, rfl, .int (m : Nat), H', I'.tok _, ⟨_, rfl⟩, qz⟩))
end
end Cb
/-! ### the executor: one step by the head of the goal; hl: an object at an address; sd: a side goal -/
local macro_rules | `(tactic| walk_at "hl") => `(tactic| ((repeat' (first
  | (show _ = some _; assumption)
  | (show L2.SqL _ _ _ _; assumption)
  | (show L2.SqT _ _ _ _; assumption)
  | exact L2.upd_same
  | (refine' Cb.upd_old (by assumption) ?_)
  | (refine' Cb.Same.get (by assumption) ?_)
  | (refine' Cb.upd_oth (by first | assumption | exact Ne.symm (by assumption)) ?_)
  | (refine' Cb.Kp.get (by assumption) (by first | assumption | exact Ne.symm (by assumption)) ?_)
  | (refine' L2.SqL.of ?_)
  | (refine' Cb.Same.sql (by assumption) ?_)
  | (refine' Cb.Kp.sql (by assumption) (by first | assumption | exact Ne.symm (by assumption)) ?_)
  | (refine' Cb.Kq.get (by assumption) (by first | assumption | exact Ne.symm (by assumption)) (by first | assumption | exact Ne.symm (by assumption)) ?_)
  | (refine' L2.SqT.of ?_)
  | (refine' Cb.Same.sqt (by assumption) ?_)))))
local macro_rules | `(tactic| walk_at "sd") => `(tactic| first
  | assumption
  | rfl
  | omega
  | decide
  | exact ⟨by omega, by omega⟩
  | exact Or.inl ⟨by omega, by omega⟩
  | exact Or.inr ⟨by omega, by omega⟩
  | exact ⟨by omega, by omega, by omega⟩)
local macro_rules | `(tactic| walk_at "go") => `(tactic| repeat (first
  | with_reducible refine Cb.x_seq ?_
  | ((with_reducible apply Cb.x_var); (· exact rfl))
  | with_reducible refine Cb.x_c ?_
  | with_reducible refine Cb.x_op ?_
  | with_reducible refine Cb.x_rI0 ?_
  | ((with_reducible apply Cb.x_rI); (· walk_at "sd"))
  | with_reducible refine Cb.x_asg ?_
  | with_reducible refine Cb.x_gname ?_
  | with_reducible refine Cb.x_eqI ?_
  | with_reducible refine Cb.x_neI ?_
  | with_reducible refine Cb.x_test ?_
  | with_reducible refine Cb.x_tB ?_
  | with_reducible refine Cb.x_bl ?_
  | with_reducible refine Cb.x_ifs ?_
  | with_reducible refine Cb.x_cons ?_
  | with_reducible refine Cb.x_nil ?_
  | with_reducible refine Cb.x_call ?_
  | with_reducible refine Cb.x_callN ?_
  | with_reducible refine Cb.x_cb ?_
  | with_reducible refine Cb.x_int1 ?_
  | with_reducible refine Cb.x_int ?_
  | with_reducible refine Cb.x_ret ?_
  | with_reducible refine Cb.x_retN ?_
  | with_reducible refine Cb.x_drop ?_
  | with_reducible refine Cb.x_next ?_
  | with_reducible refine Cb.x_brk ?_
  | with_reducible refine Cb.x_cont ?_
  | ((with_reducible apply Cb.x_aug); (· exact rfl))
  | with_reducible refine Cb.x_ipI ?_
  | with_reducible refine Cb.x_rU ?_
  | with_reducible refine Cb.x_un ?_
  | with_reducible refine Cb.x_if ?_
  | with_reducible refine Cb.x_and ?_
  | with_reducible refine Cb.x_or ?_
  | with_reducible refine Cb.x_not ?_
  | with_reducible refine Cb.x_andV ?_
  | with_reducible refine Cb.x_orV ?_
  | with_reducible refine Cb.x_notV ?_
  | with_reducible refine Cb.x_chain ?_
  | with_reducible refine Cb.x_chain3 ?_
  | with_reducible refine Cb.x_ch2 ?_
  | with_reducible refine Cb.x_par ?_
  | with_reducible refine Cb.x_par2 ?_
  | with_reducible refine Cb.x_lst ?_
  | with_reducible refine Cb.x_tup ?_
  | with_reducible refine Cb.x_sub ?_
  | with_reducible refine Cb.x_sl ?_
  | with_reducible refine Cb.x_nopart ?_
  | with_reducible refine Cb.x_part ?_
  | with_reducible refine Cb.x_bm ?_
  | with_reducible refine Cb.x_bm0 ?_
  | with_reducible refine Cb.x_iteT ?_
  | with_reducible refine Cb.x_iteF ?_
  | with_reducible refine Cb.x_iteNT ?_
  | with_reducible refine Cb.x_iteNF ?_
  | with_reducible refine Cb.x_iteS ?_
  | with_reducible refine Cb.x_iteO ?_
  | with_reducible refine Cb.x_iteNS ?_
  | with_reducible refine Cb.x_iteNO ?_
  | with_reducible refine Cb.x_tYes ?_
  | with_reducible refine Cb.x_forL ?_
  | with_reducible refine Cb.x_forT ?_
  | with_reducible refine Cb.x_forR1 ?_
  | with_reducible refine Cb.x_forR2 ?_
  | with_reducible refine Cb.x_lcL ?_
  | with_reducible refine Cb.x_lcT ?_
  | with_reducible refine Cb.x_lcR1 ?_
  | with_reducible refine Cb.x_lcR2 ?_
  | with_reducible refine Cb.x_dget ?_
  | with_reducible refine Cb.x_din ?_
  | with_reducible refine Cb.x_dni ?_
  | with_reducible refine Cb.x_dput ?_
  | with_reducible refine Cb.x_dnew ?_
  | with_reducible refine Cb.x_dget2 ?_
  | with_reducible refine Cb.x_fldR ?_
  | ((with_reducible apply Cb.x_fldI); (· walk_at "hl"); (· assumption); (· assumption); (· exact rfl))
  | with_reducible refine Cb.x_sfld ?_
  | with_reducible refine Cb.x_meth ?_
  | ((with_reducible apply Cb.x_methI); (· walk_at "hl"); (· exact rfl))
  | with_reducible refine Cb.x_make ?_
  | ((with_reducible apply Cb.x_gtup); (· walk_at "hl"); (· exact rfl))
  | ((with_reducible apply Cb.x_gunl); (· walk_at "hl"); (· exact rfl))
  | with_reducible refine Cb.x_gcons ?_
  | with_reducible refine Cb.x_gnil ?_
  | with_reducible refine Cb.x_listVals ?_
  | with_reducible refine Cb.x_tM1 ?_
  | with_reducible refine Cb.x_isS ?_
  | ((with_reducible apply Cb.x_vals); (· walk_at "hl"))
  | with_reducible refine Cb.x_gcd ?_
  | with_reducible refine Cb.x_maxTwo ?_
  | with_reducible refine Cb.x_minTwo ?_
  | with_reducible refine Cb.x_inSg ?_
  | with_reducible refine Cb.x_niSg ?_
  | with_reducible refine Cb.x_isNn ?_
  | with_reducible refine Cb.x_noNn ?_
  | with_reducible refine Cb.x_eqS ?_
  | with_reducible refine Cb.x_neS ?_
  | with_reducible refine Cb.x_eqB ?_
  | with_reducible refine Cb.x_neB ?_
  | with_reducible refine Cb.x_pstar ?_
  | with_reducible refine Cb.x_forS ?_
  | with_reducible refine Cb.x_lcStr ?_
  | with_reducible refine Cb.x_forE ?_
  | with_reducible refine Cb.x_dcT ?_
  | ((with_reducible apply Cb.x_strN); (· walk_at "sd"))
  | with_reducible refine Cb.x_isII ?_
  | with_reducible refine Cb.x_isIB ?_
  | with_reducible refine Cb.x_isIL ?_
  | with_reducible refine Cb.x_isIT ?_
  | with_reducible refine Cb.x_isID ?_
  | with_reducible refine Cb.x_isIS ?_
  | with_reducible refine Cb.x_isSS ?_
  | ((with_reducible apply Cb.x_dictOf); (· walk_at "hl"))
  | with_reducible refine Cb.x_abs ?_
  | with_reducible refine Cb.x_augS ?_
  | with_reducible refine Cb.x_forEL ?_
  | with_reducible refine Cb.x_revL ?_
  | ((with_reducible apply Cb.x_revLI); (· walk_at "hl"))
  | with_reducible refine Cb.x_bits ?_
  | with_reducible refine Cb.x_truI ?_
  | ((with_reducible apply Cb.x_ixL); (· walk_at "hl"); (· first | exact rfl | assumption))
  | ((with_reducible apply Cb.x_ixT); (· walk_at "hl"); (· first | exact rfl | assumption))
  | ((with_reducible apply Cb.x_setL); (· walk_at "hl"); (· first | exact rfl | assumption))
  | ((with_reducible apply Cb.x_lenL); (· walk_at "hl"))
  | ((with_reducible apply Cb.x_tyL); (· walk_at "hl"))))
namespace Cb
open PySem PySem.Spec PyProof.Rows L2
/-! ### the law's source of draws (six places) -/
/-- a bag stands at b, its cells at l -/
structure BagAt (H : Hp) (b l : Addr) : Prop where
  ex : ∃ (ns : List Int) (i : Nat) (g e x c : Int), H b = some (.lst [.ref l, .int i, .int g, .int e, .int x, .int c]) ∧ H l = some (.lst (ns.map V.int)) ∧ ns.length ≤ 63 ∧ 0 ≤ g ∧ 0 ≤ x ∧ x < 2147483549
theorem BagAt.ne {H : Hp} {b l : Addr} (B : BagAt H b l) : l ≠ b := by
  obtain ⟨ns, i, g, e, x, c, h1, h2, _⟩ := B.ex
  intro z
  rw [z, h1] at h2
  cases ns <;> simp at h2
theorem BagAt.same {H H' : Hp} {b l : Addr} (B : BagAt H b l) (s : Same H H') : BagAt H' b l := by
  obtain ⟨ns, i, g, e, x, c, h1, h2, h3⟩ := B.ex
  exact ⟨ns, i, g, e, x, c, s _ _ h1, s _ _ h2, h3⟩
theorem BagAt.upd {H : Hp} {b l p : Addr} {o : HO} (B : BagAt H b l) (n1 : p ≠ b) (n2 : p ≠ l) : BagAt (upd H p o) b l := by
  obtain ⟨ns, i, g, e, x, c, h1, h2, h3⟩ := B.ex
  exact ⟨ns, i, g, e, x, c, by rw [upd_ne n1.symm]; exact h1, by rw [upd_ne n2.symm]; exact h2, h3⟩
theorem BagAt.b_some {H : Hp} {b l : Addr} (B : BagAt H b l) : H b ≠ none := by
  obtain ⟨ns, i, g, e, x, c, h1, _⟩ := B.ex
  rw [h1]
  intro z
  cases z
theorem BagAt.l_some {H : Hp} {b l : Addr} (B : BagAt H b l) : H l ≠ none := by
  obtain ⟨ns, i, g, e, x, c, _, h1, _⟩ := B.ex
  rw [h1]
  intro z
  cases z
theorem BagAt.new {H : Hp} {b l p : Addr} {o : HO} (B : BagAt H b l) (hp : H p = none) : BagAt (L2.upd H p o) b l := B.same (Same.new hp)
theorem BagAt.kp {H H' : Hp} {b l c : Addr} (B : BagAt H b l) (s : Kp c H H') (n1 : b ≠ c) (n2 : l ≠ c) : BagAt H' b l := by
  obtain ⟨ns, i, g, e, x, c, h1, h2, h3⟩ := B.ex
  exact ⟨ns, i, g, e, x, c, s _ _ n1 h1, s _ _ n2 h2, h3⟩
theorem BagAt.kq {H H' : Hp} {b l c d : Addr} (B : BagAt H b l) (s : Kq c d H H') (n1 : b ≠ c) (m1 : b ≠ d) (n2 : l ≠ c) (m2 : l ≠ d) : BagAt H' b l := by
  obtain ⟨ns, i, g, e, x, c, h1, h2, h3⟩ := B.ex
  exact ⟨ns, i, g, e, x, c, s _ _ n1 m1 h1, s _ _ n2 m2 h2, h3⟩
theorem Kp.upd {b : Addr} {H H' : Hp} {o : HO} (k : Kp b H H') : Kp b H (upd H' b o) := fun a u n e => by
  rw [upd_ne n]
  exact k a u n e
end Cb
namespace Cb
open PySem PySem.Spec PyProof.Rows L2
/-! ### the head's look, with imported built-ins beside -/
def bltB (K : PySem.W.Frag) (q : Str × String) : Bool := match PySem.W.nsIn K mainGlobals q.1 with
  | some (some (.builtin i)) => decide (i = q.2)
  | _ => false
theorem bltB_ok {K : PySem.W.Frag} {h : Heap} {mg : Str → Option Value} (X : K.In h) (G : h.Ns mainGlobals mg) {q : Str × String} (c : bltB K q = true) : mg q.1 = some (.builtin q.2) := by
  unfold bltB at c
  split at c
  · rename_i i e
    have e2 : i = q.2 := of_decide_eq_true c
    rw [e2] at e
    exact PySem.W.mg_of X G e
  · cases c
abbrev AlY : Type := He.AlD × Bool
def obsY (fa : List He.Fa) (fn : List He.DefD) (ex : List (Str × String)) (K : PySem.W.Frag) : AlY := (He.obsD fa fn K, ex.all (bltB K))
def obsYG (n : Nat) (fa : List He.Fa) (fn : List He.DefD) (ex : List (Str × String)) (g : Addr → Option Obj) : AlY := obsY fa fn ex (He.frG g (He.asD g n))
structure SaysY (fa : List He.Fa) (fn : List He.DefD) (ex : List (Str × String)) (K : PySem.W.Frag) : Prop where
  eq : obsY fa fn ex K = (He.valD fn, true)
theorem SaysY.d {fa : List He.Fa} {fn : List He.DefD} {ex : List (Str × String)} {K : PySem.W.Frag} (c : SaysY fa fn ex K) : He.SaysD fa fn K := congrArg (fun z : AlY => z.1) c.eq
theorem SaysY.e {fa : List He.Fa} {fn : List He.DefD} {ex : List (Str × String)} {K : PySem.W.Frag} (c : SaysY fa fn ex K) : ex.all (bltB K) = true := congrArg (fun z : AlY => z.2) c.eq
def hookY (n : Nat) (fa : List He.Fa) (fn : List He.DefD) (ex : List (Str × String)) : PySem.W.Hook where
  α := AlY
  obs := fun s => obsYG n fa fn ex s.heap.get?
  val := fun _ => (He.valD fn, true)
  says := fun _ h => ∃ K : PySem.W.Frag, K.In h ∧ SaysY fa fn ex K
  of := fun _ _ e => ⟨_, He.frG_in, ⟨e⟩⟩
  keeps := fun _ _ _ ⟨K, hK, c⟩ k => ⟨K, PySem.W.Frag.In.keeps hK k, c⟩
theorem obsYG_eq {n : Nat} {fa : List He.Fa} {fn : List He.DefD} {ex : List (Str × String)} {g : Addr → Option Obj} {s : Shared} (h : ∀ a, g a = s.heap.get? a) : obsYG n fa fn ex g = (hookY n fa fn ex).obs s := by
  have e : g = s.heap.get? := funext h
  rw [e] <;> rfl
theorem kbn_of {K : PySem.W.Frag} {x qual : Str} {params : Arguments} {body : List Stmt} {scope : Scope} {kws : List (Str × V)} {f : Addr} {fd : FuncData} {ps ks : List Str} {n : Nat} {g : List Value → List Value → List Value} {gV : List V → List V → List V} (F : FunD K x qual params body scope [] kws f fd)
    (h : ∀ (kV doc pm : Value) (an : Option Addr) (cdv ct : Value) (us ws : List Value), us.length = n → ws.length = ks.length → bindArgs (PySem.W.fnOf x qual params body scope .none kV doc pm an cdv ct) ⟨us, ks.zip ws⟩ = pure (ps.zip (g us ws))) (hr : ∀ {vs zs : List V} {us ws : List Value}, Vals vs us → Vals zs ws → Vals (gV vs zs) (g us ws)) : KBn K fd ps n ks g gV := by
  refine ⟨fun s us ws X l1 l2 => ?_, fun r1 r2 => hr r1 r2⟩
  obtain ⟨oc, od, dV, kV, doc, pm, an, cdv, ct, osl, rfl, lk, hcd, hD, hK⟩ := F.ex
  rcases hD with ⟨_, rfl⟩ | ⟨e, _⟩
  · exact .of_eq (h kV doc pm an cdv ct us ws l1 l2)
  · exact absurd rfl e
end Cb
namespace Cb
open PySem PySem.Spec PyProof.Rows L2
/-! ### the head's look, with errors beside -/
/-- a class of errors with its __init__: the name, the built-in base, the text -/
structure ErD where
  cn : Str
  B : String
  newId : String
  i : String
  bmB : List Value
  qual : Str
  msg : Str
  file : Str
  params : Arguments
  nms : List (Str × NameKind)
  z : SupP
  fs : List (Str × SupQ)
def ErD.body (d : ErD) : List Stmt := supE d.msg d.z :: d.fs.map fun p => supA p.1 p.2
abbrev ErW : Type := Option (Str × Str × Arguments × FuncBody × Scope × Addr × Addr)
def ErD.fa (d : ErD) (K : PySem.W.Frag) : Addr := He.fAd K (d.cn, some "__init__")
def ErD.w (K : PySem.W.Frag) (d : ErD) : ErW := match K.lookup (d.fa K) with
  | some ⟨_, _, .func fd, _⟩ => some (fd.name, fd.qualname, fd.params, fd.body, fd.scope, fd.globals, fd.builtins)
  | _ => none
def ErD.v (d : ErD) : ErW := some ("__init__", d.qual, d.params, .stmts d.body, supS d.nms, mainGlobals, builtinsNs)
/-- the function's own part: its cell, its code -/
def ErD.fnB (d : ErD) (K : PySem.W.Frag) : Bool := match K.lookup (d.fa K) with
  | some ⟨_, _, .func fd, _⟩ => (match fd.closure, fd.code, fd.defaults, fd.kwdefaults with
    | [(n, cc)], .ref cda, .none, .none => decide (n = ("__class__" : Str)) && (PySem.W.codeIn K (.ref cda) d.qual && ((match K.lookup cda with
        | some ⟨_, _, .fields vs, _⟩ => (match (vs[2]? : Option Value) with
          | some (Value.str file _) => d.file == file
          | _ => false)
        | _ => false) && (match K.lookup cc with
        | some ⟨_, _, .cell (some (.ref D)), _⟩ => decide (D = He.ga K d.cn)
        | _ => false)))
    | _, _, _, _ => false)
  | _ => false
/-- the class says what isinstance and its fields' reading ask -/
def excB (K : PySem.W.Frag) (C : Addr) : Bool := [decide (PySem.W.findIn K (.ref C) "__getattribute__" = some (some (.builtin "BaseException.__getattribute__"))), decide (PySem.W.findIn K (.ref C) "__getattr__" = some none),
  decide (PySem.W.subIn K (.ref C) (.type "BaseException") = some true), PySem.W.hasDictIn K C, decide (PySem.W.findIn K (.ref C) "__class__" = some (some (.builtin "object.__class__"))),
  decide (PySem.W.specialIn K (.builtin "object.__class__") "__get__" = some (some (.builtin "getset_descriptor.__get__"))), decide (PySem.W.takesIn K (.builtin "object.__class__") = some true), decide (PySem.W.mroIn K C (.type "object") = some true)].all id
theorem excB_ok {K : PySem.W.Frag} {C : Addr} (h : excB K C = true) : ExcC K C := by
  have g : ∀ (i : Nat) (b : Bool), ([decide (PySem.W.findIn K (.ref C) "__getattribute__" = some (some (.builtin "BaseException.__getattribute__"))), decide (PySem.W.findIn K (.ref C) "__getattr__" = some none),
    decide (PySem.W.subIn K (.ref C) (.type "BaseException") = some true), PySem.W.hasDictIn K C, decide (PySem.W.findIn K (.ref C) "__class__" = some (some (.builtin "object.__class__"))),
    decide (PySem.W.specialIn K (.builtin "object.__class__") "__get__" = some (some (.builtin "getset_descriptor.__get__"))), decide (PySem.W.takesIn K (.builtin "object.__class__") = some true), decide (PySem.W.mroIn K C (.type "object") = some true)] : List Bool)[i]? = some b → b = true :=
    fun i b e => List.all_eq_true.mp (show List.all _ id = true from h) b (List.mem_of_getElem? e)
  exact ⟨of_decide_eq_true (g 0 _ rfl), of_decide_eq_true (g 1 _ rfl), of_decide_eq_true (g 2 _ rfl), g 3 _ rfl, of_decide_eq_true (g 4 _ rfl), of_decide_eq_true (g 5 _ rfl), of_decide_eq_true (g 6 _ rfl), of_decide_eq_true (g 7 _ rfl)⟩
def ErD.ok (d : ErD) (K : PySem.W.Frag) : Bool :=
  let C := He.ga K d.cn
  [PySem.W.excInitIn K C d.bmB d.newId, PySem.W.excOver K C d.bmB, PySem.W.hasDictIn K C, decide (PySem.W.findIn K (.ref C) "__setattr__" = some (some (.builtin "object.__setattr__"))),
    PySem.W.keepIn K (.ref C), decide (PySem.W.subIn K (.ref C) (.type "BaseException") = some true), decide (PySem.W.subIn K (.ref C) (.type d.B) = some true), decide (PySem.W.typeIn K (.ref C) = some (.type "type")),
    decide (PySem.W.nsIn K cStatics "thirdparty.any" = some none), decide (PySem.W.mroIn K C (.ref C) = some true), decide (PySem.W.ks_superIn K C C "__init__" = some (some (.builtin d.i))),
    excB K C, d.fs.all fun p => decide (PySem.W.takerIn K C p.1 = some none) && decide (PySem.W.findIn K (.ref C) p.1 = some none), decide (PySem.W.nsIn K mainGlobals d.cn = some (some (.ref C))), decide (PySem.W.nsIn K mainGlobals "super" = some none),
    decide (PySem.W.findIn K (.ref C) "__init__" = some (some (.ref (d.fa K)))), decide (PySem.W.typeIn K (.ref (d.fa K)) = some (.type "function")), d.fnB K].all id
theorem ErD.get {d : ErD} {K : PySem.W.Frag} (h : d.ok K = true) (i : Nat) {b : Bool} (e : ([PySem.W.excInitIn K (He.ga K d.cn) d.bmB d.newId, PySem.W.excOver K (He.ga K d.cn) d.bmB, PySem.W.hasDictIn K (He.ga K d.cn), decide (PySem.W.findIn K (.ref (He.ga K d.cn)) "__setattr__" = some (some (.builtin "object.__setattr__"))),
    PySem.W.keepIn K (.ref (He.ga K d.cn)), decide (PySem.W.subIn K (.ref (He.ga K d.cn)) (.type "BaseException") = some true), decide (PySem.W.subIn K (.ref (He.ga K d.cn)) (.type d.B) = some true), decide (PySem.W.typeIn K (.ref (He.ga K d.cn)) = some (.type "type")),
    decide (PySem.W.nsIn K cStatics "thirdparty.any" = some none), decide (PySem.W.mroIn K (He.ga K d.cn) (.ref (He.ga K d.cn)) = some true), decide (PySem.W.ks_superIn K (He.ga K d.cn) (He.ga K d.cn) "__init__" = some (some (.builtin d.i))),
    excB K (He.ga K d.cn), d.fs.all fun p => decide (PySem.W.takerIn K (He.ga K d.cn) p.1 = some none) && decide (PySem.W.findIn K (.ref (He.ga K d.cn)) p.1 = some none), decide (PySem.W.nsIn K mainGlobals d.cn = some (some (.ref (He.ga K d.cn)))), decide (PySem.W.nsIn K mainGlobals "super" = some none),
    decide (PySem.W.findIn K (.ref (He.ga K d.cn)) "__init__" = some (some (.ref (d.fa K)))), decide (PySem.W.typeIn K (.ref (d.fa K)) = some (.type "function")), d.fnB K] : List Bool)[i]? = some b) : b = true := by
  have h' : List.all _ id = true := h
  exact List.all_eq_true.mp h' b (List.mem_of_getElem? e)
/-- what the program's own frame must say -/
structure ErP (P : Program) (file : Str) : Prop where
  file : ((P.main.file : Str) == file) = true
  top : (P.main.scope.names.lookup ("super" : Str)).isSome = false
section
variable {P : Program} {K : PySem.W.Frag} {h : Heap} {mg : Str → Option Value} {d : ErD}
theorem ErD.erC (X : K.In h) (G : h.Ns mainGlobals mg) (c : d.ok K = true) : ErC K mg d.cn (He.ga K d.cn) where
  g := PySem.W.mg_of X G (of_decide_eq_true (ErD.get c 13 rfl))
  gs := PySem.W.mg_none_of X G (of_decide_eq_true (ErD.get c 14 rfl))
  kC := ErD.get c 4 rfl
  exC := of_decide_eq_true (ErD.get c 5 rfl)
  tyC := of_decide_eq_true (ErD.get c 7 rfl)
  ec := excB_ok (ErD.get c 11 rfl)
theorem ErD.supC (FB : ExcBaseFacts d.B d.newId d.i d.bmB) (SF : StoreFacts d.B d.bmB "object.__setattr__" "object") (KF : PySem.W.KxsFacts d.B d.i) (c : d.ok K = true) : SupC K d.B d.newId d.i d.bmB (He.ga K d.cn) where
  FB := FB
  SF := SF
  KF := KF
  exI := ErD.get c 0 rfl
  ov := ErD.get c 1 rfl
  hdC := ErD.get c 2 rfl
  sa := of_decide_eq_true (ErD.get c 3 rfl)
  kC := ErD.get c 4 rfl
  exC := of_decide_eq_true (ErD.get c 5 rfl)
  subB := of_decide_eq_true (ErD.get c 6 rfl)
  tyC := of_decide_eq_true (ErD.get c 7 rfl)
  tp := of_decide_eq_true (ErD.get c 8 rfl)
  mroC := of_decide_eq_true (ErD.get c 9 rfl)
  supI := of_decide_eq_true (ErD.get c 10 rfl)
theorem ErD.supF (hP : ErP P d.file) (c : d.ok K = true) (e : d.w K = d.v) : SupF P K (He.ga K d.cn) (d.fa K) d.qual d.params d.body (supS d.nms) where
  iC := of_decide_eq_true (ErD.get c 15 rfl)
  tI := of_decide_eq_true (ErD.get c 16 rfl)
  top := hP.top
  fn := by
    have f := ErD.get c 17 rfl
    unfold ErD.fnB at f
    unfold ErD.w at e
    cases q : K.lookup (d.fa K) with
    | none => rw [q] at f; cases f
    | some o =>
      obtain ⟨oc, od, dt, osl⟩ := o
      rw [q] at f e
      cases dt with
      | func fd =>
        obtain ⟨n1, n2, n3, n4, n5, n6, n7, n8, n9, n10, n11, n12, n13, n14, n15⟩ := fd
        have e2 : (some (n1, n2, n3, n4, n5, n6, n15) : ErW) = some (("__init__" : Str), d.qual, d.params, FuncBody.stmts d.body, supS d.nms, mainGlobals, builtinsNs) := e
        simp only [Option.some.injEq, Prod.mk.injEq] at e2
        obtain ⟨h1, h2, h3, h4, h5, h6, h7⟩ := e2
        subst h1 h2 h3 h4 h5 h6 h7
        dsimp only at f
        split at f
        · rename_i n cc cda
          obtain ⟨f1, f2⟩ := Bool.and_eq_true_iff.mp f
          obtain ⟨f2, f3⟩ := Bool.and_eq_true_iff.mp f2
          obtain ⟨f3, f4⟩ := Bool.and_eq_true_iff.mp f3
          have en := of_decide_eq_true f1
          subst en
          split at f3
          · rename_i ccl cdd vs ccs q2
            split at f3
            · rename_i file tf q3
              split at f4
              · rename_i cl cld D csl q4
                have eD := of_decide_eq_true f4
                subst eD
                have ef : d.file = file := eq_of_beq f3
                exact ⟨oc, od, _, _, _, cda, _, cc, osl, ⟨rfl, f2⟩, ⟨ccl, cdd, vs, ccs, file, tf, q2, q3, ef ▸ hP.file⟩, cl, cld, csl, q4⟩
              · cases f4
            · cases f3
          · cases f3
        · cases f
      | _ => cases f
theorem ErD.er1 {f : Str} {z1 : SupQ} (X : K.In h) (G : h.Ns mainGlobals mg) (hP : ErP P d.file) (c : d.ok K = true) (e : d.w K = d.v) (hf : d.fs = [(f, z1)]) (FB : ExcBaseFacts d.B d.newId d.i d.bmB) (SF : StoreFacts d.B d.bmB "object.__setattr__" "object") (KF : PySem.W.KxsFacts d.B d.i)
    (TS : SupS1 d.qual d.msg f d.params d.nms d.z z1) : Er1 P K mg d.cn (He.ga K d.cn) f := by
  have b := ErD.supF hP c e
  have t := ErD.get c 12 rfl
  unfold ErD.body at b
  rw [hf] at b t
  have t1 := List.all_eq_true.mp t (f, z1) (List.mem_cons_self ..)
  obtain ⟨t1, t2⟩ := Bool.and_eq_true_iff.mp t1
  exact { ErD.erC X G c with ex := ⟨_, _, _, _, _, _, _, _, _, _, _, ErD.supC FB SF KF c, b, TS⟩, tf := of_decide_eq_true t1, nof := of_decide_eq_true t2 }
theorem ErD.er2 {f f' : Str} {z1 z2 : SupQ} (X : K.In h) (G : h.Ns mainGlobals mg) (hP : ErP P d.file) (c : d.ok K = true) (e : d.w K = d.v) (hf : d.fs = [(f, z1), (f', z2)]) (FB : ExcBaseFacts d.B d.newId d.i d.bmB) (SF : StoreFacts d.B d.bmB "object.__setattr__" "object") (KF : PySem.W.KxsFacts d.B d.i)
    (TS : SupS2 d.qual d.msg f f' d.params d.nms d.z z1 z2) : Er2 P K mg d.cn (He.ga K d.cn) f f' := by
  have b := ErD.supF hP c e
  have t := ErD.get c 12 rfl
  unfold ErD.body at b
  rw [hf] at b t
  have t1 := List.all_eq_true.mp t (f, z1) (List.mem_cons_self ..)
  have t2 := List.all_eq_true.mp t (f', z2) (List.mem_cons_of_mem _ (List.mem_cons_self ..))
  obtain ⟨t1, u1⟩ := Bool.and_eq_true_iff.mp t1
  obtain ⟨t2, u2⟩ := Bool.and_eq_true_iff.mp t2
  exact { ErD.erC X G c with ex := ⟨_, _, _, _, _, _, _, _, _, _, _, _, ErD.supC FB SF KF c, b, TS⟩, tf := of_decide_eq_true t1, tg := of_decide_eq_true t2, nof := of_decide_eq_true u1, nog := of_decide_eq_true u2 }
end
/-! ### the hook -/
abbrev AlZ : Type := AlY × (Bool × List ErW)
def asZ (g : Addr → Option Obj) (n : Nat) : List Addr := He.asD g n ++ [cStatics]
def obsZ (fa : List He.Fa) (fn : List He.DefD) (ex : List (Str × String)) (er : List ErD) (xb : PySem.W.Frag → Bool) (K : PySem.W.Frag) : AlZ := (obsY fa fn ex K, (er.all (fun d => d.ok K) && xb K, er.map fun d => d.w K))
def valZ (fn : List He.DefD) (er : List ErD) : AlZ := ((He.valD fn, true), (true, er.map ErD.v))
def obsZG (n : Nat) (fa : List He.Fa) (fn : List He.DefD) (ex : List (Str × String)) (er : List ErD) (xb : PySem.W.Frag → Bool) (g : Addr → Option Obj) : AlZ := obsZ fa fn ex er xb (He.frG g (asZ g n))
structure SaysZ (fa : List He.Fa) (fn : List He.DefD) (ex : List (Str × String)) (er : List ErD) (xb : PySem.W.Frag → Bool) (K : PySem.W.Frag) : Prop where
  eq : obsZ fa fn ex er xb K = valZ fn er
section
variable {fa : List He.Fa} {fn : List He.DefD} {ex : List (Str × String)} {er : List ErD} {xb : PySem.W.Frag → Bool} {K : PySem.W.Frag}
theorem SaysZ.y (c : SaysZ fa fn ex er xb K) : SaysY fa fn ex K := ⟨congrArg (fun z : AlZ => z.1) c.eq⟩
theorem SaysZ.ok (c : SaysZ fa fn ex er xb K) (i : Nat) {d : ErD} (h : er[i]? = some d := by rfl) : d.ok K = true := by
  have z : (er.all (fun d => d.ok K) && xb K) = true := congrArg (fun z : AlZ => z.2.1) c.eq
  exact List.all_eq_true.mp (Bool.and_eq_true_iff.mp z).1 d (List.mem_of_getElem? h)
theorem SaysZ.xok (c : SaysZ fa fn ex er xb K) : xb K = true := by
  have z : (er.all (fun d => d.ok K) && xb K) = true := congrArg (fun z : AlZ => z.2.1) c.eq
  exact (Bool.and_eq_true_iff.mp z).2
theorem SaysZ.wv (c : SaysZ fa fn ex er xb K) (i : Nat) {d : ErD} (h : er[i]? = some d := by rfl) : d.w K = d.v := by
  have z : er.map (fun d => d.w K) = er.map ErD.v := congrArg (fun z : AlZ => z.2.2) c.eq
  have e2 : (er.map fun d => d.w K)[i]? = (er.map ErD.v)[i]? := by rw [z]
  rw [List.getElem?_map, List.getElem?_map, h] at e2
  exact Option.some.inj e2
end
def hookZ (n : Nat) (fa : List He.Fa) (fn : List He.DefD) (ex : List (Str × String)) (er : List ErD) (xb : PySem.W.Frag → Bool) : PySem.W.Hook where
  α := AlZ
  obs := fun s => obsZG n fa fn ex er xb s.heap.get?
  val := fun _ => valZ fn er
  says := fun _ h => ∃ K : PySem.W.Frag, K.In h ∧ SaysZ fa fn ex er xb K
  of := fun _ _ e => ⟨_, He.frG_in, ⟨e⟩⟩
  keeps := fun _ _ _ ⟨K, hK, c⟩ k => ⟨K, PySem.W.Frag.In.keeps hK k, c⟩
theorem obsZG_eq {n : Nat} {fa : List He.Fa} {fn : List He.DefD} {ex : List (Str × String)} {er : List ErD} {xb : PySem.W.Frag → Bool} {g : Addr → Option Obj} {s : Shared} (h : ∀ a, g a = s.heap.get? a) : obsZG n fa fn ex er xb g = (hookZ n fa fn ex er xb).obs s := by
  have e : g = s.heap.get? := funext h
  rw [e] <;> rfl
end Cb
set_option linter.all false
namespace Rk
section
variable {α : Type} [DecidableEq α]
def up (v : α → Bool) (a : α) : α → Bool := fun i => if i = a then true else v i
def ad (u v : α → Bool) : α → Bool := fun i => xor (u i) (v i)
/-- v is false off l -/
def On (l : List α) (v : α → Bool) : Prop := ∀ i, i ∉ l → v i = false
def sm : List α → ((α → Bool) → Int) → Int
  | [], f => f fun _ => false
  | a :: l, f => sm l f + sm l fun v => f (up v a)
def px (l : List α) (f : α → Bool) : Bool := l.foldr (fun a b => xor (f a) b) false
def sg (b : Bool) : Int := if b then -1 else 1
theorem sg_xor (a b : Bool) : sg (xor a b) = sg a * sg b := by cases a <;> cases b <;> rfl
theorem sg_sq (a : Bool) : sg a * sg a = 1 := by cases a <;> rfl
theorem On.cons {a : α} {l : List α} {v : α → Bool} (h : On l v) : On (a :: l) v := fun i hi => h i fun z => hi (List.mem_cons_of_mem _ z)
theorem On.up {a : α} {l : List α} {v : α → Bool} (h : On l v) : On (a :: l) (up v a) := fun i hi => by
  unfold Rk.up
  rw [if_neg fun e : i = a => hi (by rw [e]; exact List.mem_cons_self ..)]
  exact h i fun z => hi (List.mem_cons_of_mem _ z)
theorem On.ad {l : List α} {u v : α → Bool} (h : On l u) (k : On l v) : On l (ad u v) := fun i hi => by
  unfold Rk.ad
  rw [h i hi, k i hi]; rfl
theorem sm_congr : ∀ {l : List α} {f g : (α → Bool) → Int}, (∀ v, On l v → f v = g v) → sm l f = sm l g
  | [], f, g, h => h _ fun _ _ => rfl
  | a :: l, f, g, h => by
    unfold sm
    rw [sm_congr (l := l) fun v hv => h v hv.cons, sm_congr (l := l) fun v hv => h _ hv.up]
theorem sm_cons (a : α) (l : List α) (f : (α → Bool) → Int) : sm (a :: l) f = sm l f + sm l fun v => f (up v a) := rfl
theorem sm_add (l : List α) (f g : (α → Bool) → Int) : sm l (fun v => f v + g v) = sm l f + sm l g := by
  induction l generalizing f g with
  | nil => rfl
  | cons a l ih => unfold sm; rw [ih, ih]; omega
theorem sm_mul (l : List α) (c : Int) (f : (α → Bool) → Int) : sm l (fun v => c * f v) = c * sm l f := by
  induction l generalizing f with
  | nil => rfl
  | cons a l ih => unfold sm; rw [ih, ih, Int.mul_add]
theorem sm_zero (l : List α) : sm l (fun _ => 0) = 0 := by
  induction l with
  | nil => rfl
  | cons a l ih => unfold sm; rw [ih]; rfl
theorem sm_one (l : List α) : sm l (fun _ => 1) = 2 ^ l.length := by
  induction l with
  | nil => rfl
  | cons a l ih => unfold sm; rw [ih, List.length_cons, Int.pow_succ]; omega
theorem sm_swap {β : Type} [DecidableEq β] (l : List α) (m : List β) (f : (α → Bool) → (β → Bool) → Int) : sm l (fun u => sm m fun v => f u v) = sm m fun v => sm l fun u => f u v := by
  induction l generalizing f with
  | nil => rfl
  | cons a l ih => rw [sm_cons, ih, ih, ← sm_add]; rfl
theorem sm_ne {l : List α} {f : (α → Bool) → Int} (h : sm l f ≠ 0) : ∃ v, On l v ∧ f v ≠ 0 := by
  refine Classical.byContradiction fun hn => h ?_
  rw [sm_congr (g := fun _ => 0) fun v hv => Classical.byContradiction fun e => hn ⟨v, hv, e⟩]
  exact sm_zero l
theorem sm_tr : ∀ {l : List α} (_ : l.Nodup) {u : α → Bool} (_ : On l u) (f : (α → Bool) → Int), sm l f = sm l fun v => f (ad u v)
  | [], _, u, hu, f => by
    unfold sm
    congr 1
    funext i
    unfold ad
    rw [hu i List.not_mem_nil]; rfl
  | a :: l, nd, u, hu, f => by
    have na := (List.nodup_cons.mp nd).1
    have nd' := (List.nodup_cons.mp nd).2
    unfold sm
    cases e : u a with
    | false =>
      have hu' : On l u := fun i hi => by
        by_cases ei : i = a
        · rw [ei]; exact e
        · exact hu i fun z => (List.mem_cons.mp z).elim ei hi
      rw [sm_tr nd' hu' f, sm_tr nd' hu' fun v => f (up v a)]
      congr 2
      funext v
      congr 1
      funext i
      unfold up ad
      by_cases ei : i = a
      · subst ei; simp [e]
      · simp [ei]
    | true =>
      let u' : α → Bool := fun i => if i = a then false else u i
      have hu' : On l u' := fun i hi => by
        show (if i = a then false else u i) = false
        by_cases ei : i = a
        · rw [if_pos ei]
        · rw [if_neg ei]; exact hu i fun z => (List.mem_cons.mp z).elim ei hi
      rw [sm_tr nd' hu' f, sm_tr nd' hu' fun v => f (up v a), Int.add_comm]
      congr 1
      · refine sm_congr fun v hv => ?_
        congr 1
        funext i
        show (if i = a then true else xor (if i = a then false else u i) (v i)) = xor (u i) (v i)
        by_cases ei : i = a
        · subst ei; simp [e, hv i na]
        · simp [ei]
      · refine sm_congr fun v hv => ?_
        congr 1
        funext i
        show xor (if i = a then false else u i) (v i) = xor (u i) (if i = a then true else v i)
        by_cases ei : i = a
        · subst ei; simp [e, hv i na]
        · simp [ei]
theorem sm_perm {l m : List α} (h : l.Perm m) : ∀ f : (α → Bool) → Int, sm l f = sm m f := by
  induction h with
  | nil => intro f; rfl
  | cons a _ ih => intro f; unfold sm; rw [ih, ih]
  | swap a b l =>
    intro f
    unfold sm; unfold sm
    have e : ∀ v : α → Bool, up (up v a) b = up (up v b) a := fun v => by
      funext i
      unfold up
      by_cases h1 : i = a <;> by_cases h2 : i = b <;> simp [h1, h2]
    simp only [e]
    omega
  | trans _ _ i1 i2 => intro f; rw [i1, i2]
/-! parities -/
theorem px_nil (f : α → Bool) : px [] f = false := rfl
theorem px_cons (a : α) (l : List α) (f : α → Bool) : px (a :: l) f = xor (f a) (px l f) := rfl
theorem px_congr {l : List α} {f g : α → Bool} (h : ∀ a ∈ l, f a = g a) : px l f = px l g := by
  induction l with
  | nil => rfl
  | cons a l ih => rw [px_cons, px_cons, h a (List.mem_cons_self ..), ih fun b hb => h b (List.mem_cons_of_mem _ hb)]
theorem px_xor (l : List α) (f g : α → Bool) : px l (fun a => xor (f a) (g a)) = xor (px l f) (px l g) := by
  induction l with
  | nil => rfl
  | cons a l ih =>
    rw [px_cons, px_cons, px_cons, ih]
    cases f a <;> cases g a <;> cases px l f <;> cases px l g <;> rfl
theorem px_and (l : List α) (c : Bool) (f : α → Bool) : px l (fun a => c && f a) = (c && px l f) := by
  induction l with
  | nil => cases c <;> rfl
  | cons a l ih =>
    rw [px_cons, px_cons, ih]
    cases c <;> cases f a <;> cases px l f <;> rfl
theorem px_false (l : List α) : px l (fun _ => false) = false := by
  induction l with
  | nil => rfl
  | cons a l ih => rw [px_cons, ih]; rfl
theorem px_swap {β : Type} (l : List α) (m : List β) [DecidableEq β] (f : α → β → Bool) : px l (fun a => px m fun b => f a b) = px m fun b => px l fun a => f a b := by
  induction l with
  | nil => rw [px_nil]; exact (px_false m).symm
  | cons a l ih => rw [px_cons, ih, ← px_xor]; rfl
theorem px_perm {l m : List α} (h : l.Perm m) (f : α → Bool) : px l f = px m f := by
  induction h with
  | nil => rfl
  | cons a _ ih => rw [px_cons, px_cons, ih]
  | swap a b l => rw [px_cons, px_cons, px_cons, px_cons]; cases f a <;> cases f b <;> cases px l f <;> rfl
  | trans _ _ i1 i2 => rw [i1, i2]
theorem px_append (l m : List α) (f : α → Bool) : px (l ++ m) f = xor (px l f) (px m f) := by
  induction l with
  | nil => rw [px_nil, List.nil_append]; cases px m f <;> rfl
  | cons a l ih => rw [List.cons_append, px_cons, px_cons, ih]; cases f a <;> cases px l f <;> cases px m f <;> rfl
theorem px_delta {l : List α} (nd : l.Nodup) {a : α} (ha : a ∈ l) (f : α → Bool) : px l (fun b => decide (b = a) && f b) = f a := by
  induction l with
  | nil => cases ha
  | cons c l ih =>
    rw [px_cons]
    have nc := (List.nodup_cons.mp nd).1
    by_cases e : c = a
    · subst e
      rw [px_congr (g := fun _ => false) fun b hb => by
        rw [decide_eq_false fun z : b = c => nc (by rw [← z]; exact hb)]; rfl, px_false, decide_eq_true rfl]
      cases f c <;> rfl
    · rw [decide_eq_false e, ih (List.nodup_cons.mp nd).2 ((List.mem_cons.mp ha).resolve_left fun z => e z.symm)]
      cases f a <;> rfl
theorem px_true {l : List α} {f : α → Bool} (h : px l f = true) : ∃ a ∈ l, f a = true := by
  refine Classical.byContradiction fun hn => ?_
  rw [px_congr (g := fun _ => false) fun a ha => by
    cases e : f a with
    | false => rfl
    | true => exact (hn ⟨a, ha, e⟩).elim, px_false] at h
  cases h
/-! characters -/
theorem sm_chr : ∀ {l : List α} (_ : l.Nodup) (h : α → Bool), sm l (fun u => sg (px l fun b => u b && h b)) = if l.all (fun b => !h b) = true then 2 ^ l.length else 0
  | [], _, h => rfl
  | a :: l, nd, h => by
    have na := (List.nodup_cons.mp nd).1
    unfold sm
    rw [sm_congr (l := l) (f := fun u => sg (px (a :: l) fun b => u b && h b)) (g := fun u => sg (px l fun b => u b && h b)) (fun v hv => by
        rw [px_cons, hv a na]; cases px l fun b => v b && h b <;> rfl),
      sm_congr (l := l) (f := fun u => sg (px (a :: l) fun b => up u a b && h b)) (g := fun u => sg (h a) * sg (px l fun b => u b && h b)) (fun v hv => by
        rw [px_cons, ← sg_xor]
        have e : px l (fun b => up v a b && h b) = px l fun b => v b && h b := px_congr fun b hb => by
          unfold up
          rw [if_neg fun z : b = a => na (by rw [← z]; exact hb)]
        rw [e]
        unfold up
        rw [if_pos rfl]; rfl), sm_mul, sm_chr (List.nodup_cons.mp nd).2 h, List.all_cons, List.length_cons]
    cases e : h a with
    | false =>
      simp only [Bool.not_false, Bool.true_and]
      split
      · rw [Int.pow_succ]; show _ + 1 * _ = _; omega
      · rfl
    | true =>
      simp only [Bool.not_true, Bool.false_and, Bool.false_eq_true, if_false]
      split
      · show _ + (-1) * _ = _; omega
      · rfl
/-! quadratic forms -/
variable (A : α → α → Bool)
def qf : List α → (α → Bool) → Bool
  | [], _ => false
  | b :: l, v => xor (v b && px l fun z => v z && A b z) (qf l v)
def bl (l : List α) (u v : α → Bool) : Bool := px l fun b => u b && px l fun z => A b z && v z
def ker (l : List α) (v : α → Bool) : Bool := l.all fun b => !px l fun z => A b z && v z
variable {A}
theorem qf_add {l : List α} (hs : ∀ a ∈ l, ∀ b ∈ l, A a b = A b a) (hd : ∀ a ∈ l, A a a = false) (u v : α → Bool) : qf A l (ad u v) = xor (xor (qf A l u) (qf A l v)) (bl A l u v) := by
  induction l with
  | nil => rfl
  | cons b l ih =>
    unfold qf
    rw [ih (fun a ha c hc => hs a (List.mem_cons_of_mem _ ha) c (List.mem_cons_of_mem _ hc)) fun a ha => hd a (List.mem_cons_of_mem _ ha)]
    have e1 : px l (fun z => ad u v z && A b z) = xor (px l fun z => u z && A b z) (px l fun z => v z && A b z) := by
      rw [← px_xor]
      refine px_congr fun z _ => ?_
      unfold ad
      cases u z <;> cases v z <;> cases A b z <;> rfl
    have e2 : bl A (b :: l) u v = xor (xor (u b && px l fun z => v z && A b z) (v b && px l fun z => u z && A b z)) (bl A l u v) := by
      unfold bl
      rw [px_cons, px_cons, hd b (List.mem_cons_self ..)]
      have e3 : px l (fun c => u c && px (b :: l) fun z => A c z && v z) = xor (v b && px l fun z => u z && A b z) (px l fun c => u c && px l fun z => A c z && v z) := by
        rw [← px_and, ← px_xor]
        refine px_congr fun c hc => ?_
        rw [px_cons, hs c (List.mem_cons_of_mem _ hc) b (List.mem_cons_self ..)]
        cases u c <;> cases v b <;> cases A b c <;> cases px l (fun z => A c z && v z) <;> rfl
      rw [e3]
      have e4 : px l (fun z => A b z && v z) = px l fun z => v z && A b z := px_congr fun z _ => Bool.and_comm ..
      rw [e4]
      cases u b <;> cases v b <;> cases px l (fun z => v z && A b z) <;> cases px l (fun z => u z && A b z) <;> cases px l (fun c => u c && px l fun z => A c z && v z) <;> rfl
    rw [e1, e2]
    unfold ad
    cases u b <;> cases v b <;> cases px l (fun z => v z && A b z) <;> cases px l (fun z => u z && A b z) <;> cases bl A l u v <;> cases qf A l u <;> cases qf A l v <;> rfl
theorem bl_add (l : List α) (u v w : α → Bool) : bl A l u (ad v w) = xor (bl A l u v) (bl A l u w) := by
  unfold bl
  rw [← px_xor]
  refine px_congr fun b _ => ?_
  have e : px l (fun z => A b z && ad v w z) = xor (px l fun z => A b z && v z) (px l fun z => A b z && w z) := by
    rw [← px_xor]
    refine px_congr fun z _ => ?_
    unfold ad
    cases A b z <;> cases v z <;> cases w z <;> rfl
  rw [e]
  cases u b <;> cases px l (fun z => A b z && v z) <;> cases px l (fun z => A b z && w z) <;> rfl
theorem bl_ker {l : List α} {u v : α → Bool} (h : ker A l v = true) : bl A l u v = false := by
  unfold bl
  rw [px_congr (g := fun _ => false) fun b hb => by
    have := List.all_eq_true.mp h b hb
    cases e : px l fun z => A b z && v z with
    | false => cases u b <;> rfl
    | true => rw [e] at this; cases this]
  exact px_false l
theorem ker_add {l : List α} {v w : α → Bool} (h : ker A l w = true) : ker A l (ad w v) = ker A l v := by
  unfold ker
  rw [Bool.eq_iff_iff, List.all_eq_true, List.all_eq_true]
  have e : ∀ b ∈ l, px l (fun z => A b z && ad w v z) = px l fun z => A b z && v z := fun b hb => by
    have h1 := List.all_eq_true.mp h b hb
    rw [px_congr (g := fun z => xor (A b z && w z) (A b z && v z)) fun z _ => by
      unfold ad
      cases A b z <;> cases v z <;> cases w z <;> rfl, px_xor]
    cases e : px l fun z => A b z && w z with
    | false => cases px l (fun z => A b z && v z) <;> rfl
    | true => rw [e] at h1; cases h1
  constructor
  · intro k b hb; rw [← e b hb]; exact k b hb
  · intro k b hb; rw [e b hb]; exact k b hb
def kerN (A : α → α → Bool) (l : List α) : Int := sm l fun v => if ker A l v = true then 1 else 0
def gs (A : α → α → Bool) (l : List α) (c : α → Bool) : Int := sm l fun v => sg (xor (qf A l v) (px l fun b => v b && c b))
theorem gs_sq {l : List α} (nd : l.Nodup) (hs : ∀ a ∈ l, ∀ b ∈ l, A a b = A b a) (hd : ∀ a ∈ l, A a a = false) (c : α → Bool) :
    gs A l c * gs A l c = 2 ^ l.length * sm l (fun v => if ker A l v = true then sg (xor (qf A l v) (px l fun b => v b && c b)) else 0) := by
  let Q : (α → Bool) → Bool := fun v => xor (qf A l v) (px l fun b => v b && c b)
  have hQ : ∀ u v, Q (ad u v) = xor (xor (Q u) (Q v)) (bl A l u v) := fun u v => by
    show xor (qf A l (ad u v)) (px l fun b => ad u v b && c b) = _
    have e : px l (fun b => ad u v b && c b) = xor (px l fun b => u b && c b) (px l fun b => v b && c b) := by
      rw [← px_xor]
      refine px_congr fun z _ => ?_
      unfold ad
      cases u z <;> cases v z <;> cases c z <;> rfl
    rw [qf_add hs hd, e]
    show _ = xor (xor (xor (qf A l u) (px l fun b => u b && c b)) (xor (qf A l v) (px l fun b => v b && c b))) (bl A l u v)
    cases qf A l u <;> cases qf A l v <;> cases bl A l u v <;> cases px l (fun b => u b && c b) <;> cases px l (fun b => v b && c b) <;> rfl
  show gs A l c * (sm l fun v => sg (Q v)) = _
  have e1 : gs A l c * (sm l fun v => sg (Q v)) = sm l fun u => sm l fun v => sg (Q v) * sg (bl A l u v) := by
    rw [Int.mul_comm]
    show (sm l fun v => sg (Q v)) * (sm l fun u => sg (Q u)) = _
    rw [← sm_mul]
    refine sm_congr fun u hu => ?_
    rw [Int.mul_comm, ← sm_mul]
    show sm l (fun v => sg (Q u) * sg (Q v)) = _
    rw [sm_tr nd hu fun v => sg (Q u) * sg (Q v)]
    refine sm_congr fun v _ => ?_
    rw [hQ]
    cases Q u <;> cases Q v <;> cases bl A l u v <;> rfl
  rw [e1, sm_swap, ← sm_mul]
  refine sm_congr fun v _ => ?_
  rw [sm_mul]
  have e2 := sm_chr nd fun b => px l fun z => A b z && v z
  show sg (Q v) * sm l (fun u => sg (px l fun b => u b && px l fun z => A b z && v z)) = _
  rw [e2]
  show _ = 2 ^ l.length * (if (l.all fun b => !px l fun z => A b z && v z) = true then sg (Q v) else 0)
  split
  · rw [Int.mul_comm]
  · rw [Int.mul_zero, Int.mul_zero]
theorem ker_sum {l : List α} (nd : l.Nodup) (hs : ∀ a ∈ l, ∀ b ∈ l, A a b = A b a) (hd : ∀ a ∈ l, A a a = false) (c : α → Bool) :
    sm l (fun v => if ker A l v = true then sg (xor (qf A l v) (px l fun b => v b && c b)) else 0) = 0 ∨ sm l (fun v => if ker A l v = true then sg (xor (qf A l v) (px l fun b => v b && c b)) else 0) = kerN A l := by
  let Q : (α → Bool) → Bool := fun v => xor (qf A l v) (px l fun b => v b && c b)
  by_cases h : ∃ w, On l w ∧ ker A l w = true ∧ Q w = true
  · refine .inl ?_
    obtain ⟨w, hw, hk, hq⟩ := h
    have e := sm_tr nd hw fun v => if ker A l v = true then sg (Q v) else 0
    have e2 : sm l (fun v => if ker A l (ad w v) = true then sg (Q (ad w v)) else 0) = sm l fun v => (-1) * (if ker A l v = true then sg (Q v) else 0) := by
      refine sm_congr fun v _ => ?_
      rw [ker_add hk]
      split
      · rename_i hv
        have : Q (ad w v) = xor (xor (Q w) (Q v)) (bl A l w v) := by
          show xor (qf A l (ad w v)) (px l fun b => ad w v b && c b) = _
          have e : px l (fun b => ad w v b && c b) = xor (px l fun b => w b && c b) (px l fun b => v b && c b) := by
            rw [← px_xor]
            refine px_congr fun z _ => ?_
            unfold ad
            cases w z <;> cases v z <;> cases c z <;> rfl
          rw [qf_add hs hd, e]
          show _ = xor (xor (xor (qf A l w) (px l fun b => w b && c b)) (xor (qf A l v) (px l fun b => v b && c b))) (bl A l w v)
          cases qf A l w <;> cases qf A l v <;> cases bl A l w v <;> cases px l (fun b => w b && c b) <;> cases px l (fun b => v b && c b) <;> rfl
        rw [this, bl_ker hv, hq]
        cases Q v <;> rfl
      · rfl
    rw [e2, sm_mul] at e
    show sm l (fun v => if ker A l v = true then sg (Q v) else 0) = 0
    omega
  · refine .inr ?_
    unfold kerN
    refine sm_congr fun v hv => ?_
    split
    · rename_i hk
      have : Q v = false := by
        cases e : Q v with
        | false => rfl
        | true => exact (h ⟨v, hv, hk, e⟩).elim
      show sg (Q v) = 1
      rw [this]; rfl
    · rfl
theorem gs_ex {l : List α} (nd : l.Nodup) : ∃ c, gs A l c ≠ 0 := by
  have h : sm l (fun c => gs A l c) ≠ 0 := by
    unfold gs
    rw [sm_swap]
    have e : ∀ v, On l v → sm l (fun c => sg (xor (qf A l v) (px l fun b => v b && c b))) = sg (qf A l v) * (if l.all (fun b => !v b) = true then 2 ^ l.length else 0) := fun v _ => by
      rw [← sm_chr nd v, ← sm_mul]
      refine sm_congr fun c _ => ?_
      rw [sg_xor]
      congr 2
      exact px_congr fun b _ => Bool.and_comm ..
    rw [sm_congr e]
    have e3 : ∀ (l m : List α), sm l (fun v => sg (qf A m v) * (if l.all (fun b => !v b) = true then 2 ^ m.length else 0)) = sg (qf A m fun _ => false) * 2 ^ m.length := by
      intro l
      induction l with
      | nil => intro m; rfl
      | cons a l ih =>
        intro m
        unfold sm
        rw [sm_congr (l := l) (f := fun v => sg (qf A m (up v a)) * (if (a :: l).all (fun b => !up v a b) = true then 2 ^ m.length else 0)) (g := fun _ => 0) (fun v _ => by
          rw [List.all_cons]
          show _ * (if (!(if a = a then true else v a) && _) = true then _ else _) = _
          rw [if_pos rfl]
          exact Int.mul_zero _), sm_zero, Int.add_zero]
        by_cases ha : a ∈ l
        · rw [sm_congr (g := fun v => sg (qf A m v) * (if l.all (fun b => !v b) = true then 2 ^ m.length else 0)), ih m]
          intro v hv
          rw [List.all_cons]
          congr 1
          by_cases e : l.all (fun b => !v b) = true
          · rw [List.all_eq_true.mp e a ha, Bool.true_and]
          · rw [Bool.eq_false_iff.mpr e, Bool.and_false]
        · rw [sm_congr (g := fun v => sg (qf A m v) * (if l.all (fun b => !v b) = true then 2 ^ m.length else 0)), ih m]
          intro v hv
          rw [List.all_cons, hv a ha]; rfl
    rw [e3 l l]
    have : ∀ b, sg b = 1 ∨ sg b = -1 := fun b => by cases b; exact .inl rfl; exact .inr rfl
    have hp : (2 : Int) ^ l.length ≠ 0 := by
      have := Int.pow_pos (n := 2) (m := l.length) (by omega); omega
    intro z
    rcases Int.mul_eq_zero.mp z with z | z
    · rcases this (qf A l fun _ => false) with e | e <;> rw [e] at z <;> omega
    · exact hp z
  obtain ⟨c, _, h⟩ := sm_ne h
  exact ⟨c, h⟩
theorem ker_square {l : List α} (nd : l.Nodup) (hs : ∀ a ∈ l, ∀ b ∈ l, A a b = A b a) (hd : ∀ a ∈ l, A a a = false) : ∃ s : Int, s * s = 2 ^ l.length * kerN A l := by
  obtain ⟨c, hc⟩ := gs_ex (A := A) nd
  refine ⟨_, (gs_sq nd hs hd c).trans ?_⟩
  rcases ker_sum nd hs hd c with h | h
  · have := gs_sq nd hs hd c
    rw [h, Int.mul_zero] at this
    rcases Int.mul_eq_zero.mp this with z | z <;> exact (hc z).elim
  · rw [h]
end
end Rk
namespace Rk
section
/-- how many choices of rows add up to t -/
def relc : List Nat → Nat → Nat
  | [], t => if t = 0 then 1 else 0
  | r :: rs, t => relc rs t + relc rs (t ^^^ r)
def Span : List Nat → Nat → Prop
  | [], t => t = 0
  | r :: rs, t => Span rs t ∨ Span rs (t ^^^ r)
theorem xor3 (a b c : Nat) : a ^^^ b ^^^ c = a ^^^ c ^^^ b := by rw [Nat.xor_assoc, Nat.xor_comm b c, ← Nat.xor_assoc]
theorem xor_can (a b : Nat) : a ^^^ b ^^^ b = a := by rw [Nat.xor_assoc, Nat.xor_self, Nat.xor_zero]
theorem Span.zero : ∀ rs, Span rs 0
  | [] => rfl
  | r :: rs => .inl (Span.zero rs)
theorem Span.add : ∀ {rs : List Nat} {a b : Nat}, Span rs a → Span rs b → Span rs (a ^^^ b)
  | [], a, b, ha, hb => by
    have e1 : a = 0 := ha
    have e2 : b = 0 := hb
    subst e1 e2; rfl
  | r :: rs, a, b, ha, hb => by
    rcases ha with ha | ha <;> rcases hb with hb | hb
    · exact .inl (Span.add ha hb)
    · refine .inr ?_
      rw [Nat.xor_assoc]
      exact Span.add ha hb
    · refine .inr ?_
      rw [xor3]
      exact Span.add ha hb
    · refine .inl ?_
      have := Span.add ha hb
      rw [show a ^^^ r ^^^ (b ^^^ r) = a ^^^ b by rw [← Nat.xor_assoc, xor3 a r b, xor_can]] at this
      exact this
theorem Span.mem {rs : List Nat} {r : Nat} (h : r ∈ rs) : Span rs r := by
  induction rs with
  | nil => cases h
  | cons a rs ih =>
    rcases List.mem_cons.mp h with e | h
    · subst e; refine .inr ?_; rw [Nat.xor_self]; exact Span.zero _
    · exact .inl (ih h)
theorem Span.snoc {rs : List Nat} {r t : Nat} : Span (rs ++ [r]) t ↔ Span rs t ∨ Span rs (t ^^^ r) := by
  induction rs generalizing t with
  | nil => exact Iff.rfl
  | cons a rs ih =>
    show Span (rs ++ [r]) t ∨ Span (rs ++ [r]) (t ^^^ a) ↔ (Span rs t ∨ Span rs (t ^^^ a)) ∨ (Span rs (t ^^^ r) ∨ Span rs (t ^^^ r ^^^ a))
    rw [ih, ih, xor3 t a r]
    constructor
    · rintro ((h | h) | (h | h))
      · exact .inl (.inl h)
      · exact .inr (.inl h)
      · exact .inl (.inr h)
      · exact .inr (.inr h)
    · rintro ((h | h) | (h | h))
      · exact .inl (.inl h)
      · exact .inr (.inl h)
      · exact .inl (.inr h)
      · exact .inr (.inr h)
theorem relc_snoc (rs : List Nat) (r t : Nat) : relc (rs ++ [r]) t = relc rs t + relc rs (t ^^^ r) := by
  induction rs generalizing t with
  | nil => rfl
  | cons a rs ih =>
    show relc (rs ++ [r]) t + relc (rs ++ [r]) (t ^^^ a) = (relc rs t + relc rs (t ^^^ a)) + (relc rs (t ^^^ r) + relc rs (t ^^^ r ^^^ a))
    rw [ih, ih, xor3 t a r]; omega
theorem relc_not {rs : List Nat} {t : Nat} (h : ¬Span rs t) : relc rs t = 0 := by
  induction rs generalizing t with
  | nil => exact if_neg h
  | cons a rs ih =>
    show relc rs t + relc rs (t ^^^ a) = 0
    rw [ih fun z => h (.inl z), ih fun z => h (.inr z)]
theorem relc_tr {rs : List Nat} {s : Nat} (h : Span rs s) (t : Nat) : relc rs (t ^^^ s) = relc rs t := by
  induction rs generalizing s t with
  | nil =>
    have e : s = 0 := h
    subst e; rw [Nat.xor_zero]
  | cons a rs ih =>
    show relc rs (t ^^^ s) + relc rs (t ^^^ s ^^^ a) = relc rs t + relc rs (t ^^^ a)
    rcases h with h | h
    · rw [ih h, xor3, ih h]
    · have e1 : t ^^^ s = t ^^^ a ^^^ (s ^^^ a) := by rw [← Nat.xor_assoc, xor3 t a s, xor_can]
      have e2 : t ^^^ s ^^^ a = t ^^^ (s ^^^ a) := Nat.xor_assoc ..
      rw [e2, ih h, e1, ih h]; omega
theorem relc_in {rs : List Nat} {s : Nat} (h : Span rs s) : relc rs s = relc rs 0 := by
  have := relc_tr h 0
  rwa [Nat.zero_xor] at this
/-! top bits -/
theorem lt_tb {x y : Nat} (i : Nat) (hx : x.testBit i = false) (hy : y.testBit i = true) (h : ∀ j, i < j → x.testBit j = y.testBit j) : x < y := by
  have hq : x / 2 ^ (i + 1) = y / 2 ^ (i + 1) := Nat.eq_of_testBit_eq fun j => by
    rw [Nat.testBit_div_two_pow, Nat.testBit_div_two_pow]; exact h _ (by omega)
  rw [Nat.testBit_eq_decide_div_mod_eq] at hx hy
  have hx := of_decide_eq_false hx
  have hy := of_decide_eq_true hy
  rw [Nat.pow_succ, ← Nat.div_div_eq_div_mul, ← Nat.div_div_eq_div_mul] at hq
  have hl : x / 2 ^ i < y / 2 ^ i := by omega
  refine Nat.not_le.mp fun z => ?_
  have := Nat.div_le_div_right (c := 2 ^ i) z
  omega
theorem top_bit {x : Nat} (h : x ≠ 0) : x.testBit x.log2 = true := by
  rw [Nat.testBit_eq_decide_div_mod_eq]
  have h1 := Nat.log2_self_le h
  have h2 := @Nat.lt_log2_self x
  rw [decide_eq_true]
  have : x / 2 ^ x.log2 = 1 := by
    rw [Nat.pow_succ] at h2
    exact Nat.div_eq_of_lt_le (by omega) (by omega)
  rw [this]
theorem bit_above {x j : Nat} (h : x.log2 < j) : x.testBit j = false :=
  Nat.testBit_lt_two_pow (Nat.lt_of_lt_of_le (@Nat.lt_log2_self x) (Nat.pow_le_pow_right (by omega) h))
theorem log2_of {x k : Nat} (h : x.testBit k = true) (a : ∀ j, k < j → x.testBit j = false) : x.log2 = k := by
  have hx : x ≠ 0 := fun z => by rw [z, Nat.zero_testBit] at h; cases h
  rcases Nat.lt_trichotomy x.log2 k with e | e | e
  · rw [bit_above e] at h; cases h
  · exact e
  · have := top_bit hx
    rw [a _ e] at this; cases this
theorem log2_xor {x y : Nat} (hy : y ≠ 0) (h : x = 0 ∨ x.log2 < y.log2) : (x ^^^ y).log2 = y.log2 := by
  have hx : ∀ j, y.log2 ≤ j → x.testBit j = false := fun j hj => by
    rcases h with h | h
    · rw [h, Nat.zero_testBit]
    · exact bit_above (by omega)
  refine log2_of ?_ fun j hj => ?_
  · rw [Nat.testBit_xor, hx _ (Nat.le_refl _), top_bit hy]; rfl
  · rw [Nat.testBit_xor, hx _ (by omega), bit_above hj]; rfl
theorem xor_ne_zero {x y : Nat} (h : x ≠ y) : x ^^^ y ≠ 0 := fun z => h (by rw [← xor_can x y, z, Nat.zero_xor])
/-- taking away the top: less -/
theorem xor_less {x y : Nat} (hx : x ≠ 0) (hy : y ≠ 0) (h : x.log2 = y.log2) : x ^^^ y < x := by
  refine lt_tb x.log2 ?_ (top_bit hx) fun j hj => ?_
  · rw [Nat.testBit_xor, top_bit hx, h, top_bit hy]; rfl
  · rw [Nat.testBit_xor, bit_above hj, bit_above (h ▸ hj)]; rfl
/-- the reduction's state: the kept ones have unlike tops, span the same -/
structure Ech (ks rows : List Nat) : Prop where
  pos : ∀ k ∈ ks, k ≠ 0
  tops : (ks.map Nat.log2).Nodup
  span : ∀ t, Span ks t ↔ Span rows t
  cnt : relc rows 0 * 2 ^ ks.length = 2 ^ rows.length
theorem Ech.nil : Ech [] [] := ⟨fun k h => (by cases h), List.nodup_nil, fun _ => Iff.rfl, rfl⟩
theorem tops_in : ∀ {ks : List Nat}, (∀ k ∈ ks, k ≠ 0) → (ks.map Nat.log2).Nodup → ∀ {t}, Span ks t → t ≠ 0 → t.log2 ∈ ks.map Nat.log2
  | [], _, _, t, h, ht => (ht h).elim
  | k :: ks, hp, nd, t, h, ht => by
    have hk := hp k (List.mem_cons_self ..)
    have hp' : ∀ k ∈ ks, k ≠ 0 := fun k h => hp k (List.mem_cons_of_mem _ h)
    have nd' := (List.nodup_cons.mp nd)
    rw [List.map_cons]
    rcases h with h | h
    · exact List.mem_cons_of_mem _ (tops_in hp' nd'.2 h ht)
    · by_cases e : t ^^^ k = 0
      · have : t = k := Classical.byContradiction fun z => xor_ne_zero z e
        rw [this]; exact List.mem_cons_self ..
      · have hm := tops_in hp' nd'.2 h e
        have hne : (t ^^^ k).log2 ≠ k.log2 := fun z => nd'.1 (z ▸ hm)
        have et : t = t ^^^ k ^^^ k := (xor_can t k).symm
        rcases Nat.lt_or_gt_of_ne hne with l | l
        · rw [et, log2_xor hk (.inr l)]; exact List.mem_cons_self ..
        · rw [et, Nat.xor_comm, log2_xor e (.inr l)]; exact List.mem_cons_of_mem _ hm
theorem Ech.same {ks rows : List Nat} (h : Ech ks rows) {r s : Nat} (hs : Span ks s) (e : r ^^^ s = 0) : Ech ks (rows ++ [r]) := by
  have er : r = s := Classical.byContradiction fun z => xor_ne_zero z e
  have hr : Span rows r := er ▸ (h.span s).mp hs
  refine ⟨h.pos, h.tops, fun t => ?_, ?_⟩
  · rw [Span.snoc, h.span]
    refine ⟨.inl, fun z => z.elim id fun z => ?_⟩
    rw [← xor_can t r]
    exact Span.add z hr
  · rw [relc_snoc, Nat.zero_xor, relc_in hr, List.length_append, ← Nat.two_mul, Nat.mul_assoc, h.cnt]
    show _ = 2 ^ (rows.length + 1)
    rw [Nat.pow_succ, Nat.mul_comm]
theorem Ech.more {ks rows : List Nat} (h : Ech ks rows) {r s : Nat} (hs : Span ks s) (e : r ^^^ s ≠ 0) (hn : (r ^^^ s).log2 ∉ ks.map Nat.log2) : Ech (ks ++ [r ^^^ s]) (rows ++ [r]) := by
  have hr : ¬Span ks (r ^^^ s) := fun z => hn (tops_in h.pos h.tops z e)
  have hr' : ¬Span rows r := fun z => hr (Span.add ((h.span r).mpr z) hs)
  refine ⟨fun k hk => ?_, ?_, fun t => ?_, ?_⟩
  · rcases List.mem_append.mp hk with hk | hk
    · exact h.pos k hk
    · rw [List.mem_singleton.mp hk]; exact e
  · rw [List.map_append, List.nodup_append]
    refine ⟨h.tops, by simp, fun a ha b hb => ?_⟩
    rw [List.map_singleton, List.mem_singleton] at hb
    subst hb
    intro z
    exact hn (z ▸ ha)
  · rw [Span.snoc, Span.snoc, h.span, h.span]
    constructor
    · rintro (z | z)
      · exact .inl z
      · refine .inr ?_
        have := Span.add z ((h.span s).mp hs)
        rw [← Nat.xor_assoc, xor_can] at this
        exact this
    · rintro (z | z)
      · exact .inl z
      · refine .inr ?_
        have := Span.add z ((h.span s).mp hs)
        rw [Nat.xor_assoc] at this
        exact this
  · rw [relc_snoc, Nat.zero_xor, relc_not hr', Nat.add_zero, List.length_append, List.length_append]
    show _ * 2 ^ (ks.length + 1) = 2 ^ (rows.length + 1)
    rw [Nat.pow_succ, Nat.pow_succ, ← Nat.mul_assoc, h.cnt]
/-- the law's step: min(num, num ^ one) -/
theorem min_xor {x k : Nat} (hk : k ≠ 0) : (if x ^^^ k < x then x ^^^ k else x) = if x.testBit k.log2 = true then x ^^^ k else x := by
  by_cases e : x.testBit k.log2 = true
  · rw [if_pos e, if_pos]
    refine lt_tb k.log2 ?_ e fun j hj => ?_
    · rw [Nat.testBit_xor, e, top_bit hk]; rfl
    · rw [Nat.testBit_xor, bit_above hj, Bool.xor_false]
  · rw [if_neg e, if_neg]
    refine fun z => Nat.lt_asymm z (lt_tb k.log2 (Bool.eq_false_iff.mpr e) ?_ fun j hj => ?_)
    · rw [Nat.testBit_xor, Bool.eq_false_iff.mpr e, top_bit hk]; rfl
    · rw [Nat.testBit_xor, bit_above hj, Bool.xor_false]
/-! numbers of rows -/
def mk (l : List Bool) : Nat := l.foldl (fun m b => 2 * m + b.toNat) 0
theorem mk_snoc (l : List Bool) (b : Bool) : mk (l ++ [b]) = 2 * mk l + b.toNat := by unfold mk; rw [List.foldl_append]; rfl
theorem mk_bit (l : List Bool) (j : Nat) : (mk l.reverse).testBit j = l.getD j false := by
  induction l generalizing j with
  | nil => rw [show mk ([] : List Bool).reverse = 0 from rfl, Nat.zero_testBit]; rfl
  | cons b l ih =>
    rw [List.reverse_cons, mk_snoc]
    cases j with
    | zero => rw [Nat.testBit_zero]; cases b <;> simp <;> omega
    | succ j =>
      rw [Nat.testBit_succ, List.getD_cons_succ, ← ih j]
      congr 1
      cases b <;> simp <;> omega
theorem mk_lt (l : List Bool) : mk l < 2 ^ l.length := by
  have h : ∀ m : List Bool, mk m.reverse < 2 ^ m.length := fun m => by
    induction m with
    | nil => decide
    | cons b m ih =>
      rw [List.reverse_cons, mk_snoc, List.length_cons, Nat.pow_succ]
      cases b <;> simp <;> omega
  have := h l.reverse
  rwa [List.reverse_reverse, List.length_reverse] at this
/-! relations of rows and the kernel -/
variable {α : Type} [DecidableEq α]
def xs (B : List α) (m : α → Nat) (v : α → Bool) : Nat := B.foldr (fun b acc => (if v b = true then m b else 0) ^^^ acc) 0
theorem xs_cons (a : α) (B : List α) (m : α → Nat) (v : α → Bool) : xs (a :: B) m v = (if v a = true then m a else 0) ^^^ xs B m v := rfl
theorem xs_bit (B : List α) (m : α → Nat) (v : α → Bool) (j : Nat) : (xs B m v).testBit j = px B fun b => v b && (m b).testBit j := by
  induction B with
  | nil => exact Nat.zero_testBit j
  | cons a B ih =>
    rw [xs_cons, Nat.testBit_xor, ih, px_cons]
    cases v a
    · rw [if_neg (by decide), Nat.zero_testBit]; rfl
    · rw [if_pos rfl]; rfl
theorem xs_congr {B : List α} {m : α → Nat} {u v : α → Bool} (h : ∀ b ∈ B, u b = v b) : xs B m u = xs B m v := by
  induction B with
  | nil => rfl
  | cons a B ih => rw [xs_cons, xs_cons, h a (List.mem_cons_self ..), ih fun b hb => h b (List.mem_cons_of_mem _ hb)]
theorem relc_sm : ∀ {B : List α} (_ : B.Nodup) (m : α → Nat) (t : Nat), ((relc (B.map m) t : Nat) : Int) = sm B fun v => if xs B m v = t then 1 else 0
  | [], _, m, t => by
    show ((if t = 0 then 1 else 0 : Nat) : Int) = if 0 = t then 1 else 0
    by_cases e : t = 0
    · rw [if_pos e, if_pos e.symm]; rfl
    · rw [if_neg e, if_neg fun z => e z.symm]; rfl
  | a :: B, nd, m, t => by
    have na := (List.nodup_cons.mp nd).1
    have nd' := (List.nodup_cons.mp nd).2
    show ((relc (B.map m) t + relc (B.map m) (t ^^^ m a) : Nat) : Int) = _
    rw [Int.natCast_add, relc_sm nd' m t, relc_sm nd' m (t ^^^ m a), sm_cons]
    congr 1
    · refine sm_congr fun v hv => ?_
      rw [xs_cons, hv a na, if_neg Bool.false_ne_true, Nat.zero_xor]
    · refine sm_congr fun v hv => ?_
      rw [xs_cons, xs_congr (B := B) (u := up v a) (v := v) fun b hb => by
        unfold up
        rw [if_neg fun z : b = a => na (by rw [← z]; exact hb)]]
      unfold up
      rw [if_pos rfl, if_pos rfl]
      have : (xs B m v = t ^^^ m a) ↔ (m a ^^^ xs B m v = t) := by
        constructor
        · intro z; rw [z, Nat.xor_comm, xor_can]
        · intro z; rw [← z, Nat.xor_comm (m a), xor_can]
      by_cases e : xs B m v = t ^^^ m a
      · rw [if_pos e, if_pos (this.mp e)]
      · rw [if_neg e, if_neg fun z => e (this.mpr z)]
theorem kerN_relc {A : α → α → Bool} {B : List α} (nd : B.Nodup) (hs : ∀ a ∈ B, ∀ b ∈ B, A a b = A b a) {m : α → Nat}
    (h1 : ∀ j, (∃ z ∈ B, ∀ b ∈ B, (m b).testBit j = A b z) ∨ ∀ b ∈ B, (m b).testBit j = false) (h2 : ∀ z ∈ B, ∃ j, ∀ b ∈ B, (m b).testBit j = A b z) : kerN A B = ((relc (B.map m) 0 : Nat) : Int) := by
  rw [relc_sm nd]
  unfold kerN
  refine sm_congr fun v _ => ?_
  have e : ker A B v = true ↔ xs B m v = 0 := by
    unfold ker
    rw [List.all_eq_true]
    have e3 : ∀ z ∈ B, ∀ j, (∀ b ∈ B, (m b).testBit j = A b z) → (px B fun b => v b && (m b).testBit j) = px B fun b => A z b && v b := fun z hz j hj => px_congr fun b hb => by rw [hj b hb, hs b hb z hz, Bool.and_comm]
    constructor
    · intro k
      refine Nat.eq_of_testBit_eq fun j => ?_
      rw [xs_bit, Nat.zero_testBit]
      rcases h1 j with ⟨z, hz, hj⟩ | hj
      · rw [e3 z hz j hj]
        have := k z hz
        cases e4 : px B fun b => A z b && v b with
        | false => rfl
        | true => rw [e4] at this; cases this
      · rw [px_congr (g := fun _ => false) fun b hb => by rw [hj b hb, Bool.and_false]]
        exact px_false B
    · intro k z hz
      obtain ⟨j, hj⟩ := h2 z hz
      rw [← e3 z hz j hj, ← xs_bit, k, Nat.zero_testBit]; rfl
  by_cases k : ker A B v = true
  · rw [if_pos k, if_pos (e.mp k)]
  · rw [if_neg k, if_neg fun z => k (e.mpr z)]
def rowB (A : α → α → Bool) (B : List α) (b : α) : List Bool := B.map (A b)
theorem row_at {A : α → α → Bool} {B : List α} (b : α) (j : Nat) : (rowB A B b).getD j false = (B[j]?.map (A b)).getD false := by
  unfold rowB
  rw [List.getD_eq_getElem?_getD, List.getElem?_map]
/-- the program's numbers: the first item is the lowest bit -/
theorem kerN_low {A : α → α → Bool} {B : List α} (nd : B.Nodup) (hs : ∀ a ∈ B, ∀ b ∈ B, A a b = A b a) : kerN A B = ((relc (B.map fun b => mk (rowB A B b).reverse) 0 : Nat) : Int) := by
  refine kerN_relc nd hs (fun j => ?_) fun z hz => ?_
  · cases e : B[j]? with
    | none => exact .inr fun b _ => by rw [mk_bit, row_at, e]; rfl
    | some z => exact .inl ⟨z, List.mem_of_getElem? e, fun b _ => by rw [mk_bit, row_at, e]; rfl⟩
  · obtain ⟨j, hj⟩ := List.getElem?_of_mem hz
    exact ⟨j, fun b _ => by rw [mk_bit, row_at, hj]; rfl⟩
/-- the law's: the first item is the highest -/
theorem kerN_high {A : α → α → Bool} {B : List α} (nd : B.Nodup) (hs : ∀ a ∈ B, ∀ b ∈ B, A a b = A b a) : kerN A B = ((relc (B.map fun b => mk (rowB A B b)) 0 : Nat) : Int) := by
  have hb : ∀ b j, (mk (rowB A B b)).testBit j = (B.reverse[j]?.map (A b)).getD false := fun b j => by
    have := mk_bit (rowB A B b).reverse j
    rw [List.reverse_reverse] at this
    rw [this]
    unfold rowB
    rw [← List.map_reverse, List.getD_eq_getElem?_getD, List.getElem?_map]
  refine kerN_relc nd hs (fun j => ?_) fun z hz => ?_
  · cases e : B.reverse[j]? with
    | none => exact .inr fun b _ => by rw [hb, e]; rfl
    | some z => exact .inl ⟨z, List.mem_reverse.mp (List.mem_of_getElem? e), fun b _ => by rw [hb, e]; rfl⟩
  · obtain ⟨j, hj⟩ := List.getElem?_of_mem (List.mem_reverse.mpr hz)
    exact ⟨j, fun b _ => by rw [hb, hj]; rfl⟩
/-! squares that are powers of two -/
theorem sq_pow : ∀ (e : Nat) (s : Int), s * s = 2 ^ e → e % 2 = 0
  | 0, _, _ => rfl
  | 1, s, h => by
    exfalso
    have h : s * s = 2 := h
    have h2 : s.natAbs * s.natAbs = 2 := Int.ofNat.inj ((Int.natAbs_mul_self).trans h)
    have h3 : s.natAbs < 2 := Nat.not_le.mp fun z => by
      have := Nat.mul_le_mul z z
      omega
    obtain e | e : s.natAbs = 0 ∨ s.natAbs = 1 := by omega
    · rw [e] at h2; cases h2
    · rw [e] at h2; cases h2
  | e + 2, s, h => by
    have hs : s % 2 = 0 := by
      have h2 : (s * s) % 2 = 0 := by
        rw [h, Int.pow_succ]; omega
      rcases Int.emod_two_eq s with z | z
      · exact z
      · rw [Int.mul_emod, z] at h2; exact absurd h2 (by decide)
    obtain ⟨t, rfl⟩ : ∃ t, s = 2 * t := ⟨s / 2, by omega⟩
    have e4 : 2 * t * (2 * t) = 4 * (t * t) := by
      rw [Int.mul_assoc, Int.mul_left_comm t 2 t, ← Int.mul_assoc]; rfl
    rw [e4, Int.pow_succ, Int.pow_succ] at h
    have := sq_pow e t (by omega)
    omega
theorem pow_inj2 {a b : Nat} (h : 2 ^ a = 2 ^ b) : a = b := (Nat.pow_right_inj (by decide)).mp h
/-- the rank of a table of crossings: even, and told by the kernel -/
theorem rank_of {A : α → α → Bool} {B : List α} (nd : B.Nodup) (hs : ∀ a ∈ B, ∀ b ∈ B, A a b = A b a) (hd : ∀ a ∈ B, A a a = false) {R : Nat} (h : kerN A B * 2 ^ R = 2 ^ B.length) : R % 2 = 0 ∧ R ≤ B.length ∧ kerN A B = 2 ^ (B.length - R) := by
  have hk : (kerN A B).toNat * 2 ^ R = 2 ^ B.length := by
    have e0 : 0 ≤ kerN A B := by
      rw [kerN_low nd hs]; exact Int.natCast_nonneg _
    have e1 : ((kerN A B).toNat : Int) = kerN A B := Int.toNat_of_nonneg e0
    have e2 : (((kerN A B).toNat * 2 ^ R : Nat) : Int) = ((2 ^ B.length : Nat) : Int) := by
      rw [Int.natCast_mul, e1, Int.natCast_pow, Int.natCast_pow]; exact h
    exact Int.ofNat.inj e2
  have e0 : 0 ≤ kerN A B := by
    rw [kerN_low nd hs]; exact Int.natCast_nonneg _
  have hR : R ≤ B.length := by
    refine Nat.not_lt.mp fun z => ?_
    have h1 : (kerN A B).toNat ≠ 0 := fun e => by
      rw [e, Nat.zero_mul] at hk
      have := Nat.pow_pos (n := B.length) (show 0 < 2 by omega)
      omega
    have h2 := Nat.pow_lt_pow_right (a := 2) (by omega) z
    have h3 : 1 * 2 ^ R ≤ (kerN A B).toNat * 2 ^ R := Nat.mul_le_mul_right _ (by omega)
    omega
  have hK : (kerN A B).toNat = 2 ^ (B.length - R) := by
    have e : 2 ^ B.length = 2 ^ (B.length - R) * 2 ^ R := by rw [← Nat.pow_add]; congr 1; omega
    rw [e] at hk
    exact Nat.eq_of_mul_eq_mul_right (Nat.pow_pos (by omega)) hk
  have hKi : kerN A B = 2 ^ (B.length - R) := by
    rw [← Int.toNat_of_nonneg e0, hK, Int.natCast_pow]; rfl
  refine ⟨?_, hR, hKi⟩
  obtain ⟨s, hs2⟩ := ker_square nd hs hd
  rw [hKi, ← Int.pow_add] at hs2
  have := sq_pow _ s hs2
  omega
end
end Rk
namespace Rk
section
variable {α : Type} [DecidableEq α]
/-! counting functions -/
def allS : List α → List (α → Bool)
  | [] => [fun _ => false]
  | a :: l => allS l ++ (allS l).map fun v => up v a
theorem allS_on : ∀ {l : List α} {v : α → Bool}, v ∈ allS l → On l v
  | [], v, h => by rw [List.mem_singleton.mp h]; exact fun _ _ => rfl
  | a :: l, v, h => by
    rcases List.mem_append.mp h with h | h
    · exact (allS_on h).cons
    · obtain ⟨u, hu, rfl⟩ := List.mem_map.mp h
      exact (allS_on hu).up
theorem on_allS : ∀ {l : List α} (_ : l.Nodup) {v : α → Bool}, On l v → v ∈ allS l
  | [], _, v, h => by
    have : v = fun _ => false := funext fun i => h i List.not_mem_nil
    rw [this]; exact List.mem_singleton.mpr rfl
  | a :: l, nd, v, h => by
    have na := (List.nodup_cons.mp nd).1
    refine List.mem_append.mpr ?_
    cases e : v a with
    | false =>
      refine .inl (on_allS (List.nodup_cons.mp nd).2 fun i hi => ?_)
      by_cases ei : i = a
      · rw [ei]; exact e
      · exact h i fun z => (List.mem_cons.mp z).elim ei hi
    | true =>
      refine .inr (List.mem_map.mpr ⟨fun i => if i = a then false else v i, on_allS (List.nodup_cons.mp nd).2 fun i hi => ?_, ?_⟩)
      · show (if i = a then false else v i) = false
        by_cases ei : i = a
        · rw [if_pos ei]
        · rw [if_neg ei]; exact h i fun z => (List.mem_cons.mp z).elim ei hi
      · funext i
        show (if i = a then true else if i = a then false else v i) = v i
        by_cases ei : i = a
        · rw [if_pos ei, ei, e]
        · rw [if_neg ei, if_neg ei]
theorem nd_map {β γ : Type} {f : β → γ} : ∀ {L : List β}, L.Nodup → (∀ x ∈ L, ∀ y ∈ L, f x = f y → x = y) → (L.map f).Nodup
  | [], _, _ => List.nodup_nil
  | a :: L, nd, h => by
    rw [List.map_cons, List.nodup_cons]
    have nd' := List.nodup_cons.mp nd
    refine ⟨fun hm => ?_, nd_map nd'.2 fun x hx y hy => h x (List.mem_cons_of_mem _ hx) y (List.mem_cons_of_mem _ hy)⟩
    obtain ⟨b, hb, e⟩ := List.mem_map.mp hm
    exact nd'.1 (h b (List.mem_cons_of_mem _ hb) a (List.mem_cons_self ..) e ▸ hb)
theorem nd_allS : ∀ {l : List α}, l.Nodup → (allS l).Nodup
  | [], _ => by unfold allS; simp
  | a :: l, nd => by
    have na := (List.nodup_cons.mp nd).1
    have ih := nd_allS (List.nodup_cons.mp nd).2
    unfold allS
    rw [List.nodup_append]
    refine ⟨ih, nd_map ih fun u hu v hv e => ?_, fun u hu v hv => ?_⟩
    · funext i
      by_cases ei : i = a
      · rw [ei, allS_on hu a na, allS_on hv a na]
      · have := congrFun e i
        unfold up at this
        rwa [if_neg ei, if_neg ei] at this
    · obtain ⟨w, hw, rfl⟩ := List.mem_map.mp hv
      intro z
      have := congrFun z a
      rw [allS_on hu a na] at this
      unfold up at this
      rw [if_pos rfl] at this
      cases this
theorem sm_len : ∀ (l : List α) (p : (α → Bool) → Bool), sm l (fun v => if p v = true then 1 else 0) = (((allS l).filter p).length : Int)
  | [], p => by
    show (if p (fun _ => false) = true then 1 else 0) = _
    unfold allS
    cases e : p fun _ => false <;> simp [e]
  | a :: l, p => by
    rw [sm_cons, sm_len l p, sm_len l fun v => p (up v a)]
    show _ = (((allS l ++ (allS l).map fun v => up v a).filter p).length : Int)
    rw [List.filter_append, List.length_append, List.filter_map, List.length_map, Int.natCast_add]
    rfl
theorem inj_len {β γ : Type} : ∀ {L : List β} {M : List γ} (_ : L.Nodup) (f : β → γ) (_ : ∀ x ∈ L, f x ∈ M) (_ : ∀ x ∈ L, ∀ y ∈ L, f x = f y → x = y), L.length ≤ M.length
  | [], _, _, _, _, _ => Nat.zero_le _
  | a :: L, M, nd, f, h, inj => by
    obtain ⟨s, t, rfl⟩ := List.append_of_mem (h a (List.mem_cons_self ..))
    have nd' := List.nodup_cons.mp nd
    have := inj_len (M := s ++ t) nd'.2 f (fun x hx => by
      have h1 := h x (List.mem_cons_of_mem _ hx)
      have hne : f x ≠ f a := fun e => nd'.1 (inj x (List.mem_cons_of_mem _ hx) a (List.mem_cons_self ..) e ▸ hx)
      rcases List.mem_append.mp h1 with z | z
      · exact List.mem_append_left _ z
      · exact List.mem_append_right _ ((List.mem_cons.mp z).resolve_left hne)) fun x hx y hy => inj x (List.mem_cons_of_mem _ hx) y (List.mem_cons_of_mem _ hy)
    rw [List.length_append] at this ⊢
    rw [List.length_cons, List.length_cons]
    omega
theorem sub_all {β : Type} {L M : List β} (nd : L.Nodup) (h : ∀ x ∈ L, x ∈ M) (hl : M.length ≤ L.length) : ∀ y ∈ M, y ∈ L := fun y hy => by
  refine Classical.byContradiction fun hn => ?_
  have := inj_len (L := y :: L) (M := M) (List.nodup_cons.mpr ⟨hn, nd⟩) id (fun x hx => by
    rcases List.mem_cons.mp hx with e | hx
    · rw [e]; exact hy
    · exact h x hx) fun _ _ _ _ e => e
  rw [List.length_cons] at this
  omega
/-! cycles of a map of places -/
theorem sm_append (l m : List α) (f : (α → Bool) → Int) : sm (l ++ m) f = sm l fun c => sm m fun u => f fun i => c i || u i := by
  induction l generalizing f with
  | nil => show sm m f = sm m fun u => f fun i => u i; rfl
  | cons a l ih =>
    rw [List.cons_append, sm_cons, sm_cons, ih, ih]
    congr 1
    refine sm_congr fun c _ => sm_congr fun u _ => ?_
    congr 1
    funext i
    unfold up
    by_cases e : i = a
    · rw [if_pos e, if_pos e]; rfl
    · rw [if_neg e, if_neg e]
theorem sm_all (l : List α) (nd : l.Nodup) (t : Bool) : sm l (fun v => if l.all (fun i => v i == t) = true then 1 else 0) = 1 := by
  induction l with
  | nil => rfl
  | cons a l ih =>
    have na := (List.nodup_cons.mp nd).1
    have ih := ih (List.nodup_cons.mp nd).2
    have e : ∀ v : α → Bool, l.all (fun i => up v a i == t) = l.all fun i => v i == t := fun v => by
      rw [Bool.eq_iff_iff, List.all_eq_true, List.all_eq_true]
      have : ∀ i ∈ l, up v a i = v i := fun i hi => by unfold up; rw [if_neg fun z : i = a => na (by rw [← z]; exact hi)]
      constructor
      · intro h i hi; rw [← this i hi]; exact h i hi
      · intro h i hi; rw [this i hi]; exact h i hi
    have e2 : ∀ v : α → Bool, up v a a = true := fun v => if_pos rfl
    rw [sm_cons]
    cases t with
    | false =>
      rw [sm_congr (l := l) (f := fun v => if (a :: l).all (fun i => up v a i == false) = true then 1 else 0) (g := fun _ => 0) fun v _ => by
        rw [List.all_cons, e2]; rfl, sm_zero, Int.add_zero]
      refine Eq.trans ?_ ih
      refine sm_congr fun v hv => ?_
      rw [List.all_cons, hv a na]; rfl
    | true =>
      rw [sm_congr (l := l) (f := fun v => if (a :: l).all (fun i => v i == true) = true then 1 else 0) (g := fun _ => 0) fun v hv => by
        rw [List.all_cons, hv a na]; rfl, sm_zero, Int.zero_add]
      refine Eq.trans ?_ ih
      refine sm_congr fun v hv => ?_
      rw [List.all_cons, e2, e]; rfl
variable (nx : Nat → Nat)
def gN (U : List Nat) : Int := sm U fun g => if U.all (fun p => g p == g (nx p)) = true then 1 else 0
/-- a union of k cycles -/
structure Cyc (N : Nat) (U : List Nat) (k : Nat) : Prop where
  nd : U.Nodup
  lt : ∀ p ∈ U, p < N
  cl : ∀ p ∈ U, nx p ∈ U
  cnt : gN nx U = 2 ^ k
/-- a way from s to q along nx, off U -/
structure Pth (N : Nat) (U C : List Nat) (s q : Nat) : Prop where
  nd : (C ++ U).Nodup
  lt : ∀ p ∈ C, p < N
  chain : ∀ i p, C[i]? = some p → (C ++ [q])[i + 1]? = some (nx p)
  start : (C ++ [q])[0]? = some s
  qlt : q < N
variable {nx}
theorem Cyc.nil (N : Nat) : Cyc nx N [] 0 := ⟨List.nodup_nil, fun p h => (by cases h), fun p h => (by cases h), rfl⟩
theorem Pth.nil {N : Nat} {U : List Nat} {s : Nat} (h : U.Nodup) (hs : s < N) : Pth nx N U [] s s := ⟨h, fun p h => (by cases h), fun i p h => (by cases h), rfl, hs⟩
theorem Pth.snoc {N : Nat} {U C : List Nat} {s q : Nat} (h : Pth nx N U C s q) (h1 : q ∉ U) (h2 : q ∉ C) (hl : nx q < N) : Pth nx N U (C ++ [q]) s (nx q) := by
  refine ⟨?_, fun p hp => ?_, fun i p hi => ?_, ?_, hl⟩
  · rw [List.append_assoc]
    have hp : (C ++ ([q] ++ U)).Perm (q :: (C ++ U)) := List.perm_middle
    exact hp.nodup_iff.mpr (List.nodup_cons.mpr ⟨fun z => (List.mem_append.mp z).elim h2 h1, h.nd⟩)
  · rcases List.mem_append.mp hp with hp | hp
    · exact h.lt p hp
    · rw [List.mem_singleton.mp hp]; exact h.qlt
  · rcases Nat.lt_trichotomy i C.length with e | e | e
    · rw [List.getElem?_append_left e] at hi
      have := h.chain i p hi
      rw [List.getElem?_append_left (by rw [List.length_append]; show i + 1 < C.length + 1; omega)]
      exact this
    · rw [e, List.getElem?_append_right (Nat.le_refl _), Nat.sub_self] at hi
      have : q = p := Option.some.inj hi
      subst this
      rw [List.getElem?_append_right (by rw [List.length_append]; show C.length + 1 ≤ i + 1; omega), List.length_append]
      show [nx q][i + 1 - (C.length + 1)]? = _
      rw [e, Nat.sub_self]; rfl
    · rw [List.getElem?_append_right (by omega)] at hi
      have : i - C.length ≠ 0 := by omega
      obtain ⟨j, hj⟩ : ∃ j, i - C.length = j + 1 := ⟨i - C.length - 1, by omega⟩
      rw [hj] at hi; cases hi
  · have := h.start
    rw [List.getElem?_append_left (by rw [List.length_append]; show 0 < C.length + 1; omega)]
    exact this
theorem Pth.all_eq {N : Nat} {U C : List Nat} {s q : Nat} (h : Pth nx N U C s q) {c : Nat → Bool} (hc : ∀ p ∈ C, c p = c (nx p)) : ∀ p ∈ C, c p = c s := by
  have e : ∀ (i p : Nat), C[i]? = some p → c p = c s := by
    intro i
    induction i with
    | zero =>
      intro p hp
      have h1 := h.start
      rw [List.getElem?_append_left (List.getElem?_eq_some_iff.mp hp).1, hp] at h1
      rw [Option.some.inj h1]
    | succ i ih =>
      intro p hp
      have hlt := (List.getElem?_eq_some_iff.mp hp).1
      have hp0 : C[i]? = some C[i] := List.getElem?_eq_getElem (by omega)
      have h2 := h.chain i _ hp0
      rw [List.getElem?_append_left hlt, hp] at h2
      rw [Option.some.inj h2, ← hc _ (List.mem_of_getElem? hp0)]
      exact ih _ hp0
  intro p hp
  obtain ⟨i, hi⟩ := List.getElem?_of_mem hp
  exact e i p hi
/-- a closed way is a cycle more -/
theorem Pth.close {N : Nat} {U C : List Nat} {s q k : Nat} (h : Pth nx N U C s q) (hU : Cyc nx N U k) (inj : ∀ a b, a < N → b < N → nx a = nx b → a = b) (hC : C ≠ []) (hq : q ∈ C ++ U) : Cyc nx N (C ++ U) (k + 1) := by
  have hdis : ∀ p ∈ C, p ∉ U := fun p hp hu => (List.nodup_append.mp h.nd).2.2 p hp p hu rfl
  -- nothing outside U leads into U
  have hback : ∀ p, p < N → nx p ∈ U → p ∈ U := fun p hp hu => by
    have hs := sub_all (L := U.map nx) (M := U) (nd_map hU.nd fun x hx y hy e => inj x y (hU.lt x hx) (hU.lt y hy) e) (fun x hx => by
      obtain ⟨y, hy, rfl⟩ := List.mem_map.mp hx
      exact hU.cl y hy) (by rw [List.length_map]; exact Nat.le_refl _) _ hu
    obtain ⟨y, hy, e⟩ := List.mem_map.mp hs
    exact inj y p (hU.lt y hy) hp e ▸ hy
  have hnx : ∀ p ∈ C, nx p ∈ C := fun p hp => by
    obtain ⟨i, hi⟩ := List.getElem?_of_mem hp
    have h1 := h.chain i p hi
    have h2 := List.mem_of_getElem? h1
    have h3 : nx p ∈ C ++ U := by
      rcases List.mem_append.mp h2 with z | z
      · exact List.mem_append_left _ z
      · rw [List.mem_singleton.mp z]; exact hq
    rcases List.mem_append.mp h3 with z | z
    · exact z
    · exact (hdis p hp (hback p (h.lt p hp) z)).elim
  refine ⟨h.nd, fun p hp => (List.mem_append.mp hp).elim (h.lt p) (hU.lt p), fun p hp => ?_, ?_⟩
  · rcases List.mem_append.mp hp with z | z
    · exact List.mem_append_left _ (hnx p z)
    · exact List.mem_append_right _ (hU.cl p z)
  · have ndC := (List.nodup_append.mp h.nd).1
    obtain ⟨a, ha⟩ : ∃ a, a ∈ C := List.exists_mem_of_ne_nil _ hC
    unfold gN
    rw [sm_append]
    have e1 : ∀ c, On C c → sm U (fun u => if (C ++ U).all (fun p => (c p || u p) == (c (nx p) || u (nx p))) = true then 1 else 0) = ((if C.all (fun i => c i == true) = true then 1 else 0) + (if C.all (fun i => c i == false) = true then 1 else 0)) * gN nx U := fun c hc => by
      unfold gN
      rw [← sm_mul]
      refine sm_congr fun u hu => ?_
      have e2 : U.all (fun p => (c p || u p) == (c (nx p) || u (nx p))) = U.all fun p => u p == u (nx p) := by
        rw [Bool.eq_iff_iff, List.all_eq_true, List.all_eq_true]
        have : ∀ p ∈ U, ((c p || u p) == (c (nx p) || u (nx p))) = (u p == u (nx p)) := fun p hp => by
          rw [hc p fun z => hdis p z hp, hc (nx p) fun z => hdis _ z (hU.cl p hp)]; rfl
        constructor
        · intro z p hp; rw [← this p hp]; exact z p hp
        · intro z p hp; rw [this p hp]; exact z p hp
      have e3 : C.all (fun p => (c p || u p) == (c (nx p) || u (nx p))) = C.all fun p => c p == c (nx p) := by
        rw [Bool.eq_iff_iff, List.all_eq_true, List.all_eq_true]
        have : ∀ p ∈ C, ((c p || u p) == (c (nx p) || u (nx p))) = (c p == c (nx p)) := fun p hp => by
          rw [hu p (hdis p hp), hu (nx p) (hdis _ (hnx p hp)), Bool.or_false, Bool.or_false]
        constructor
        · intro z p hp; rw [← this p hp]; exact z p hp
        · intro z p hp; rw [this p hp]; exact z p hp
      rw [List.all_append, e2, e3]
      have e4 : (C.all fun p => c p == c (nx p)) = true ↔ (C.all (fun i => c i == true) = true ∨ C.all (fun i => c i == false) = true) := by
        constructor
        · intro z
          have := h.all_eq (c := c) fun p hp => eq_of_beq (List.all_eq_true.mp z p hp)
          cases e : c s with
          | true => exact .inl (List.all_eq_true.mpr fun p hp => by rw [this p hp, e]; rfl)
          | false => exact .inr (List.all_eq_true.mpr fun p hp => by rw [this p hp, e]; rfl)
        · rintro (z | z)
          · refine List.all_eq_true.mpr fun p hp => ?_
            rw [eq_of_beq (List.all_eq_true.mp z p hp), eq_of_beq (List.all_eq_true.mp z _ (hnx p hp))]; rfl
          · refine List.all_eq_true.mpr fun p hp => ?_
            rw [eq_of_beq (List.all_eq_true.mp z p hp), eq_of_beq (List.all_eq_true.mp z _ (hnx p hp))]; rfl
      by_cases t1 : C.all (fun i => c i == true) = true
      · have t2 : ¬C.all (fun i => c i == false) = true := fun z => by
          have y1 := eq_of_beq (List.all_eq_true.mp t1 a ha)
          have y2 := eq_of_beq (List.all_eq_true.mp z a ha)
          rw [y1] at y2; cases y2
        rw [e4.mpr (.inl t1), if_pos t1, if_neg t2, Bool.true_and]
        show _ = 1 * _
        rw [Int.one_mul]
      · by_cases t2 : C.all (fun i => c i == false) = true
        · rw [e4.mpr (.inr t2), if_neg t1, if_pos t2, Bool.true_and]
          show _ = 1 * _
          rw [Int.one_mul]
        · have : (C.all fun p => c p == c (nx p)) = false := Bool.eq_false_iff.mpr fun z => (e4.mp z).elim t1 t2
          rw [this, if_neg t1, if_neg t2, Bool.false_and, if_neg Bool.false_ne_true]
          show _ = 0 * _
          rw [Int.zero_mul]
    rw [sm_congr e1]
    have e5 : sm C (fun c => ((if C.all (fun i => c i == true) = true then 1 else 0) + (if C.all (fun i => c i == false) = true then 1 else 0)) * gN nx U) = gN nx U * (sm C (fun c => if C.all (fun i => c i == true) = true then 1 else 0) + sm C (fun c => if C.all (fun i => c i == false) = true then 1 else 0)) := by
      rw [← sm_add, ← sm_mul]
      exact sm_congr fun c _ => Int.mul_comm ..
    rw [e5, sm_all C ndC, sm_all C ndC, hU.cnt, Int.pow_succ]
    omega
theorem all_perm {β : Type} {U V : List β} (h : ∀ x, x ∈ U ↔ x ∈ V) (f : β → Bool) : U.all f = V.all f := by
  rw [Bool.eq_iff_iff, List.all_eq_true, List.all_eq_true]
  exact ⟨fun z x hx => z x ((h x).mpr hx), fun z x hx => z x ((h x).mp hx)⟩
theorem Cyc.full {N : Nat} {U : List Nat} {k : Nat} (h : Cyc nx N U k) (ha : ∀ p, p < N → p ∈ U) : gN nx (List.range N) = 2 ^ k := by
  rw [← h.cnt]
  have hm : ∀ x, x ∈ List.range N ↔ x ∈ U := fun x => ⟨fun z => ha x (List.mem_range.mp z), fun z => List.mem_range.mpr (h.lt x z)⟩
  have hp : (List.range N).Perm U := (List.perm_ext_iff_of_nodup List.nodup_range h.nd).mpr hm
  unfold gN
  rw [sm_perm hp]
  refine sm_congr fun g _ => ?_
  rw [all_perm hm]
end
end Rk
namespace Rk
section
variable {α : Type} [DecidableEq α]
/-! words: each letter stands twice; crossings by counting pairs -/
def cp (w : List α) (z : α) : Bool := px w fun y => decide (y = z)
def nn : List α → α → α → Bool
  | [], _, _ => false
  | a :: w, b, z => xor (decide (a = b) && cp w z) (nn w b z)
/-- do the bands b and z cross -/
def cr (w : List α) (b z : α) : Bool := !decide (b = z) && nn w b z
theorem cp_cons (a : α) (w : List α) (z : α) : cp (a :: w) z = xor (decide (a = z)) (cp w z) := rfl
theorem cp_append (u w : List α) (z : α) : cp (u ++ w) z = xor (cp u z) (cp w z) := px_append u w _
theorem cp_not {w : List α} {z : α} (h : z ∉ w) : cp w z = false := by
  unfold cp
  rw [px_congr (g := fun _ => false) fun y hy => decide_eq_false fun e : y = z => h (e ▸ hy)]
  exact px_false w
theorem cp_count (w : List α) (z : α) : cp w z = decide (w.count z % 2 = 1) := by
  induction w with
  | nil => rfl
  | cons a w ih =>
    rw [cp_cons, ih]
    by_cases e : a = z
    · subst e
      rw [decide_eq_true rfl, List.count_cons_self]
      by_cases h : w.count a % 2 = 1
      · rw [decide_eq_true h, decide_eq_false (by omega)]; rfl
      · rw [decide_eq_false h, decide_eq_true (by omega)]; rfl
    · rw [decide_eq_false e, List.count_cons_of_ne e, Bool.false_xor]
theorem nn_append (u w : List α) (b z : α) : nn (u ++ w) b z = xor (xor (nn u b z) (nn w b z)) (cp u b && cp w z) := by
  induction u with
  | nil => show nn w b z = xor (xor false (nn w b z)) (false && cp w z); cases nn w b z <;> rfl
  | cons a u ih =>
    show xor (decide (a = b) && cp (u ++ w) z) (nn (u ++ w) b z) = xor (xor (xor (decide (a = b) && cp u z) (nn u b z)) (nn w b z)) (cp (a :: u) b && cp w z)
    rw [ih, cp_append, cp_cons]
    cases decide (a = b) <;> cases cp u z <;> cases cp w z <;> cases nn u b z <;> cases nn w b z <;> cases cp u b <;> rfl
theorem nn_not {w : List α} {b z : α} (h : b ∉ w) : nn w b z = false := by
  induction w with
  | nil => rfl
  | cons a w ih =>
    show xor (decide (a = b) && cp w z) (nn w b z) = false
    rw [decide_eq_false fun e : a = b => h (e ▸ List.mem_cons_self ..), ih fun k => h (List.mem_cons_of_mem _ k)]; rfl
theorem nn_not2 {w : List α} {b z : α} (h : z ∉ w) : nn w b z = false := by
  induction w with
  | nil => rfl
  | cons a w ih =>
    show xor (decide (a = b) && cp w z) (nn w b z) = false
    rw [cp_not fun k => h (List.mem_cons_of_mem _ k), ih fun k => h (List.mem_cons_of_mem _ k), Bool.and_false]; rfl
theorem nn_sym (w : List α) {b z : α} (h : b ≠ z) : xor (nn w b z) (nn w z b) = (cp w b && cp w z) := by
  induction w with
  | nil => rfl
  | cons a w ih =>
    show xor (xor (decide (a = b) && cp w z) (nn w b z)) (xor (decide (a = z) && cp w b) (nn w z b)) = (cp (a :: w) b && cp (a :: w) z)
    rw [cp_cons, cp_cons]
    by_cases e1 : a = b
    · by_cases e2 : a = z
      · exact (h (e1.symm.trans e2)).elim
      · rw [decide_eq_true e1, decide_eq_false e2]
        revert ih
        cases nn w b z <;> cases nn w z b <;> cases cp w b <;> cases cp w z <;> decide
    · rw [decide_eq_false e1]
      revert ih
      cases decide (a = z) <;> cases nn w b z <;> cases nn w z b <;> cases cp w b <;> cases cp w z <;> decide
/-- each letter of w stands twice, B lists the letters -/
structure Wd (w B : List α) : Prop where
  nd : B.Nodup
  mem : ∀ a, a ∈ w ↔ a ∈ B
  two : ∀ a ∈ w, w.count a = 2
theorem Wd.ev {w B : List α} (h : Wd w B) (a : α) : cp w a = false := by
  rw [cp_count]
  by_cases e : a ∈ w
  · rw [h.two a e]; rfl
  · rw [List.count_eq_zero_of_not_mem e]; rfl
theorem Wd.sym {w B : List α} (h : Wd w B) (a b : α) : cr w a b = cr w b a := by
  unfold cr
  by_cases e : a = b
  · rw [e]
  · have h1 := nn_sym w e
    rw [h.ev a, Bool.false_and] at h1
    rw [decide_eq_false e, decide_eq_false fun z => e z.symm]
    revert h1
    cases nn w a b <;> cases nn w b a <;> decide
theorem Wd.diag {w B : List α} (_ : Wd w B) (a : α) : cr w a a = false := by
  unfold cr; rw [decide_eq_true rfl]; rfl
/-- w cut at the two places of b -/
theorem cut_two {w : List α} {b : α} (h : w.count b = 2) : ∃ X Y Z, w = X ++ b :: (Y ++ b :: Z) ∧ b ∉ X ∧ b ∉ Y ∧ b ∉ Z := by
  have one : ∀ {w : List α}, b ∈ w → ∃ X R, w = X ++ b :: R ∧ b ∉ X := fun {w} hb => by
    induction w with
    | nil => cases hb
    | cons a w ih =>
      by_cases e : a = b
      · exact ⟨[], w, by rw [e]; rfl, List.not_mem_nil⟩
      · obtain ⟨X, R, e1, e2⟩ := ih ((List.mem_cons.mp hb).resolve_left fun z => e z.symm)
        exact ⟨a :: X, R, by rw [e1]; rfl, fun z => (List.mem_cons.mp z).elim (fun y => e y.symm) e2⟩
  have hb : b ∈ w := List.count_pos_iff.mp (by omega)
  obtain ⟨X, R, e1, hX⟩ := one hb
  subst e1
  rw [List.count_append, List.count_eq_zero_of_not_mem hX, List.count_cons_self] at h
  obtain ⟨Y, Z, e2, hY⟩ := one (List.count_pos_iff.mp (show 0 < R.count b by omega))
  subst e2
  rw [List.count_append, List.count_eq_zero_of_not_mem hY, List.count_cons_self] at h
  exact ⟨X, Y, Z, rfl, hX, hY, fun z => by have := List.count_pos_iff.mpr z; omega⟩
theorem cr_between {X Y Z : List α} {b : α} (hX : b ∉ X) (hY : b ∉ Y) (hZ : b ∉ Z) (z : α) : cr (X ++ b :: (Y ++ b :: Z)) b z = cp Y z := by
  unfold cr
  by_cases e : b = z
  · rw [← e, decide_eq_true rfl, cp_not hY]; rfl
  · rw [decide_eq_false e, nn_append, nn_not hX, cp_not hX]
    show (true && xor (xor false (xor (decide (b = b) && cp (Y ++ b :: Z) z) (nn (Y ++ b :: Z) b z))) (false && _)) = _
    rw [decide_eq_true rfl, nn_append, nn_not hY, cp_not hY, cp_append, cp_cons, decide_eq_false e]
    show (true && xor (xor false (xor (true && xor (cp Y z) (xor false (cp Z z))) (xor (xor false (xor (decide (b = b) && cp Z z) (nn Z b z))) (false && _)))) (false && _)) = _
    rw [decide_eq_true rfl, nn_not hZ]
    simp only [Bool.false_and, Bool.true_and, Bool.false_xor, Bool.xor_false]
    cases cp Y z <;> cases cp Z z <;> rfl
/-- a sum along a list by its letters -/
theorem px_by {B Y : List α} (nd : B.Nodup) (h : ∀ a ∈ Y, a ∈ B) (v : α → Bool) : px Y v = px B fun z => cp Y z && v z := by
  induction Y with
  | nil =>
    exact ((px_congr (l := B) (f := fun z => cp [] z && v z) (g := fun _ => false) fun z _ => rfl).trans (px_false B)).symm
  | cons a Y ih =>
    rw [px_cons, ih fun b hb => h b (List.mem_cons_of_mem _ hb), ← px_delta nd (h a (List.mem_cons_self ..)) v, ← px_xor]
    refine px_congr fun z _ => ?_
    rw [cp_cons, show decide (a = z) = decide (z = a) from decide_eq_decide.mpr eq_comm]
    cases decide (z = a) <;> cases cp Y z <;> cases v z <;> rfl
theorem Wd.tot {w B : List α} (h : Wd w B) (v : α → Bool) : px w v = false := by
  rw [px_by h.nd (fun a ha => (h.mem a).mp ha) v, px_congr (g := fun _ => false) fun z _ => by rw [h.ev z]; rfl]
  exact px_false B
/-! places and gaps -/
def sv (w : List α) (v : α → Bool) (p : Nat) : Bool := px (w.take p) v
def prv (N p : Nat) : Nat := if p = 0 then N - 1 else p - 1
/-- m tells each place's partner -/
structure Mate (w : List α) (m : Nat → Nat) : Prop where
  lt : ∀ p, p < w.length → m p < w.length
  at_ : ∀ X b Y Z, w = X ++ b :: (Y ++ b :: Z) → b ∉ X → b ∉ Y → b ∉ Z → m X.length = X.length + 1 + Y.length ∧ m (X.length + 1 + Y.length) = X.length
theorem place_cut {w B : List α} (h : Wd w B) {p : Nat} {b : α} (hp : w[p]? = some b) : ∃ X Y Z, w = X ++ b :: (Y ++ b :: Z) ∧ b ∉ X ∧ b ∉ Y ∧ b ∉ Z ∧ (p = X.length ∨ p = X.length + 1 + Y.length) := by
  obtain ⟨X, Y, Z, e, hX, hY, hZ⟩ := cut_two (h.two b (List.mem_of_getElem? hp))
  refine ⟨X, Y, Z, e, hX, hY, hZ, ?_⟩
  rw [e] at hp
  rcases Nat.lt_trichotomy p X.length with l | l | l
  · rw [List.getElem?_append_left l] at hp
    exact (hX (List.mem_of_getElem? hp)).elim
  · exact .inl l
  · rw [List.getElem?_append_right (by omega)] at hp
    obtain ⟨q, hq⟩ : ∃ q, p - X.length = q + 1 := ⟨p - X.length - 1, by omega⟩
    rw [hq, List.getElem?_cons_succ] at hp
    rcases Nat.lt_trichotomy q Y.length with k | k | k
    · rw [List.getElem?_append_left k] at hp
      exact (hY (List.mem_of_getElem? hp)).elim
    · exact .inr (by omega)
    · rw [List.getElem?_append_right (by omega)] at hp
      obtain ⟨r, hr⟩ : ∃ r, q - Y.length = r + 1 := ⟨q - Y.length - 1, by omega⟩
      rw [hr, List.getElem?_cons_succ] at hp
      exact (hZ (List.mem_of_getElem? hp)).elim
theorem sv_cut {X Y Z : List α} {b : α} (v : α → Bool) : sv (X ++ b :: (Y ++ b :: Z)) v X.length = px X v ∧ sv (X ++ b :: (Y ++ b :: Z)) v (X.length + 1) = xor (px X v) (v b) ∧
    sv (X ++ b :: (Y ++ b :: Z)) v (X.length + 1 + Y.length) = xor (xor (px X v) (v b)) (px Y v) ∧ sv (X ++ b :: (Y ++ b :: Z)) v (X.length + 1 + Y.length + 1) = xor (xor (xor (px X v) (v b)) (px Y v)) (v b) := by
  unfold sv
  have e1 : (X ++ b :: (Y ++ b :: Z)).take (X.length + 1) = X ++ [b] := by
    rw [List.take_append, List.take_of_length_le (by omega), show X.length + 1 - X.length = 1 by omega]; rfl
  have e2 : (X ++ b :: (Y ++ b :: Z)).take (X.length + 1 + Y.length) = X ++ b :: Y := by
    rw [List.take_append, List.take_of_length_le (by omega), show X.length + 1 + Y.length - X.length = Y.length + 1 by omega, List.take_succ_cons, List.take_left]
  have e3 : (X ++ b :: (Y ++ b :: Z)).take (X.length + 1 + Y.length + 1) = X ++ b :: (Y ++ [b]) := by
    rw [List.take_append, List.take_of_length_le (by omega), show X.length + 1 + Y.length + 1 - X.length = Y.length + 1 + 1 by omega, List.take_succ_cons, List.take_append, List.take_of_length_le (by omega), show Y.length + 1 - Y.length = 1 by omega]; rfl
  rw [e1, e2, e3, List.take_left]
  refine ⟨rfl, ?_, ?_, ?_⟩
  · rw [px_append, px_cons, px_nil, Bool.xor_false]
  · rw [px_append, px_cons]; cases px X v <;> cases v b <;> cases px Y v <;> rfl
  · rw [px_append, px_cons, px_append, px_cons, px_nil]; cases px X v <;> cases v b <;> cases px Y v <;> rfl
/-- the gaps' function of a choice of bands -/
def gap (w : List α) (c : Bool) (v : α → Bool) : Nat → Bool := fun p => if p < w.length then xor c (sv w v (p + 1)) else false
theorem Wd.gap_prv {w B : List α} (h : Wd w B) (c : Bool) (v : α → Bool) {q : Nat} (hq : q < w.length) : gap w c v (prv w.length q) = xor c (sv w v q) := by
  unfold gap prv
  by_cases e : q = 0
  · rw [if_pos e, if_pos (by omega), show w.length - 1 + 1 = w.length by omega, e]
    congr 1
    show px (w.take w.length) v = px (w.take 0) v
    rw [List.take_length, h.tot]; rfl
  · rw [if_neg e, if_pos (by omega), show q - 1 + 1 = q by omega]
/-- it stays along the rims just if the choice meets no band oddly -/
theorem Wd.gap_inv {w B : List α} (h : Wd w B) {m : Nat → Nat} (hm : Mate w m) (c : Bool) (v : α → Bool) : (∀ p, p < w.length → gap w c v p = gap w c v (prv w.length (m p))) ↔ ker (cr w) B v = true := by
  have e0 : ∀ {X Y Z b}, w = X ++ b :: (Y ++ b :: Z) → b ∉ X → b ∉ Y → b ∉ Z → px B (fun z => cr w b z && v z) = px Y v := fun {X Y Z b} e hX hY hZ => by
    rw [px_by h.nd (fun a ha => (h.mem a).mp (by rw [e]; simp [ha])) v]
    refine px_congr fun z _ => ?_
    rw [e, cr_between hX hY hZ]
  have gp : ∀ {p}, p < w.length → gap w c v p = xor c (sv w v (p + 1)) := fun hp => if_pos hp
  unfold ker
  rw [List.all_eq_true]
  constructor
  · intro k b hb
    obtain ⟨X, Y, Z, e, hX, hY, hZ⟩ := cut_two (h.two b ((h.mem b).mpr hb))
    obtain ⟨s1, s2, s3, s4⟩ := sv_cut (X := X) (Y := Y) (Z := Z) (b := b) v
    rw [← e] at s1 s2 s3 s4
    have hl : w.length = X.length + (Y.length + (Z.length + 1) + 1) := by rw [e]; simp
    have h1 := k X.length (by omega)
    rw [(hm.at_ X b Y Z e hX hY hZ).1, h.gap_prv c v (by omega), gp (by omega), s2, s3] at h1
    rw [e0 e hX hY hZ]
    revert h1
    cases c <;> cases px X v <;> cases v b <;> cases px Y v <;> decide
  · intro k p hp
    obtain ⟨X, Y, Z, e, hX, hY, hZ, hpp⟩ := place_cut h (List.getElem?_eq_getElem hp)
    generalize w[p] = b at e hX hY hZ
    obtain ⟨s1, s2, s3, s4⟩ := sv_cut (X := X) (Y := Y) (Z := Z) (b := b) v
    rw [← e] at s1 s2 s3 s4
    have hl : w.length = X.length + (Y.length + (Z.length + 1) + 1) := by rw [e]; simp
    have hb : b ∈ B := (h.mem b).mp (by rw [e]; simp)
    have h1 := k b hb
    rw [e0 e hX hY hZ] at h1
    obtain ⟨m1, m2⟩ := hm.at_ X b Y Z e hX hY hZ
    rcases hpp with hpp | hpp
    · rw [hpp, m1, h.gap_prv c v (by omega), gp (by omega), s2, s3]
      revert h1
      cases c <;> cases px X v <;> cases v b <;> cases px Y v <;> decide
    · rw [hpp, m2, h.gap_prv c v (by omega), gp (by omega), s4, s1]
      revert h1
      cases c <;> cases px X v <;> cases v b <;> cases px Y v <;> decide
theorem Mate.inv {w B : List α} (h : Wd w B) {m : Nat → Nat} (hm : Mate w m) {p : Nat} (hp : p < w.length) : m (m p) = p := by
  obtain ⟨X, Y, Z, e, hX, hY, hZ, hpp⟩ := place_cut h (List.getElem?_eq_getElem hp)
  obtain ⟨m1, m2⟩ := hm.at_ X _ Y Z e hX hY hZ
  rcases hpp with z | z
  · rw [z, m1, m2]
  · rw [z, m2, m1]
theorem prv_lt {N q : Nat} (h : q < N) : prv N q < N := by unfold prv; split <;> omega
theorem prv_inj {N a b : Nat} (ha : a < N) (hb : b < N) (e : prv N a = prv N b) : a = b := by
  unfold prv at e
  split at e <;> split at e <;> omega
theorem Mate.inj {w B : List α} (h : Wd w B) {m : Nat → Nat} (hm : Mate w m) (a b : Nat) (ha : a < w.length) (hb : b < w.length) (e : prv w.length (m a) = prv w.length (m b)) : a = b := by
  have := prv_inj (hm.lt a ha) (hm.lt b hb) e
  rw [← hm.inv h ha, this, hm.inv h hb]
theorem sv_succ {w : List α} {p : Nat} {b : α} (hp : w[p]? = some b) (v : α → Bool) : sv w v (p + 1) = xor (sv w v p) (v b) := by
  unfold sv
  rw [List.take_add_one, hp, px_append]
  show xor _ (px [b] v) = _
  rw [px_cons, px_nil, Bool.xor_false]
theorem sv_eq {w : List α} {u v : α → Bool} (h : ∀ p, p < w.length → sv w u (p + 1) = sv w v (p + 1)) : ∀ a ∈ w, u a = v a := fun a ha => by
  obtain ⟨p, hp⟩ := List.getElem?_of_mem ha
  have hl := (List.getElem?_eq_some_iff.mp hp).1
  have h1 := h p hl
  rw [sv_succ hp, sv_succ hp] at h1
  have h2 : sv w u p = sv w v p := by
    cases p with
    | zero => rfl
    | succ p => exact h p (by omega)
  rw [h2] at h1
  revert h1
  cases sv w v p <;> cases u a <;> cases v a <;> decide
/-- rims and the kernel: one function of gaps for each choice in the kernel, and its opposite -/
theorem Wd.gaps {w B : List α} (h : Wd w B) {m : Nat → Nat} (hm : Mate w m) (hN : 0 < w.length) : gN (fun p => prv w.length (m p)) (List.range w.length) = 2 * kerN (cr w) B := by
  unfold gN kerN
  rw [sm_len (List.range w.length) fun g => (List.range w.length).all fun p => g p == g (prv w.length (m p)), sm_len B fun v => ker (cr w) B v]
  have hG : ∀ g : Nat → Bool, ((List.range w.length).all fun p => g p == g (prv w.length (m p))) = true ↔ ∀ p, p < w.length → g p = g (prv w.length (m p)) := fun g => by
    rw [List.all_eq_true]
    exact ⟨fun k p hp => eq_of_beq (k p (List.mem_range.mpr hp)), fun k p hp => beq_iff_eq.mpr (k p (List.mem_range.mp hp))⟩
  let G := (allS (List.range w.length)).filter fun g => (List.range w.length).all fun p => g p == g (prv w.length (m p))
  let K := (allS B).filter fun v => ker (cr w) B v
  let L2 : List (Bool × (α → Bool)) := K.map (fun v => (false, v)) ++ K.map fun v => (true, v)
  have hK : ∀ v, v ∈ K ↔ On B v ∧ ker (cr w) B v = true := fun v => by
    show v ∈ (allS B).filter _ ↔ _
    rw [List.mem_filter]
    exact ⟨fun z => ⟨allS_on z.1, z.2⟩, fun z => ⟨on_allS h.nd z.1, z.2⟩⟩
  have hGm : ∀ g, g ∈ G ↔ On (List.range w.length) g ∧ ∀ p, p < w.length → g p = g (prv w.length (m p)) := fun g => by
    show g ∈ (allS _).filter _ ↔ _
    rw [List.mem_filter, hG]
    exact ⟨fun z => ⟨allS_on z.1, z.2⟩, fun z => ⟨on_allS List.nodup_range z.1, z.2⟩⟩
  have hL : ∀ c v, (c, v) ∈ L2 ↔ v ∈ K := fun c v => by
    show (c, v) ∈ K.map _ ++ K.map _ ↔ _
    rw [List.mem_append, List.mem_map, List.mem_map]
    constructor
    · rintro (⟨u, hu, e⟩ | ⟨u, hu, e⟩)
      · exact (Prod.mk.inj e).2 ▸ hu
      · exact (Prod.mk.inj e).2 ▸ hu
    · intro hv
      cases c
      · exact .inl ⟨v, hv, rfl⟩
      · exact .inr ⟨v, hv, rfl⟩
  have ndK : K.Nodup := (nd_allS h.nd).filter _
  have ndG : G.Nodup := (nd_allS List.nodup_range).filter _
  have ndL : L2.Nodup := by
    show (K.map _ ++ K.map _).Nodup
    rw [List.nodup_append]
    refine ⟨nd_map ndK fun x _ y _ e => (Prod.mk.inj e).2, nd_map ndK fun x _ y _ e => (Prod.mk.inj e).2, fun a ha b hb e => ?_⟩
    obtain ⟨x, _, rfl⟩ := List.mem_map.mp ha
    obtain ⟨y, _, rfl⟩ := List.mem_map.mp hb
    cases (Prod.mk.inj e).1
  have lenL : L2.length = 2 * K.length := by
    show (K.map _ ++ K.map _).length = _
    rw [List.length_append, List.length_map, List.length_map]; omega
  -- from choices to gaps
  have le1 : L2.length ≤ G.length := inj_len ndL (fun x => gap w x.1 x.2) (fun x hx => by
    have hv := (hK x.2).mp ((hL x.1 x.2).mp hx)
    refine (hGm _).mpr ⟨fun p hp => ?_, (h.gap_inv hm x.1 x.2).mpr hv.2⟩
    unfold gap
    exact if_neg fun z => hp (List.mem_range.mpr z)) fun x hx y hy e => by
    have hv := (hK x.2).mp ((hL x.1 x.2).mp hx)
    have hu := (hK y.2).mp ((hL y.1 y.2).mp hy)
    have e1 : ∀ p, p < w.length → xor x.1 (sv w x.2 (p + 1)) = xor y.1 (sv w y.2 (p + 1)) := fun p hp => by
      have := congrFun e p
      unfold gap at this
      rwa [if_pos hp, if_pos hp] at this
    have e2 : x.1 = y.1 := by
      have := e1 (w.length - 1) (by omega)
      rw [show w.length - 1 + 1 = w.length by omega] at this
      have t : ∀ v, sv w v w.length = false := fun v => by
        unfold sv; rw [List.take_length]; exact h.tot v
      rwa [t, t, Bool.xor_false, Bool.xor_false] at this
    have e3 := sv_eq (w := w) (u := x.2) (v := y.2) fun p hp => by
      have := e1 p hp
      rw [e2] at this
      revert this
      cases y.1 <;> cases sv w x.2 (p + 1) <;> cases sv w y.2 (p + 1) <;> decide
    refine Prod.ext e2 (funext fun a => ?_)
    by_cases ha : a ∈ w
    · exact e3 a ha
    · rw [hv.1 a fun z => ha ((h.mem a).mpr z), hu.1 a fun z => ha ((h.mem a).mpr z)]
  -- from gaps to choices
  let dl : (Nat → Bool) → α → Bool := fun g a => if a ∈ w then xor (g (w.findIdx fun y => decide (y = a))) (g (prv w.length (w.findIdx fun y => decide (y = a)))) else false
  have hdl : ∀ g, g ∈ G → ∀ p b, w[p]? = some b → dl g b = xor (g p) (g (prv w.length p)) := fun g hg p b hp => by
    have hg2 := (hGm g).mp hg
    have hbw := List.mem_of_getElem? hp
    obtain ⟨X, Y, Z, e, hX, hY, hZ, hpp⟩ := place_cut h hp
    have hi : (w.findIdx fun y => decide (y = b)) = X.length := by
      rw [e, List.findIdx_append]
      have : ¬(X.findIdx fun y => decide (y = b)) < X.length := fun z => by
        have := List.findIdx_getElem (w := z)
        exact hX (by rw [← of_decide_eq_true this]; exact List.getElem_mem z)
      rw [if_neg this]
      simp [List.findIdx_cons]
    show (if b ∈ w then _ else _) = _
    rw [if_pos hbw, hi]
    obtain ⟨m1, m2⟩ := hm.at_ X b Y Z e hX hY hZ
    have hl : w.length = X.length + (Y.length + (Z.length + 1) + 1) := by rw [e]; simp
    rcases hpp with z | z
    · rw [z]
    · have y1 := hg2.2 X.length (by omega)
      have y2 := hg2.2 p (by omega)
      rw [m1] at y1
      rw [z, m2] at y2
      rw [z, y1, y2, Bool.xor_comm]
  have hgap : ∀ g, g ∈ G → gap w (g (w.length - 1)) (dl g) = g := fun g hg => by
    have hg2 := (hGm g).mp hg
    have e1 : ∀ p, p < w.length → xor (g (w.length - 1)) (sv w (dl g) (p + 1)) = g p := by
      intro p
      induction p with
      | zero =>
        intro hp
        have hb := List.getElem?_eq_getElem hp
        rw [sv_succ hb, hdl g hg 0 _ hb]
        show xor _ (xor (px (w.take 0) _) _) = _
        unfold prv
        rw [if_pos rfl, List.take_zero, px_nil]
        cases g (w.length - 1) <;> cases g 0 <;> rfl
      | succ p ih =>
        intro hp
        have hb := List.getElem?_eq_getElem hp
        rw [sv_succ hb, hdl g hg (p + 1) _ hb, ← Bool.xor_assoc, ih (by omega)]
        unfold prv
        rw [if_neg (by omega), show p + 1 - 1 = p by omega]
        cases g p <;> cases g (p + 1) <;> rfl
    funext p
    unfold gap
    by_cases hp : p < w.length
    · rw [if_pos hp, e1 p hp]
    · rw [if_neg hp, hg2.1 p fun z => hp (List.mem_range.mp z)]
  have le2 : G.length ≤ L2.length := inj_len ndG (fun g => (g (w.length - 1), dl g)) (fun g hg => by
    refine (hL _ _).mpr ((hK _).mpr ⟨fun a ha => if_neg fun z => ha ((h.mem a).mp z), ?_⟩)
    refine (h.gap_inv hm (g (w.length - 1)) (dl g)).mp ?_
    rw [hgap g hg]
    exact ((hGm g).mp hg).2) fun x hx y hy e => by
    rw [← hgap x hx, ← hgap y hy]
    have e' := Prod.mk.inj e
    rw [e'.1, e'.2]
  have : G.length = 2 * K.length := by omega
  show ((G.length : Nat) : Int) = 2 * ((K.length : Nat) : Int)
  omega
/-- the law of rims and ranks -/
theorem rims_rank {w B : List α} (h : Wd w B) {m : Nat → Nat} (hm : Mate w m) (hN : 0 < w.length) {U : List Nat} {k R : Nat} (hU : Cyc (fun p => prv w.length (m p)) w.length U k) (ha : ∀ p, p < w.length → p ∈ U)
    (hR : kerN (cr w) B * 2 ^ R = 2 ^ B.length) : R % 2 = 0 ∧ R + k = B.length + 1 := by
  obtain ⟨h1, h2, h3⟩ := rank_of h.nd (fun a _ b _ => h.sym a b) (fun a _ => h.diag a) hR
  have h4 := hU.full ha
  rw [h.gaps hm hN, h3, Int.mul_comm, ← Int.pow_succ] at h4
  have h5 : (2 : Nat) ^ (B.length - R + 1) = 2 ^ k := by
    have e : (((2 : Nat) ^ (B.length - R + 1) : Nat) : Int) = ((2 ^ k : Nat) : Int) := by
      rw [Int.natCast_pow, Int.natCast_pow]; exact h4
    exact Int.ofNat.inj e
  have := pow_inj2 h5
  exact ⟨h1, by omega⟩
end
end Rk
namespace Rk
section
variable {α : Type} [DecidableEq α]
theorem ker_congr {A A' : α → α → Bool} {B : List α} (h : ∀ b ∈ B, ∀ z ∈ B, A b z = A' b z) (v : α → Bool) : ker A B v = ker A' B v := by
  unfold ker
  rw [Bool.eq_iff_iff, List.all_eq_true, List.all_eq_true]
  have e : ∀ b ∈ B, px B (fun z => A b z && v z) = px B fun z => A' b z && v z := fun b hb => px_congr fun z hz => by rw [h b hb z hz]
  exact ⟨fun k b hb => by rw [← e b hb]; exact k b hb, fun k b hb => by rw [e b hb]; exact k b hb⟩
theorem kerN_congr {A A' : α → α → Bool} {B : List α} (h : ∀ b ∈ B, ∀ z ∈ B, A b z = A' b z) : kerN A B = kerN A' B := by
  unfold kerN
  exact sm_congr fun v _ => by rw [ker_congr h]
theorem kerN_perm {A : α → α → Bool} {B B' : List α} (h : B.Perm B') : kerN A B = kerN A B' := by
  unfold kerN
  rw [sm_perm h]
  refine sm_congr fun v _ => ?_
  have : ker A B v = ker A B' v := by
    unfold ker
    rw [all_perm (fun x => h.mem_iff) fun b => !px B fun z => A b z && v z]
    rw [Bool.eq_iff_iff, List.all_eq_true, List.all_eq_true]
    exact ⟨fun k b hb => by rw [← px_perm h]; exact k b hb, fun k b hb => by rw [px_perm h]; exact k b hb⟩
  rw [this]
/-- y gets x besides -/
def shr (x y : α) (v : α → Bool) : α → Bool := fun i => if i = y then xor (v y) (v x) else v i
theorem sm_shr {B : List α} (nd : B.Nodup) {x y : α} (hx : x ∈ B) (hy : y ∈ B) (hn : x ≠ y) (f : (α → Bool) → Int) : sm B f = sm B fun v => f (shr x y v) := by
  obtain ⟨l1, l2, e1⟩ := List.append_of_mem hx
  have p1 : B.Perm (x :: (l1 ++ l2)) := by rw [e1]; exact List.perm_middle
  have hy2 : y ∈ l1 ++ l2 := (List.mem_cons.mp (p1.mem_iff.mp hy)).resolve_left fun z => hn z.symm
  obtain ⟨m1, m2, e2⟩ := List.append_of_mem hy2
  have p2 : B.Perm (x :: y :: (m1 ++ m2)) := by
    refine p1.trans (List.Perm.cons x ?_)
    rw [e2]; exact List.perm_middle
  have nd2 := p2.nodup_iff.mp nd
  rw [sm_perm p2 f, sm_perm p2 fun v => f (shr x y v)]
  generalize m1 ++ m2 = l at nd2
  have nx : x ∉ l := fun z => (List.nodup_cons.mp nd2).1 (List.mem_cons_of_mem _ z)
  have ny : y ∉ l := (List.nodup_cons.mp (List.nodup_cons.mp nd2).2).1
  have hc : ∀ (g h : (α → Bool) → Int), (∀ v, On l v → g v = h v) → sm l g = sm l h := fun g h => sm_congr
  rw [sm_cons, sm_cons, sm_cons, sm_cons, sm_cons, sm_cons]
  have t1 : sm l (fun v => f (shr x y v)) = sm l f := hc _ _ fun v hv => by
    congr 1; funext i; unfold shr
    by_cases e : i = y
    · rw [if_pos e, e, hv y ny, hv x nx]; rfl
    · rw [if_neg e]
  have t2 : sm l (fun v => f (shr x y (up v y))) = sm l fun v => f (up v y) := hc _ _ fun v hv => by
    congr 1; funext i; unfold shr up
    by_cases e : i = y
    · rw [if_pos e, if_pos e, if_pos rfl, if_neg hn, hv x nx]; rfl
    · rw [if_neg e]
  have t3 : sm l (fun v => f (shr x y (up v x))) = sm l fun v => f (up (up v y) x) := hc _ _ fun v hv => by
    congr 1; funext i; unfold shr up
    by_cases e : i = y
    · rw [if_pos e, if_pos rfl, if_neg (fun z => hn z.symm), hv y ny, if_neg (fun z : i = x => hn (z.symm.trans e)), if_pos e]; rfl
    · rw [if_neg e]
      by_cases e2 : i = x
      · rw [if_pos e2, if_pos e2]
      · rw [if_neg e2, if_neg e2, if_neg e]
  have t4 : sm l (fun v => f (shr x y (up (up v y) x))) = sm l fun v => f (up v x) := hc _ _ fun v hv => by
    congr 1; funext i; unfold shr up
    by_cases e : i = y
    · rw [if_pos e, if_pos rfl, if_pos rfl, if_neg (fun z => hn z.symm), if_neg (fun z : i = x => hn (z.symm.trans e)), e, hv y ny]; rfl
    · rw [if_neg e]
      by_cases e2 : i = x
      · rw [if_pos e2, if_pos e2]
      · rw [if_neg e2, if_neg e2, if_neg e]
  rw [t1, t2]
  show _ = _ + (sm l (fun v => f (shr x y (up v x))) + sm l fun v => f (shr x y (up (up v y) x)))
  rw [t3, t4]
  omega
/-- the band x led over y -/
theorem kerN_slide {A A' : α → α → Bool} {B : List α} (nd : B.Nodup) {x y : α} (hx : x ∈ B) (hy : y ∈ B) (hn : x ≠ y) (hd : A y y = false)
    (h : ∀ b ∈ B, ∀ z ∈ B, A' b z = xor (A b z) (xor (decide (b = x) && A y z) (decide (z = x) && A b y))) : kerN A' B = kerN A B := by
  unfold kerN
  rw [sm_shr nd hx hy hn fun v => if ker A B v = true then 1 else 0]
  refine sm_congr fun v _ => ?_
  have e1 : ∀ b, px B (fun z => A b z && shr x y v z) = xor (px B fun z => A b z && v z) (A b y && v x) := fun b => by
    rw [show (A b y && v x) = px B fun z => decide (z = y) && (A b z && v x) from (px_delta nd hy fun z => A b z && v x).symm, ← px_xor]
    refine px_congr fun z _ => ?_
    unfold shr
    by_cases e : z = y
    · rw [if_pos e, decide_eq_true e, e]; cases A b y <;> cases v y <;> cases v x <;> rfl
    · rw [if_neg e, decide_eq_false e]; cases A b z <;> cases v z <;> rfl
  have e2 : ∀ b ∈ B, px B (fun z => A' b z && v z) = xor (px B fun z => A b z && shr x y v z) (decide (b = x) && px B fun z => A y z && shr x y v z) := fun b hb => by
    rw [e1, e1, hd, show (A b y && v x) = px B fun z => decide (z = x) && (A b y && v z) from (px_delta nd hx fun z => A b y && v z).symm, Bool.false_and, Bool.xor_false, ← px_and, ← px_xor, ← px_xor]
    refine px_congr fun z hz => ?_
    rw [h b hb z hz]
    cases A b z <;> cases decide (b = x) <;> cases A y z <;> cases decide (z = x) <;> cases A b y <;> cases v z <;> rfl
  have e3 : ker A' B v = true ↔ ker A B (shr x y v) = true := by
    unfold ker
    rw [List.all_eq_true, List.all_eq_true]
    constructor
    · intro k b hb
      have ky := k y hy
      rw [e2 y hy, decide_eq_false fun z : y = x => hn z.symm, Bool.false_and, Bool.xor_false] at ky
      have kb := k b hb
      rw [e2 b hb] at kb
      revert ky kb
      cases px B (fun z => A b z && shr x y v z) <;> cases px B (fun z => A y z && shr x y v z) <;> cases decide (b = x) <;> decide
    · intro k b hb
      have ky := k y hy
      have kb := k b hb
      rw [e2 b hb]
      revert ky kb
      cases px B (fun z => A b z && shr x y v z) <;> cases px B (fun z => A y z && shr x y v z) <;> cases decide (b = x) <;> decide
  by_cases k : ker A' B v = true
  · rw [if_pos k, if_pos (e3.mp k)]
  · rw [if_neg k, if_neg fun z => k (e3.mpr z)]
theorem nn_skip (P R : List α) {x b z : α} (hb : x ≠ b) (hz : x ≠ z) : nn (P ++ x :: R) b z = nn (P ++ R) b z := by
  rw [nn_append, nn_append]
  show xor (xor (nn P b z) (xor (decide (x = b) && cp R z) (nn R b z))) (cp P b && cp (x :: R) z) = _
  rw [cp_cons, decide_eq_false hb, decide_eq_false hz, Bool.false_and, Bool.false_xor, Bool.false_xor]
theorem nn_move (P M R : List α) {x z : α} (hz : x ≠ z) : nn (P ++ x :: (M ++ R)) x z = xor (nn (P ++ (M ++ x :: R)) x z) (cp M z) := by
  have a1 : nn (P ++ x :: (M ++ R)) x z = xor (xor (nn P x z) (xor (cp (M ++ R) z) (nn (M ++ R) x z))) (cp P x && cp (M ++ R) z) := by
    rw [nn_append]
    show xor (xor (nn P x z) (xor (decide (x = x) && cp (M ++ R) z) (nn (M ++ R) x z))) (cp P x && cp (x :: (M ++ R)) z) = _
    rw [cp_cons, decide_eq_true rfl, decide_eq_false hz, Bool.true_and, Bool.false_xor]
  have a2 : nn (P ++ (M ++ x :: R)) x z = xor (xor (nn P x z) (xor (xor (nn M x z) (xor (cp R z) (nn R x z))) (cp M x && cp R z))) (cp P x && xor (cp M z) (cp R z)) := by
    rw [nn_append, nn_append, cp_append]
    show xor (xor (nn P x z) (xor (xor (nn M x z) (xor (decide (x = x) && cp R z) (nn R x z))) (cp M x && cp (x :: R) z))) (cp P x && xor (cp M z) (cp (x :: R) z)) = _
    rw [cp_cons, decide_eq_true rfl, decide_eq_false hz, Bool.true_and, Bool.false_xor]
  rw [a1, a2, nn_append, cp_append]
  cases nn P x z <;> cases nn M x z <;> cases nn R x z <;> cases cp M z <;> cases cp R z <;> cases cp M x <;> cases cp P x <;> rfl
/-- x moved across M, on which stands what y meets -/
theorem cr_move {w w' B : List α} (h : Wd w B) (h' : Wd w' B) {x y : α} (hn : x ≠ y) {P M R : List α}
    (e : (w = P ++ x :: (M ++ R) ∧ w' = P ++ (M ++ x :: R)) ∨ (w' = P ++ x :: (M ++ R) ∧ w = P ++ (M ++ x :: R)))
    (hM : ∀ z, z ≠ x → cp M z = cr w y z) (b z : α) : cr w' b z = xor (cr w b z) (xor (decide (b = x) && cr w y z) (decide (z = x) && cr w b y)) := by
  have sk : ∀ b z, x ≠ b → x ≠ z → nn w' b z = nn w b z := fun b z h1 h2 => by
    rcases e with ⟨e1, e2⟩ | ⟨e1, e2⟩
    · rw [e1, e2, nn_skip P _ h1 h2, ← List.append_assoc P M (x :: R), nn_skip (P ++ M) R h1 h2, List.append_assoc]
    · rw [e1, e2, nn_skip P _ h1 h2, ← List.append_assoc P M (x :: R), nn_skip (P ++ M) R h1 h2, List.append_assoc]
  have mv : ∀ z, z ≠ x → nn w' x z = xor (nn w x z) (cr w y z) := fun z hz => by
    rw [← hM z hz]
    rcases e with ⟨e1, e2⟩ | ⟨e1, e2⟩
    · rw [e1, e2, nn_move P M R (Ne.symm hz)]
      cases nn (P ++ (M ++ x :: R)) x z <;> cases cp M z <;> rfl
    · rw [e1, e2, nn_move P M R (Ne.symm hz)]
  have mvx : ∀ z, z ≠ x → cr w' x z = xor (cr w x z) (cr w y z) := fun z hz => by
    show (!decide (x = z) && nn w' x z) = xor (!decide (x = z) && nn w x z) _
    rw [decide_eq_false (Ne.symm hz), mv z hz]; rfl
  by_cases eb : b = x
  · rw [decide_eq_true eb, eb]
    by_cases ez : z = x
    · rw [decide_eq_true ez, ez, h'.diag, h.diag, h.sym y x]
      cases cr w x y <;> rfl
    · rw [decide_eq_false ez, mvx z ez]
      cases cr w x z <;> cases cr w y z <;> rfl
  · rw [decide_eq_false eb]
    by_cases ez : z = x
    · rw [decide_eq_true ez, ez, h'.sym b x, mvx b eb, h.sym x b, h.sym y b]
      cases cr w b x <;> cases cr w b y <;> rfl
    · rw [decide_eq_false ez]
      show (!decide (b = z) && nn w' b z) = _
      rw [sk b z (Ne.symm eb) (Ne.symm ez)]
      show cr w b z = _
      cases cr w b z <;> rfl
theorem cr_turn {r B : List α} {n : α} (h : Wd (n :: r) B) (h' : Wd (r ++ [n]) B) (b z : α) : cr (r ++ [n]) b z = cr (n :: r) b z := by
  by_cases e : b = z
  · rw [e, h.diag, h'.diag]
  · show (!decide (b = z) && nn (r ++ [n]) b z) = (!decide (b = z) && nn (n :: r) b z)
    congr 1
    have ev : ∀ a, a ≠ n → cp r a = false := fun a ha => by
      have := h.ev a
      rwa [cp_cons, decide_eq_false (Ne.symm ha), Bool.false_xor] at this
    rw [nn_append]
    show xor (xor (nn r b z) (xor (decide (n = b) && false) false)) (cp r b && xor (decide (n = z)) false) = xor (decide (n = b) && cp r z) (nn r b z)
    by_cases e1 : n = b
    · have e2 : n ≠ z := fun k => e (e1.symm.trans k)
      rw [decide_eq_true e1, decide_eq_false e2, ev z (Ne.symm e2)]
      cases nn r b z <;> cases cp r b <;> rfl
    · rw [decide_eq_false e1, ev b (Ne.symm e1)]
      cases nn r b z <;> cases decide (n = z) <;> cases cp r z <;> rfl
end
end Rk
namespace Rk
section
variable {α : Type} [DecidableEq α]
/-! ### quadratic forms on lots -/
theorem qf_perm {A : α → α → Bool} {l m : List α} (h : l.Perm m) (hs : ∀ a ∈ l, ∀ b ∈ l, A a b = A b a) (v : α → Bool) : qf A l v = qf A m v := by
  induction h with
  | nil => rfl
  | cons a p ih =>
    show xor (v a && px _ fun z => v z && A a z) _ = xor (v a && px _ fun z => v z && A a z) _
    rw [ih fun b hb c hc => hs b (List.mem_cons_of_mem _ hb) c (List.mem_cons_of_mem _ hc), px_perm p]
  | swap a b l =>
    show xor (v b && px (a :: l) fun z => v z && A b z) (xor (v a && px l fun z => v z && A a z) (qf A l v)) = xor (v a && px (b :: l) fun z => v z && A a z) (xor (v b && px l fun z => v z && A b z) (qf A l v))
    rw [px_cons, px_cons, hs b (List.mem_cons_self ..) a (List.mem_cons_of_mem _ (List.mem_cons_self ..))]
    cases v a <;> cases v b <;> cases A a b <;> cases px l (fun z => v z && A a z) <;> cases px l (fun z => v z && A b z) <;> cases qf A l v <;> rfl
  | trans p1 p2 i1 i2 =>
    rw [i1 hs, i2 fun b hb c hc => hs b (p1.mem_iff.mpr hb) c (p1.mem_iff.mpr hc)]
theorem qf_congr {A A' : α → α → Bool} {l : List α} {v v' : α → Bool} (h : ∀ b ∈ l, ∀ z ∈ l, A b z = A' b z) (hv : ∀ b ∈ l, v b = v' b) : qf A l v = qf A' l v' := by
  induction l with
  | nil => rfl
  | cons a l ih =>
    show xor (v a && px l fun z => v z && A a z) _ = xor (v' a && px l fun z => v' z && A' a z) _
    rw [ih (fun b hb z hz => h b (List.mem_cons_of_mem _ hb) z (List.mem_cons_of_mem _ hz)) (fun b hb => hv b (List.mem_cons_of_mem _ hb)), hv a (List.mem_cons_self ..),
      px_congr (l := l) (f := fun z => v z && A a z) (g := fun z => v' z && A' a z) fun z hz => by rw [h a (List.mem_cons_self ..) z (List.mem_cons_of_mem _ hz), hv z (List.mem_cons_of_mem _ hz)]]
theorem qf_xorA (A D : α → α → Bool) (l : List α) (v : α → Bool) : qf (fun b z => xor (A b z) (D b z)) l v = xor (qf A l v) (qf D l v) := by
  induction l with
  | nil => rfl
  | cons a l ih =>
    show xor (v a && px l fun z => v z && xor (A a z) (D a z)) _ = xor (xor (v a && px l fun z => v z && A a z) _) (xor (v a && px l fun z => v z && D a z) _)
    rw [ih]
    have e : px l (fun z => v z && xor (A a z) (D a z)) = xor (px l fun z => v z && A a z) (px l fun z => v z && D a z) := by
      rw [← px_xor]
      refine px_congr fun z _ => ?_
      cases v z <;> cases A a z <;> cases D a z <;> rfl
    rw [e]
    cases v a <;> cases px l (fun z => v z && A a z) <;> cases px l (fun z => v z && D a z) <;> cases qf A l v <;> cases qf D l v <;> rfl
theorem px_not {l : List α} {x : α} (h : x ∉ l) (f : α → Bool) : px l (fun b => decide (b = x) && f b) = false := by
  rw [px_congr (g := fun _ => false) fun b hb => by rw [decide_eq_false fun e : b = x => h (e ▸ hb)]; rfl]
  exact px_false l
/-- the part of a form that one letter gives -/
theorem qf_one {l : List α} (nd : l.Nodup) (x : α) (g : α → Bool) (v : α → Bool) : qf (fun b z => xor (decide (b = x) && g z) (decide (z = x) && g b)) l v = (decide (x ∈ l) && (v x && px l fun z => !decide (z = x) && (v z && g z))) := by
  induction l with
  | nil => rfl
  | cons a l ih =>
    have na := (List.nodup_cons.mp nd).1
    have nd' := (List.nodup_cons.mp nd).2
    show xor (v a && px l fun z => v z && xor (decide (a = x) && g z) (decide (z = x) && g a)) _ = _
    rw [ih nd', px_cons]
    by_cases e : a = x
    · subst e
      have e1 : px l (fun z => v z && xor (decide (a = a) && g z) (decide (z = a) && g a)) = px l fun z => !decide (z = a) && (v z && g z) := px_congr fun z hz => by
        rw [decide_eq_true rfl, decide_eq_false fun k : z = a => na (k ▸ hz)]
        cases v z <;> cases g z <;> rfl
      rw [e1, decide_eq_false na, decide_eq_true (List.mem_cons_self ..), decide_eq_true rfl]
      cases v a <;> cases px l (fun z => !decide (z = a) && (v z && g z)) <;> rfl
    · have e1 : px l (fun z => v z && xor (decide (a = x) && g z) (decide (z = x) && g a)) = (decide (x ∈ l) && (v x && g a)) := by
        rw [px_congr (g := fun z => decide (z = x) && (v z && g a)) fun z _ => by
          rw [decide_eq_false e]
          cases v z <;> cases decide (z = x) <;> cases g a <;> cases g z <;> rfl]
        by_cases hx : x ∈ l
        · rw [px_delta nd' hx fun z => v z && g a, decide_eq_true hx]; rfl
        · rw [px_not hx fun z => v z && g a, decide_eq_false hx]; rfl
      have hm : decide (x ∈ a :: l) = decide (x ∈ l) := decide_eq_decide.mpr (by
        rw [List.mem_cons]
        exact ⟨fun h => h.resolve_left fun z => e z.symm, .inr⟩)
      rw [e1, decide_eq_false e, hm]
      cases decide (x ∈ l) <;> cases v a <;> cases v x <;> cases g a <;> cases px l (fun z => !decide (z = x) && (v z && g z)) <;> rfl
def qq (A : α → α → Bool) (l : List α) (c v : α → Bool) : Bool := xor (qf A l v) (px l fun b => v b && c b)
theorem qq_perm {A : α → α → Bool} {l m : List α} (h : l.Perm m) (hs : ∀ a ∈ l, ∀ b ∈ l, A a b = A b a) (c v : α → Bool) : qq A l c v = qq A m c v := by
  unfold qq
  rw [qf_perm h hs, px_perm h]
/-- the lot behind a slide and the lot led back -/
theorem qq_slide {A A' : α → α → Bool} {B : List α} (nd : B.Nodup) {x y : α} (hx : x ∈ B) (hy : y ∈ B) (hn : x ≠ y) (hs : ∀ a ∈ B, ∀ b ∈ B, A a b = A b a) (hd : ∀ a ∈ B, A a a = false)
    (h : ∀ b ∈ B, ∀ z ∈ B, A' b z = xor (A b z) (xor (decide (b = x) && A y z) (decide (z = x) && A b y))) {c c' : α → Bool} (hc : ∀ b ∈ B, c' b = xor (c b) (decide (b = x) && xor (c y) (A x y))) (v : α → Bool) : qq A' B c' v = qq A B c (shr x y v) := by
  have e1 : qf A' B v = xor (qf A B v) (v x && px B fun z => !decide (z = x) && (v z && A y z)) := by
    rw [qf_congr (A' := fun b z => xor (A b z) (xor (decide (b = x) && A y z) (decide (z = x) && A y b))) (v' := v) (fun b hb z hz => by rw [h b hb z hz, hs b hb y hy]) fun _ _ => rfl]
    rw [qf_xorA A fun b z => xor (decide (b = x) && A y z) (decide (z = x) && A y b), qf_one nd x (A y) v, decide_eq_true hx]; rfl
  have e2 : px B (fun b => v b && c' b) = xor (px B fun b => v b && c b) (v x && xor (c y) (A x y)) := by
    rw [show (v x && xor (c y) (A x y)) = px B fun b => decide (b = x) && (v b && xor (c y) (A x y)) from (px_delta nd hx fun b => v b && xor (c y) (A x y)).symm, ← px_xor]
    refine px_congr fun b hb => ?_
    rw [hc b hb]
    cases v b <;> cases c b <;> cases decide (b = x) <;> cases xor (c y) (A x y) <;> rfl
  unfold qq
  rw [e1, e2]
  cases hv : v x with
  | false =>
    have : ∀ b, shr x y v b = v b := fun b => by
      unfold shr
      by_cases e : b = y
      · rw [if_pos e, e, hv, Bool.xor_false]
      · rw [if_neg e]
    rw [qf_congr (A := A) (A' := A) (v := shr x y v) (v' := v) (fun _ _ _ _ => rfl) fun b _ => this b, px_congr (f := fun b => shr x y v b && c b) (g := fun b => v b && c b) fun b _ => by rw [this b]]
    simp
  | true =>
    have hT : shr x y v = ad v fun i => decide (i = y) := funext fun i => by
      show (if i = y then xor (v y) (v x) else v i) = xor (v i) (decide (i = y))
      by_cases e : i = y
      · rw [if_pos e, e, hv, decide_eq_true rfl]
      · rw [if_neg e, decide_eq_false e, Bool.xor_false]
    have f1 : qf A B (fun i => decide (i = y)) = false := by
      have key : ∀ l : List α, (∀ a ∈ l, A a a = false) → qf A l (fun i => decide (i = y)) = false := fun l => by
        induction l with
        | nil => intro _; rfl
        | cons a l ih =>
          intro hd
          show xor (decide (a = y) && px l fun z => decide (z = y) && A a z) _ = false
          rw [ih fun b hb => hd b (List.mem_cons_of_mem _ hb), Bool.xor_false]
          by_cases e : a = y
          · rw [px_congr (g := fun _ => false) fun z hz => by
              by_cases e2 : z = y
              · rw [e2, ← e, hd a (List.mem_cons_self ..), Bool.and_false]
              · rw [decide_eq_false e2]; rfl, px_false, Bool.and_false]
          · rw [decide_eq_false e]; rfl
      exact key B hd
    have f2 : bl A B v (fun i => decide (i = y)) = px B fun b => v b && A b y := by
      unfold bl
      refine px_congr fun b _ => ?_
      rw [px_congr (g := fun z => decide (z = y) && A b z) fun z _ => Bool.and_comm .., px_delta nd hy fun z => A b z]
    have f3 : px B (fun b => ad v (fun i => decide (i = y)) b && c b) = xor (px B fun b => v b && c b) (c y) := by
      rw [show c y = px B fun b => decide (b = y) && c b from (px_delta nd hy c).symm, ← px_xor]
      refine px_congr fun b _ => ?_
      show (xor (v b) (decide (b = y)) && c b) = _
      cases v b <;> cases decide (b = y) <;> cases c b <;> rfl
    have f4 : px B (fun b => v b && A b y) = xor (px B fun z => !decide (z = x) && (v z && A y z)) (A x y) := by
      rw [show A x y = px B fun b => decide (b = x) && (v b && A b y) from ((px_delta nd hx fun b => v b && A b y).trans (by rw [hv]; rfl)).symm, ← px_xor]
      refine px_congr fun b hb => ?_
      rw [hs b hb y hy]
      cases v b <;> cases A y b <;> cases decide (b = x) <;> rfl
    rw [hT, qf_add hs hd, f1, f2, f3, f4]
    cases qf A B v <;> cases px B (fun z => !decide (z = x) && (v z && A y z)) <;> cases A x y <;> cases px B (fun b => v b && c b) <;> cases c y <;> rfl
theorem gs_slide {A A' : α → α → Bool} {B : List α} (nd : B.Nodup) {x y : α} (hx : x ∈ B) (hy : y ∈ B) (hn : x ≠ y) (hs : ∀ a ∈ B, ∀ b ∈ B, A a b = A b a) (hd : ∀ a ∈ B, A a a = false)
    (h : ∀ b ∈ B, ∀ z ∈ B, A' b z = xor (A b z) (xor (decide (b = x) && A y z) (decide (z = x) && A b y))) {c c' : α → Bool} (hc : ∀ b ∈ B, c' b = xor (c b) (decide (b = x) && xor (c y) (A x y))) : gs A' B c' = gs A B c := by
  show sm B (fun v => sg (qq A' B c' v)) = sm B fun v => sg (qq A B c v)
  rw [sm_shr nd hx hy hn fun v => sg (qq A B c v)]
  exact sm_congr fun v _ => by rw [qq_slide nd hx hy hn hs hd h hc]
theorem gs_perm {A : α → α → Bool} {l m : List α} (h : l.Perm m) (hs : ∀ a ∈ l, ∀ b ∈ l, A a b = A b a) (c : α → Bool) : gs A l c = gs A m c := by
  show sm l (fun v => sg (qq A l c v)) = sm m fun v => sg (qq A m c v)
  rw [sm_perm h]
  exact sm_congr fun v _ => by rw [qq_perm h hs]
theorem qq_congr {A A' : α → α → Bool} {l : List α} {c c' v v' : α → Bool} (h : ∀ b ∈ l, ∀ z ∈ l, A b z = A' b z) (hc : ∀ b ∈ l, c b = c' b) (hv : ∀ b ∈ l, v b = v' b) : qq A l c v = qq A' l c' v' := by
  unfold qq
  rw [qf_congr h hv, px_congr (f := fun b => v b && c b) (g := fun b => v' b && c' b) fun b hb => by rw [hc b hb, hv b hb]]
theorem gs_congr {A A' : α → α → Bool} {l : List α} {c c' : α → Bool} (h : ∀ b ∈ l, ∀ z ∈ l, A b z = A' b z) (hc : ∀ b ∈ l, c b = c' b) : gs A l c = gs A' l c' := by
  show sm l (fun v => sg (qq A l c v)) = sm l fun v => sg (qq A' l c' v)
  exact sm_congr fun v _ => by rw [qq_congr h hc fun _ _ => rfl]
end
end Rk
namespace Rk
section
variable {α : Type} [DecidableEq α]
/-! ### pairing off -/
theorem qf_prod (g h : α → Bool) (l : List α) (v : α → Bool) : qf (fun j k => xor (g j && h k) (h j && g k)) l v = xor ((px l fun z => v z && g z) && px l fun z => v z && h z) (px l fun z => v z && (g z && h z)) := by
  induction l with
  | nil => rfl
  | cons a l ih =>
    show xor (v a && px l fun z => v z && xor (g a && h z) (h a && g z)) _ = _
    rw [ih, px_cons, px_cons, px_cons]
    have e : px l (fun z => v z && xor (g a && h z) (h a && g z)) = xor (g a && px l fun z => v z && h z) (h a && px l fun z => v z && g z) := by
      rw [← px_and, ← px_and, ← px_xor]
      refine px_congr fun z _ => ?_
      cases v z <;> cases g a <;> cases h a <;> cases g z <;> cases h z <;> rfl
    rw [e]
    cases v a <;> cases g a <;> cases h a <;> cases px l (fun z => v z && h z) <;> cases px l (fun z => v z && g z) <;> cases px l (fun z => v z && (g z && h z)) <;> rfl
theorem qf_up {A : α → α → Bool} {l : List α} {a : α} (ha : a ∉ l) (v : α → Bool) : qf A l (up v a) = qf A l v :=
  qf_congr (fun _ _ _ _ => rfl) fun b hb => by unfold up; rw [if_neg fun z : b = a => ha (z ▸ hb)]
theorem px_up {l : List α} {a : α} (ha : a ∉ l) (v f : α → Bool) : px l (fun z => up v a z && f z) = px l fun z => v z && f z :=
  px_congr fun b hb => by unfold up; rw [if_neg fun z : b = a => ha (z ▸ hb)]
/-- a letter that meets none -/
theorem gs_rad {A : α → α → Bool} {l : List α} {a : α} (ha : a ∉ l) (h : ∀ z ∈ l, A a z = false) (c : α → Bool) : gs A (a :: l) c = (1 + sg (c a)) * gs A l c := by
  show sm (a :: l) (fun v => sg (qq A (a :: l) c v)) = _ * sm l fun v => sg (qq A l c v)
  have e0 : ∀ v : α → Bool, px l (fun z => v z && A a z) = false := fun v => by
    rw [px_congr (g := fun _ => false) fun z hz => by rw [h z hz, Bool.and_false]]
    exact px_false l
  have e1 : ∀ v, qq A (a :: l) c v = xor (v a && c a) (qq A l c v) := fun v => by
    show xor (xor (v a && px l fun z => v z && A a z) (qf A l v)) (px (a :: l) fun b => v b && c b) = xor _ (xor (qf A l v) (px l fun b => v b && c b))
    rw [e0, px_cons]
    cases v a <;> cases c a <;> cases qf A l v <;> cases px l (fun b => v b && c b) <;> rfl
  rw [sm_cons, ← sm_mul, ← sm_add]
  refine sm_congr fun v hv => ?_
  have e2 : qq A l c (up v a) = qq A l c v := by
    unfold qq
    rw [qf_up ha, px_up ha]
  rw [e1, e1, e2, hv a ha]
  unfold up
  rw [if_pos rfl]
  cases c a <;> cases qq A l c v <;> rfl
/-- two letters that meet, taken out -/
theorem gs_pair {A : α → α → Bool} {l : List α} {a p : α} (ha : a ∉ l) (hp : p ∉ l) (hap : a ≠ p) (h1 : A a p = true) (c : α → Bool) :
    gs A (a :: p :: l) c = (if (c a && c p) = true then -2 else 2) * gs (fun j k => xor (A j k) (xor (A p j && A a k) (A a j && A p k))) l fun j => xor (c j) (xor (xor (A p j && c a) (A a j && c p)) (A a j && A p j)) := by
  show sm (a :: p :: l) (fun v => sg (qq A (a :: p :: l) c v)) = _ * sm l fun v => sg (qq _ l _ v)
  have e1 : ∀ v, qq A (a :: p :: l) c v = xor (xor (xor (v a && v p) (xor (v a && (px l fun z => v z && A a z)) (v p && px l fun z => v z && A p z))) (xor (v a && c a) (v p && c p))) (qq A l c v) := fun v => by
    show xor (xor (v a && px (p :: l) fun z => v z && A a z) (xor (v p && px l fun z => v z && A p z) (qf A l v))) (px (a :: p :: l) fun b => v b && c b) = xor _ (xor (qf A l v) (px l fun b => v b && c b))
    rw [px_cons, px_cons, px_cons, h1]
    cases v a <;> cases v p <;> cases c a <;> cases c p <;> cases qf A l v <;> cases px l (fun b => v b && c b) <;> cases px l (fun z => v z && A a z) <;> cases px l (fun z => v z && A p z) <;> rfl
  have e2 : ∀ v, qq (fun j k => xor (A j k) (xor (A p j && A a k) (A a j && A p k))) l (fun j => xor (c j) (xor (xor (A p j && c a) (A a j && c p)) (A a j && A p j))) v =
      xor (qq A l c v) (xor ((px l fun z => v z && A p z) && px l fun z => v z && A a z) (xor (c a && px l fun z => v z && A p z) (c p && px l fun z => v z && A a z))) := fun v => by
    unfold qq
    rw [qf_xorA A fun j k => xor (A p j && A a k) (A a j && A p k), qf_prod (A p) (A a)]
    have e3 : px l (fun b => v b && xor (c b) (xor (xor (A p b && c a) (A a b && c p)) (A a b && A p b))) = xor (px l fun b => v b && c b) (xor (xor (c a && px l fun z => v z && A p z) (c p && px l fun z => v z && A a z)) (px l fun z => v z && (A p z && A a z))) := by
      rw [← px_and, ← px_and, ← px_xor, ← px_xor, ← px_xor]
      refine px_congr fun z _ => ?_
      cases v z <;> cases c z <;> cases A p z <;> cases A a z <;> cases c a <;> cases c p <;> rfl
    rw [e3]
    cases qf A l v <;> cases px l (fun b => v b && c b) <;> cases px l (fun z => v z && A p z) <;> cases px l (fun z => v z && A a z) <;> cases c a <;> cases c p <;> cases px l (fun z => v z && (A p z && A a z)) <;> rfl
  rw [sm_cons, sm_cons, sm_cons, ← sm_mul, ← sm_add, ← sm_add, ← sm_add]
  refine sm_congr fun v hv => ?_
  have q : ∀ u : α → Bool, (∀ b ∈ l, u b = v b) → qq A (a :: p :: l) c u = xor (xor (xor (u a && u p) (xor (u a && (px l fun z => v z && A a z)) (u p && px l fun z => v z && A p z))) (xor (u a && c a) (u p && c p))) (qq A l c v) := fun u hu => by
    rw [e1, qq_congr (A' := A) (c' := c) (v' := v) (fun _ _ _ _ => rfl) (fun _ _ => rfl) hu, px_congr (f := fun z => u z && A a z) (g := fun z => v z && A a z) fun z hz => by rw [hu z hz], px_congr (f := fun z => u z && A p z) (g := fun z => v z && A p z) fun z hz => by rw [hu z hz]]
  have u1 : ∀ b ∈ l, up v p b = v b := fun b hb => by unfold up; rw [if_neg fun z : b = p => hp (z ▸ hb)]
  have u2 : ∀ b ∈ l, up v a b = v b := fun b hb => by unfold up; rw [if_neg fun z : b = a => ha (z ▸ hb)]
  have u3 : ∀ b ∈ l, up (up v p) a b = v b := fun b hb => by unfold up; rw [if_neg fun z : b = a => ha (z ▸ hb), if_neg fun z : b = p => hp (z ▸ hb)]
  have va := hv a ha
  have vp := hv p hp
  have w1 : up v p a = false := by unfold up; rw [if_neg hap, va]
  have w2 : up v p p = true := if_pos rfl
  have w3 : up v a a = true := if_pos rfl
  have w4 : up v a p = false := by unfold up; rw [if_neg fun z => hap z.symm, vp]
  have w5 : up (up v p) a a = true := if_pos rfl
  have w6 : up (up v p) a p = true := by unfold up; rw [if_neg fun z => hap z.symm, if_pos rfl]
  rw [q v fun _ _ => rfl, q _ u1, q _ u2, q _ u3, e2, va, vp, w1, w2, w3, w4, w5, w6]
  cases c a <;> cases c p <;> cases px l (fun z => v z && A p z) <;> cases px l (fun z => v z && A a z) <;> cases qq A l c v <;> rfl
end
end Rk
namespace Rk
section
variable {α β : Type} [DecidableEq α] [DecidableEq β]
/-! ### sums by places of a list -/
theorem px_map (f : β → α) (l : List β) (g : α → Bool) : px (l.map f) g = px l fun i => g (f i) := by
  induction l with
  | nil => rfl
  | cons a l ih => rw [List.map_cons, px_cons, px_cons, ih]
theorem qf_map (A : α → α → Bool) (f : β → α) (l : List β) (v : α → Bool) : qf A (l.map f) v = qf (fun i j => A (f i) (f j)) l fun i => v (f i) := by
  induction l with
  | nil => rfl
  | cons a l ih =>
    show xor (v (f a) && px (l.map f) fun z => v z && A (f a) z) _ = xor (v (f a) && px l fun z => v (f z) && A (f a) (f z)) _
    rw [px_map, ih]
theorem sm_map (f : β → α) : ∀ {l : List β} (_ : l.Nodup) (_ : ∀ a ∈ l, ∀ b ∈ l, f a = f b → a = b) (G : (β → Bool) → Int) (_ : ∀ u u', (∀ i ∈ l, u i = u' i) → G u = G u'), sm (l.map f) (fun v => G fun i => v (f i)) = sm l G
  | [], _, _, G, hG => hG _ _ fun i h => by cases h
  | a :: l, nd, inj, G, hG => by
    have na := (List.nodup_cons.mp nd).1
    have nd' := (List.nodup_cons.mp nd).2
    have inj' : ∀ x ∈ l, ∀ y ∈ l, f x = f y → x = y := fun x hx y hy => inj x (List.mem_cons_of_mem _ hx) y (List.mem_cons_of_mem _ hy)
    have nf : f a ∉ l.map f := fun h => by
      obtain ⟨b, hb, e⟩ := List.mem_map.mp h
      exact na (inj b (List.mem_cons_of_mem _ hb) a (List.mem_cons_self ..) e ▸ hb)
    let G0 : (β → Bool) → Int := fun u => G fun i => if i = a then false else u i
    let G1 : (β → Bool) → Int := fun u => G (up u a)
    rw [List.map_cons, sm_cons, sm_cons]
    have h0 := sm_map f nd' inj' G0 fun u u' h => hG _ _ fun i hi => by
      by_cases e : i = a
      · rw [if_pos e, if_pos e]
      · rw [if_neg e, if_neg e]
        exact h i ((List.mem_cons.mp hi).resolve_left e)
    have h1 := sm_map f nd' inj' G1 fun u u' h => hG _ _ fun i hi => by
      unfold up
      by_cases e : i = a
      · rw [if_pos e, if_pos e]
      · rw [if_neg e, if_neg e]
        exact h i ((List.mem_cons.mp hi).resolve_left e)
    have k0 : sm (l.map f) (fun v => G fun i => v (f i)) = sm (l.map f) fun v => G0 fun i => v (f i) := sm_congr fun v hv => hG _ _ fun i hi => by
      show v (f i) = if i = a then false else v (f i)
      by_cases e : i = a
      · rw [if_pos e, e, hv (f a) nf]
      · rw [if_neg e]
    have k0' : sm l G = sm l G0 := sm_congr fun v hv => hG _ _ fun i hi => by
      show v i = if i = a then false else v i
      by_cases e : i = a
      · rw [if_pos e, e, hv a na]
      · rw [if_neg e]
    have k1 : sm (l.map f) (fun v => G fun i => up v (f a) (f i)) = sm (l.map f) fun v => G1 fun i => v (f i) := sm_congr fun v hv => hG _ _ fun i hi => by
      show (if f i = f a then true else v (f i)) = if i = a then true else v (f i)
      by_cases e : i = a
      · rw [if_pos e, if_pos (by rw [e])]
      · rw [if_neg e, if_neg fun z => e (inj i hi a (List.mem_cons_self ..) z)]
    rw [k0, k0', k1, h0, h1]
theorem gs_map (A : α → α → Bool) (f : β → α) {l : List β} (nd : l.Nodup) (inj : ∀ a ∈ l, ∀ b ∈ l, f a = f b → a = b) (c : α → Bool) : gs A (l.map f) c = gs (fun i j => A (f i) (f j)) l fun i => c (f i) := by
  have e : gs A (l.map f) c = sm (l.map f) fun v => (fun u : β → Bool => sg (qq (fun i j => A (f i) (f j)) l (fun i => c (f i)) u)) fun i => v (f i) := by
    refine sm_congr fun v _ => ?_
    show sg (qq A (l.map f) c v) = _
    unfold qq
    rw [qf_map, px_map]
  rw [e]
  exact sm_map f nd inj (fun u : β → Bool => sg (qq (fun i j => A (f i) (f j)) l (fun i => c (f i)) u)) fun u u' h => congrArg sg (qq_congr (fun _ _ _ _ => rfl) (fun _ _ => rfl) h)
/-- n - 1, .., 0 -/
def dn : Nat → List Nat
  | 0 => []
  | k + 1 => k :: dn k
theorem dn_mem {n i : Nat} : i ∈ dn n ↔ i < n := by
  induction n with
  | zero => exact ⟨fun h => (by cases h), fun h => (by omega)⟩
  | succ n ih =>
    show i ∈ n :: dn n ↔ _
    rw [List.mem_cons, ih]; omega
theorem dn_nd (n : Nat) : (dn n).Nodup := by
  induction n with
  | zero => exact List.nodup_nil
  | succ n ih => exact List.nodup_cons.mpr ⟨fun h => by have := dn_mem.mp h; omega, ih⟩
theorem dn_perm (n : Nat) : (dn n).Perm (List.range n) := (List.perm_ext_iff_of_nodup (dn_nd n) List.nodup_range).mpr fun a => by rw [dn_mem, List.mem_range]
theorem sm_list (l : List α) (f : (α → Bool) → Int) : sm l f = ((allS l).map f).sum := by
  induction l generalizing f with
  | nil => show f _ = [f _].sum; simp
  | cons a l ih =>
    rw [sm_cons, ih, ih]
    show _ = ((allS l ++ (allS l).map fun v => up v a).map f).sum
    rw [List.map_append, List.sum_append_int, List.map_map]; rfl
theorem allS_len (l : List α) : (allS l).length = 2 ^ l.length := by
  induction l with
  | nil => rfl
  | cons a l ih =>
    show (allS l ++ (allS l).map _).length = _
    rw [List.length_append, List.length_map, ih, List.length_cons, Nat.pow_succ]; omega
/-- the law's list of pars -/
def parsL (A : Nat → Nat → Bool) (c : Nat → Bool) (k z : Nat) : List Bool := (allS (dn z)).map fun v => xor (c k) (px (dn z) fun y => v y && A k y)
def sumsL (A : Nat → Nat → Bool) (c : Nat → Bool) (k : Nat) : List Bool := (allS (dn k)).map fun v => qq A (dn k) c v
theorem parsL_succ (A : Nat → Nat → Bool) (c : Nat → Bool) (k z : Nat) : parsL A c k (z + 1) = parsL A c k z ++ (parsL A c k z).map fun b => xor b (A k z) := by
  unfold parsL
  show (allS (dn z) ++ (allS (dn z)).map fun v => up v z).map _ = _
  rw [List.map_append, List.map_map, List.map_map]
  have nz : z ∉ dn z := fun h => by have := dn_mem.mp h; omega
  congr 1
  · refine List.map_congr_left fun v hv => ?_
    show xor (c k) (px (z :: dn z) fun y => v y && A k y) = _
    rw [px_cons, allS_on hv z nz]
    cases px (dn z) (fun y => v y && A k y) <;> rfl
  · refine List.map_congr_left fun v hv => ?_
    show xor (c k) (px (z :: dn z) fun y => up v z y && A k y) = xor (xor (c k) (px (dn z) fun y => v y && A k y)) (A k z)
    rw [px_cons, px_up nz]
    unfold up
    rw [if_pos rfl]
    cases c k <;> cases A k z <;> cases px (dn z) (fun y => v y && A k y) <;> rfl
theorem sumsL_succ (A : Nat → Nat → Bool) (c : Nat → Bool) (k : Nat) : sumsL A c (k + 1) = sumsL A c k ++ List.zipWith xor (sumsL A c k) (parsL A c k k) := by
  unfold sumsL parsL
  show (allS (dn k) ++ (allS (dn k)).map fun v => up v k).map _ = _
  rw [List.map_append, List.map_map, List.zipWith_map, List.zipWith_self]
  have nz : k ∉ dn k := fun h => by have := dn_mem.mp h; omega
  congr 1
  · refine List.map_congr_left fun v hv => ?_
    show xor (xor (v k && px (dn k) fun z => v z && A k z) (qf A (dn k) v)) (px (k :: dn k) fun b => v b && c b) = xor (qf A (dn k) v) (px (dn k) fun b => v b && c b)
    rw [px_cons, allS_on hv k nz]
    cases qf A (dn k) v <;> cases px (dn k) (fun b => v b && c b) <;> rfl
  · refine List.map_congr_left fun v hv => ?_
    show xor (xor (up v k k && px (dn k) fun z => up v k z && A k z) (qf A (dn k) (up v k))) (px (k :: dn k) fun b => up v k b && c b) = xor (xor (qf A (dn k) v) (px (dn k) fun b => v b && c b)) (xor (c k) (px (dn k) fun y => v y && A k y))
    rw [px_cons, px_up nz, px_up nz, qf_up nz]
    unfold up
    rw [if_pos rfl]
    cases qf A (dn k) v <;> cases px (dn k) (fun b => v b && c b) <;> cases c k <;> cases px (dn k) (fun z => v z && A k z) <;> rfl
theorem sumsL_len (A : Nat → Nat → Bool) (c : Nat → Bool) (k : Nat) : (sumsL A c k).length = 2 ^ k := by
  unfold sumsL
  rw [List.length_map, allS_len]
  congr 1
  induction k with
  | zero => rfl
  | succ k ih => show (k :: dn k).length = _; rw [List.length_cons, ih]
theorem parsL_len (A : Nat → Nat → Bool) (c : Nat → Bool) (k z : Nat) : (parsL A c k z).length = 2 ^ z := by
  unfold parsL
  rw [List.length_map, allS_len]
  congr 1
  induction z with
  | zero => rfl
  | succ k ih => show (k :: dn k).length = _; rw [List.length_cons, ih]
/-- even lots less odd lots -/
theorem gap_gs (A : Nat → Nat → Bool) (c : Nat → Bool) (n : Nat) : (((sumsL A c n).length : Nat) : Int) - 2 * ((sumsL A c n).map fun b => ((b.toNat : Nat) : Int)).sum = gs A (dn n) c := by
  have e : ∀ bs : List Bool, ((bs.length : Nat) : Int) - 2 * (bs.map fun b => ((b.toNat : Nat) : Int)).sum = (bs.map sg).sum := fun bs => by
    induction bs with
    | nil => rfl
    | cons b bs ih =>
      rw [List.map_cons, List.map_cons, List.sum_cons, List.sum_cons, List.length_cons]
      cases b
      · show _ - 2 * ((0 : Int) + _) = 1 + _; omega
      · show _ - 2 * ((1 : Int) + _) = -1 + _; omega
  rw [e]
  show _ = sm (dn n) fun v => sg (qq A (dn n) c v)
  rw [sm_list]
  unfold sumsL
  rw [List.map_map]; rfl
end
end Rk
namespace Rk
/-! ### parities of lots, by places -/
/-- the parities of the digits' sums of 0, .., 2^k - 1 -/
def dsL : Nat → List Bool
  | 0 => [false]
  | k + 1 => dsL k ++ (dsL k).map fun b => !b
def pk (k n : Nat) : Bool := px (dn k) fun y => n.testBit y
theorem dsL_len : ∀ k, (dsL k).length = 2 ^ k
  | 0 => rfl
  | k + 1 => by
    show (dsL k ++ (dsL k).map fun b => !b).length = _
    rw [List.length_append, List.length_map, dsL_len k, Nat.pow_succ]
    omega
theorem dn_lt {k y : Nat} (h : y ∈ dn k) : y < k := dn_mem.mp h
theorem dsL_at : ∀ (k : Nat) {n : Nat}, n < 2 ^ k → (dsL k)[n]? = some (pk k n)
  | 0, n, h => by
    have e : n = 0 := by omega
    subst e
    rfl
  | k + 1, n, h => by
    show (dsL k ++ (dsL k).map fun b => !b)[n]? = some (px (k :: dn k) fun y => n.testBit y)
    rw [px_cons]
    by_cases c : n < 2 ^ k
    · rw [List.getElem?_append_left (by rw [dsL_len]; exact c), dsL_at k c, Nat.testBit_lt_two_pow c, Bool.false_xor]
      rfl
    · obtain ⟨l, rfl⟩ : ∃ l, n = 2 ^ k + l := ⟨n - 2 ^ k, by omega⟩
      have hl : l < 2 ^ k := by rw [Nat.pow_succ] at h; omega
      rw [List.getElem?_append_right (by rw [dsL_len]; omega), dsL_len, Nat.add_sub_cancel_left, List.getElem?_map, dsL_at k hl]
      rw [Nat.testBit_two_pow_add_eq, Nat.testBit_lt_two_pow hl]
      show some (!pk k l) = some (xor true (px (dn k) fun y => (2 ^ k + l).testBit y))
      rw [Bool.true_xor, px_congr (g := fun y => l.testBit y) fun y hy => Nat.testBit_two_pow_add_gt (dn_lt hy) l]
      rfl
theorem pars_at (A : Nat → Nat → Bool) (c : Nat → Bool) (k : Nat) : ∀ (z : Nat) {l : Nat}, l < 2 ^ z → (parsL A c k z)[l]? = some (xor (c k) (px (dn z) fun y => l.testBit y && A k y))
  | 0, l, h => by
    have e : l = 0 := by omega
    subst e
    rfl
  | z + 1, l, h => by
    rw [parsL_succ]
    show (parsL A c k z ++ (parsL A c k z).map fun b => xor b (A k z))[l]? = some (xor (c k) (px (z :: dn z) fun y => l.testBit y && A k y))
    rw [px_cons]
    by_cases c' : l < 2 ^ z
    · rw [List.getElem?_append_left (by rw [parsL_len]; exact c'), pars_at A c k z c', Nat.testBit_lt_two_pow c', Bool.false_and, Bool.false_xor]
    · obtain ⟨m, rfl⟩ : ∃ m, l = 2 ^ z + m := ⟨l - 2 ^ z, by omega⟩
      have hm : m < 2 ^ z := by rw [Nat.pow_succ] at h; omega
      rw [List.getElem?_append_right (by rw [parsL_len]; omega), parsL_len, Nat.add_sub_cancel_left, List.getElem?_map, pars_at A c k z hm]
      rw [Nat.testBit_two_pow_add_eq, Nat.testBit_lt_two_pow hm]
      rw [px_congr (l := dn z) (f := fun y => (2 ^ z + m).testBit y && A k y) (g := fun y => m.testBit y && A k y) fun y hy => by rw [Nat.testBit_two_pow_add_gt (dn_lt hy) m]]
      show some (xor (xor (c k) _) (A k z)) = some (xor (c k) (xor (true && A k z) _))
      rw [Bool.true_and, Bool.xor_assoc, Bool.xor_comm (A k z)]
theorem pk_and (k m l : Nat) : pk k (m &&& l) = px (dn k) fun y => l.testBit y && m.testBit y := by
  unfold pk
  exact px_congr fun y _ => by rw [Nat.testBit_and, Bool.and_comm]
/-- the sum of all signs is nothing, or 2 to the power of the places less half the rank -/
theorem gs_abs {α : Type} [DecidableEq α] {A : α → α → Bool} {l : List α} (nd : l.Nodup) (hs : ∀ a ∈ l, ∀ b ∈ l, A a b = A b a) (hd : ∀ a ∈ l, A a a = false) (c : α → Bool) {h : Nat} (hh : h ≤ l.length) (hk : kerN A l * 2 ^ (2 * h) = 2 ^ l.length) :
    gs A l c = 0 ∨ gs A l c * gs A l c = 2 ^ (l.length - h) * 2 ^ (l.length - h) := by
  have e := gs_sq nd hs hd c
  rcases ker_sum nd hs hd c with z | z
  · rw [z, Int.mul_zero] at e
    exact .inl ((Int.mul_eq_zero.mp e).elim id id)
  · rw [z] at e
    refine .inr ?_
    have hp : (0 : Int) < 2 ^ (2 * h) := Int.pow_pos (by decide)
    refine Int.eq_of_mul_eq_mul_right (Int.ne_of_gt hp) ?_
    rw [e, Int.mul_assoc, hk, ← Int.pow_add, ← Int.pow_add, ← Int.pow_add]
    congr 1
    omega
end Rk
namespace Cb
open PySem PySem.Spec PyProof.Rows L2
def top (i : Nat) : Stmt := PySem.Challenge.pw_combed_k23_whole_lots_counted.main.body.getD i (.Pass ⟨0, 0, 0, 0⟩)
abbrev FnP (K : PySem.W.Frag) (x : Str) (st : Stmt) (f : Addr) (fd : FuncData) : Prop := FunD K x x (defArgs st) (defBody st) (defScope st) [] [] f fd
abbrev FnM (K : PySem.W.Frag) (x q : Str) (st : Stmt) (dvs : List V) (f : Addr) (fd : FuncData) : Prop := FunD K x q (defArgs st) (defBody st) (defScope st) dvs [] f fd
/-- what the globals stand for -/
structure Bi (K : PySem.W.Frag) (mg : Str → Option Value) : Prop where
  len : mg "len" = none
  int : mg "int" = none
  list : mg "list" = none
  range : mg "range" = none
  abs : mg "abs" = none
  isinstance : mg "isinstance" = none
  bool : mg "bool" = none
  str : mg "str" = none
  dict : mg "dict" = none
  tuple : mg "tuple" = none
  all : mg "all" = none
  max : mg "max" = none
  enumerate : mg "enumerate" = none
  sum : mg "sum" = none
  ValueError : mg "ValueError" = none
  c_MOST_ARMS : ∃ u, mg "MOST_ARMS" = some u ∧ RelV (.int 12) u
  c_MOST_MODULUS : ∃ u, mg "MOST_MODULUS" = some u ∧ RelV (.int 24) u
  c_LONGEST : ∃ u, mg "LONGEST" = some u ∧ RelV (.int 3) u
  c_MOST_LOTS : ∃ u, mg "MOST_LOTS" = some u ∧ RelV (.int 12) u
  c_DIGITS : ∃ u, mg "DIGITS" = some u ∧ RelV (.str "0123456789") u
  c_LETTERS : ∃ u, mg "LETTERS" = some u ∧ RelV (.str "abcdefghijklmnopqrstuvwxyz") u
  cls_Sheet : Cls K (He.ga K "Sheet")
  na_Sheet_book : NoAttr K (He.ga K "Sheet") "book"
  na_Sheet_word : NoAttr K (He.ga K "Sheet") "word"
  na_Sheet__feet : NoAttr K (He.ga K "Sheet") "_feet"
  na_Sheet_bands : NoAttr K (He.ga K "Sheet") "bands"
  na_Sheet__told : NoAttr K (He.ga K "Sheet") "_told"
  cls_Book : Cls K (He.ga K "Book")
  na_Book_arms : NoAttr K (He.ga K "Book") "arms"
  na_Book_modulus : NoAttr K (He.ga K "Book") "modulus"
  gcd : mg "gcd" = some (.builtin "math.gcd")
abbrev st_is_number : Stmt := top 13
theorem sc_is_number : FnScope ["value"] ["value"] (defScope st_is_number) := ⟨rfl, rfl, rfl, by decide +kernel, rfl, by decide +kernel, by decide +kernel⟩
abbrev st_reduced : Stmt := top 20
theorem sc_reduced : FnScope ["book", "n"] ["book", "n"] (defScope st_reduced) := ⟨rfl, rfl, rfl, by decide +kernel, rfl, by decide +kernel, by decide +kernel⟩
abbrev st_is_name : Stmt := top 37
theorem sc_is_name : FnScope ["text", "sign"] ["text"] (defScope st_is_name) := ⟨rfl, rfl, rfl, by decide +kernel, rfl, by decide +kernel, by decide +kernel⟩
abbrev st_is_word : Stmt := top 45
theorem sc_is_word : FnScope ["word", "many", "name"] ["word"] (defScope st_is_word) := ⟨rfl, rfl, rfl, by decide +kernel, rfl, by decide +kernel, by decide +kernel⟩
abbrev st_feet_of : Stmt := top 48
theorem sc_feet_of : FnScope ["word", "lefts", "feet", "place", "band"] ["word"] (defScope st_feet_of) := ⟨rfl, rfl, rfl, by decide +kernel, rfl, by decide +kernel, by decide +kernel⟩
abbrev st_divisor : Stmt := top 21
theorem sc_divisor : FnScope ["numbers", "found", "number"] ["numbers"] (defScope st_divisor) := ⟨rfl, rfl, rfl, by decide +kernel, rfl, by decide +kernel, by decide +kernel⟩
abbrev st_Book_init : Stmt := inClass (top 19) 0
theorem sc_Book_init : FnScope ["self", "arms", "modulus"] ["self", "arms", "modulus"] (defScope st_Book_init) := ⟨rfl, rfl, rfl, by decide +kernel, rfl, by decide +kernel, by decide +kernel⟩
abbrev st_Sheet_init : Stmt := inClass (top 47) 0
theorem sc_Sheet_init : FnScope ["self", "book", "word", "numbers", "told", "band"] ["self", "book", "word", "numbers"] (defScope st_Sheet_init) := ⟨rfl, rfl, rfl, by decide +kernel, rfl, by decide +kernel, by decide +kernel⟩
abbrev st_Sheet_number : Stmt := inClass (top 47) 2
theorem sc_Sheet_number : FnScope ["self", "band"] ["self", "band"] (defScope st_Sheet_number) := ⟨rfl, rfl, rfl, by decide +kernel, rfl, by decide +kernel, by decide +kernel⟩
abbrev st_Sheet_left : Stmt := inClass (top 47) 3
theorem sc_Sheet_left : FnScope ["self", "band"] ["self", "band"] (defScope st_Sheet_left) := ⟨rfl, rfl, rfl, by decide +kernel, rfl, by decide +kernel, by decide +kernel⟩
abbrev st_Sheet_right : Stmt := inClass (top 47) 4
theorem sc_Sheet_right : FnScope ["self", "band"] ["self", "band"] (defScope st_Sheet_right) := ⟨rfl, rfl, rfl, by decide +kernel, rfl, by decide +kernel, by decide +kernel⟩
abbrev st_Sheet___len__ : Stmt := inClass (top 47) 13
theorem sc_Sheet___len__ : FnScope ["self"] ["self"] (defScope st_Sheet___len__) := ⟨rfl, rfl, rfl, by decide +kernel, rfl, by decide +kernel, by decide +kernel⟩
abbrev st_share_of : Stmt := top 29
theorem sc_share_of : FnScope ["sheet", "numbers", "band"] ["sheet"] (defScope st_share_of) := ⟨rfl, rfl, rfl, by decide +kernel, rfl, by decide +kernel, by decide +kernel⟩
abbrev st_mask_of : Stmt := top 23
theorem sc_mask_of : FnScope ["items", "mask", "item"] ["items"] (defScope st_mask_of) := ⟨rfl, rfl, rfl, by decide +kernel, rfl, by decide +kernel, by decide +kernel⟩
abbrev st_spans_cross : Stmt := top 28
theorem sc_spans_cross : FnScope ["span", "other", "first", "last", "other_first", "other_last"] ["span", "other"] (defScope st_spans_cross) := ⟨rfl, rfl, rfl, by decide +kernel, rfl, by decide +kernel, by decide +kernel⟩
abbrev st_crossing_table : Stmt := top 27
theorem sc_crossing_table : FnScope ["sheet", "spans", "band", "span", "other"] ["sheet"] (defScope st_crossing_table) := ⟨rfl, rfl, rfl, by decide +kernel, rfl, by decide +kernel, by decide +kernel⟩
abbrev st_has_balance : Stmt := top 30
theorem sc_has_balance : FnScope ["book", "share"] ["book", "share"] (defScope st_has_balance) := ⟨rfl, rfl, rfl, by decide +kernel, rfl, by decide +kernel, by decide +kernel⟩
abbrev st_masks_of : Stmt := top 32
theorem sc_masks_of : FnScope ["sheet", "row"] ["sheet"] (defScope st_masks_of) := ⟨rfl, rfl, rfl, by decide +kernel, rfl, by decide +kernel, by decide +kernel⟩
abbrev st_odds_of : Stmt := top 33
theorem sc_odds_of : FnScope ["sheet", "share", "band"] ["sheet", "share"] (defScope st_odds_of) := ⟨rfl, rfl, rfl, by decide +kernel, rfl, by decide +kernel, by decide +kernel⟩
abbrev st_lot_sums : Stmt := top 24
theorem sc_lot_sums : FnScope ["masks", "odds", "digit_sums", "sums", "at", "mask", "many", "lot", "digit_sum"] ["masks", "odds"] (defScope st_lot_sums) := ⟨rfl, rfl, rfl, by decide +kernel, rfl, by decide +kernel, by decide +kernel⟩
abbrev st_lots_counted : Stmt := top 31
theorem sc_lots_counted : FnScope ["sheet", "share", "sums", "odd"] ["sheet"] (defScope st_lots_counted) := ⟨rfl, rfl, rfl, by decide +kernel, rfl, by decide +kernel, by decide +kernel⟩
abbrev st_l_bag : Stmt := top 50
theorem sc_l_bag : FnScope ["script", "state", "cell"] ["script"] (defScope st_l_bag) := ⟨rfl, rfl, rfl, by decide +kernel, rfl, by decide +kernel, by decide +kernel⟩
abbrev st_l_draw : Stmt := top 51
theorem sc_l_draw : FnScope ["bag", "many", "cell", "digit"] ["bag", "many"] (defScope st_l_draw) := ⟨rfl, rfl, rfl, by decide +kernel, rfl, by decide +kernel, by decide +kernel⟩
abbrev st_l_of : Stmt := top 52
theorem sc_l_of : FnScope ["bag", "things"] ["bag", "things"] (defScope st_l_of) := ⟨rfl, rfl, rfl, by decide +kernel, rfl, by decide +kernel, by decide +kernel⟩
abbrev st_l_mixed : Stmt := top 53
theorem sc_l_mixed : FnScope ["bag", "things", "left", "found", "k"] ["bag", "things"] (defScope st_l_mixed) := ⟨rfl, rfl, rfl, by decide +kernel, rfl, by decide +kernel, by decide +kernel⟩
abbrev st_l_like : Stmt := top 54
theorem sc_l_like : FnScope ["told", "due", "k", "key"] ["told", "due"] (defScope st_l_like) := ⟨rfl, rfl, rfl, by decide +kernel, rfl, by decide +kernel, by decide +kernel⟩
abbrev st_l_red : Stmt := top 55
theorem sc_l_red : FnScope ["mod", "num"] ["mod", "num"] (defScope st_l_red) := ⟨rfl, rfl, rfl, by decide +kernel, rfl, by decide +kernel, by decide +kernel⟩
abbrev st_l_divisor : Stmt := top 56
theorem sc_l_divisor : FnScope ["nums", "found", "num", "one", "two", "turn", "rest"] ["nums"] (defScope st_l_divisor) := ⟨rfl, rfl, rfl, by decide +kernel, rfl, by decide +kernel, by decide +kernel⟩
abbrev st_l_divisors : Stmt := top 57
theorem sc_l_divisors : FnScope ["num", "k"] ["num"] (defScope st_l_divisors) := ⟨rfl, rfl, rfl, by decide +kernel, rfl, by decide +kernel, by decide +kernel⟩
abbrev st_l_arms : Stmt := top 58
theorem sc_l_arms : FnScope ["bag", "arm"] ["bag"] (defScope st_l_arms) := ⟨rfl, rfl, rfl, by decide +kernel, rfl, by decide +kernel, by decide +kernel⟩
abbrev st_l_names : Stmt := top 59
theorem sc_l_names : FnScope ["bag", "many", "tails", "look", "first", "start", "found", "k", "sign", "tail"] ["bag", "many"] (defScope st_l_names) := ⟨rfl, rfl, rfl, by decide +kernel, rfl, by decide +kernel, by decide +kernel⟩
abbrev st_l_word : Stmt := top 60
theorem sc_l_word : FnScope ["names", "hands", "feet", "k", "name"] ["names", "hands"] (defScope st_l_word) := ⟨rfl, rfl, rfl, by decide +kernel, rfl, by decide +kernel, by decide +kernel⟩
abbrev st_l_slide : Stmt := top 64
theorem sc_l_slide : FnScope ["own", "p", "s", "arm", "mod", "feet", "nums", "x", "y", "before", "along", "left", "at", "far", "spot", "behind", "worth"] ["own", "p", "s"] (defScope st_l_slide) := ⟨rfl, rfl, rfl, by decide +kernel, rfl, by decide +kernel, by decide +kernel⟩
abbrev st_l_do : Stmt := top 65
theorem sc_l_do : FnScope ["own", "text", "feet", "nums", "name", "items", "sign"] ["own", "text"] (defScope st_l_do) := ⟨rfl, rfl, rfl, by decide +kernel, rfl, by decide +kernel, by decide +kernel⟩
abbrev st_l_move : Stmt := top 66
theorem sc_l_move : FnScope ["bag", "own", "feet", "spot", "pick", "turn", "near"] ["bag", "own"] (defScope st_l_move) := ⟨rfl, rfl, rfl, by decide +kernel, rfl, by decide +kernel, by decide +kernel⟩
abbrev st_l_twin : Stmt := top 67
theorem sc_l_twin : FnScope ["own"] ["own"] (defScope st_l_twin) := ⟨rfl, rfl, rfl, by decide +kernel, rfl, by decide +kernel, by decide +kernel⟩
abbrev st_l_shift : Stmt := top 68
theorem sc_l_shift : FnScope ["bag", "own", "top", "text", "tried", "num"] ["bag", "own"] (defScope st_l_shift) := ⟨rfl, rfl, rfl, by decide +kernel, rfl, by decide +kernel, by decide +kernel⟩
abbrev st_l_sheet : Stmt := top 69
theorem sc_l_sheet : FnScope ["bag", "low", "most", "arm", "mod", "many", "unit", "top", "even", "pick", "hands", "names", "high", "nums", "k", "num", "own"] ["bag", "low", "most"] (defScope st_l_sheet) := ⟨rfl, rfl, rfl, by decide +kernel, rfl, by decide +kernel, by decide +kernel⟩
abbrev st_l_made : Stmt := top 71
theorem sc_l_made : FnScope ["own"] ["own"] (defScope st_l_made) := ⟨rfl, rfl, rfl, by decide +kernel, rfl, by decide +kernel, by decide +kernel⟩
abbrev st_l_mates : Stmt := top 61
theorem sc_l_mates : FnScope ["feet", "seen", "mates", "k"] ["feet"] (defScope st_l_mates) := ⟨rfl, rfl, rfl, by decide +kernel, rfl, by decide +kernel, by decide +kernel⟩
abbrev st_l_bands : Stmt := top 62
theorem sc_l_bands : FnScope ["feet", "mates", "k"] ["feet"] (defScope st_l_bands) := ⟨rfl, rfl, rfl, by decide +kernel, rfl, by decide +kernel, by decide +kernel⟩
abbrev st_l_table : Stmt := top 63
theorem sc_l_table : FnScope ["feet", "mates", "lefts", "found", "a", "k", "b"] ["feet"] (defScope st_l_table) := ⟨rfl, rfl, rfl, by decide +kernel, rfl, by decide +kernel, by decide +kernel⟩
abbrev st_l_rims : Stmt := top 70
theorem sc_l_rims : FnScope ["own", "arm", "mod", "feet", "nums", "mates", "used", "found", "start", "place", "half", "worth", "passes", "outer", "turn", "far", "ahead"] ["own"] (defScope st_l_rims) := ⟨rfl, rfl, rfl, by decide +kernel, rfl, by decide +kernel, by decide +kernel⟩
abbrev st_l_sums : Stmt := top 72
theorem sc_l_sums : FnScope ["bits", "table", "sums", "k", "pars", "z", "one", "m"] ["bits", "table"] (defScope st_l_sums) := ⟨rfl, rfl, rfl, by decide +kernel, rfl, by decide +kernel, by decide +kernel⟩
abbrev st_l_steered : Stmt := top 73
theorem sc_l_steered : FnScope ["bag", "most", "odd", "unit", "arm", "mod", "many", "hands", "names", "nums", "k", "num", "own"] ["bag", "most", "odd"] (defScope st_l_steered) := ⟨rfl, rfl, rfl, by decide +kernel, rfl, by decide +kernel, by decide +kernel⟩
abbrev st_l_moved : Stmt := top 74
theorem sc_l_moved : FnScope ["bag", "own", "many", "found", "k"] ["bag", "own", "many"] (defScope st_l_moved) := ⟨rfl, rfl, rfl, by decide +kernel, rfl, by decide +kernel, by decide +kernel⟩
abbrev st_l_lots : Stmt := top 75
theorem sc_l_lots : FnScope ["own", "part", "sums", "name"] ["own"] (defScope st_l_lots) := ⟨rfl, rfl, rfl, by decide +kernel, rfl, by decide +kernel, by decide +kernel⟩
abbrev st_l_many : Stmt := top 76
theorem sc_l_many : FnScope ["made", "e", "good"] ["made"] (defScope st_l_many) := ⟨rfl, rfl, rfl, by decide +kernel, rfl, by decide +kernel, by decide +kernel⟩
abbrev st_law : Stmt := top 77
theorem sc_law : FnScope ["script", "bag", "pick", "own", "made", "extra", "due", "hands", "later"] ["script"] (defScope st_law) := ⟨rfl, rfl, rfl, by decide +kernel, rfl, by decide +kernel, by decide +kernel⟩
/-! ### the head: facts by names, the run -/
def d_is_number : He.DefD := ⟨("is_number", none), "is_number", "is_number", defArgs st_is_number, defBody st_is_number, defScope st_is_number, [], []⟩
def d_reduced : He.DefD := ⟨("reduced", none), "reduced", "reduced", defArgs st_reduced, defBody st_reduced, defScope st_reduced, [], []⟩
def d_is_name : He.DefD := ⟨("is_name", none), "is_name", "is_name", defArgs st_is_name, defBody st_is_name, defScope st_is_name, [], []⟩
def d_is_word : He.DefD := ⟨("is_word", none), "is_word", "is_word", defArgs st_is_word, defBody st_is_word, defScope st_is_word, [], []⟩
def d_feet_of : He.DefD := ⟨("_feet_of", none), "_feet_of", "_feet_of", defArgs st_feet_of, defBody st_feet_of, defScope st_feet_of, [], []⟩
def d_divisor : He.DefD := ⟨("divisor", none), "divisor", "divisor", defArgs st_divisor, defBody st_divisor, defScope st_divisor, [], []⟩
def d_Book_init : He.DefD := ⟨("Book", some "__init__"), "__init__", "Book.__init__", defArgs st_Book_init, defBody st_Book_init, defScope st_Book_init, [.int 0], []⟩
def d_Sheet_init : He.DefD := ⟨("Sheet", some "__init__"), "__init__", "Sheet.__init__", defArgs st_Sheet_init, defBody st_Sheet_init, defScope st_Sheet_init, [.non], []⟩
def d_Sheet_number : He.DefD := ⟨("Sheet", some "number"), "number", "Sheet.number", defArgs st_Sheet_number, defBody st_Sheet_number, defScope st_Sheet_number, [], []⟩
def d_Sheet_left : He.DefD := ⟨("Sheet", some "left"), "left", "Sheet.left", defArgs st_Sheet_left, defBody st_Sheet_left, defScope st_Sheet_left, [], []⟩
def d_Sheet_right : He.DefD := ⟨("Sheet", some "right"), "right", "Sheet.right", defArgs st_Sheet_right, defBody st_Sheet_right, defScope st_Sheet_right, [], []⟩
def d_Sheet___len__ : He.DefD := ⟨("Sheet", some "__len__"), "__len__", "Sheet.__len__", defArgs st_Sheet___len__, defBody st_Sheet___len__, defScope st_Sheet___len__, [], []⟩
def d_share_of : He.DefD := ⟨("share_of", none), "share_of", "share_of", defArgs st_share_of, defBody st_share_of, defScope st_share_of, [], []⟩
def d_mask_of : He.DefD := ⟨("mask_of", none), "mask_of", "mask_of", defArgs st_mask_of, defBody st_mask_of, defScope st_mask_of, [], []⟩
def d_spans_cross : He.DefD := ⟨("_spans_cross", none), "_spans_cross", "_spans_cross", defArgs st_spans_cross, defBody st_spans_cross, defScope st_spans_cross, [], []⟩
def d_crossing_table : He.DefD := ⟨("crossing_table", none), "crossing_table", "crossing_table", defArgs st_crossing_table, defBody st_crossing_table, defScope st_crossing_table, [], []⟩
def d_has_balance : He.DefD := ⟨("_has_balance", none), "_has_balance", "_has_balance", defArgs st_has_balance, defBody st_has_balance, defScope st_has_balance, [], []⟩
def d_masks_of : He.DefD := ⟨("_masks_of", none), "_masks_of", "_masks_of", defArgs st_masks_of, defBody st_masks_of, defScope st_masks_of, [], []⟩
def d_odds_of : He.DefD := ⟨("_odds_of", none), "_odds_of", "_odds_of", defArgs st_odds_of, defBody st_odds_of, defScope st_odds_of, [], []⟩
def d_lot_sums : He.DefD := ⟨("lot_sums", none), "lot_sums", "lot_sums", defArgs st_lot_sums, defBody st_lot_sums, defScope st_lot_sums, [], []⟩
def d_lots_counted : He.DefD := ⟨("lots_counted", none), "lots_counted", "lots_counted", defArgs st_lots_counted, defBody st_lots_counted, defScope st_lots_counted, [], []⟩
def d_l_bag : He.DefD := ⟨("_law_bag", none), "_law_bag", "_law_bag", defArgs st_l_bag, defBody st_l_bag, defScope st_l_bag, [], []⟩
def d_l_draw : He.DefD := ⟨("_law_draw", none), "_law_draw", "_law_draw", defArgs st_l_draw, defBody st_l_draw, defScope st_l_draw, [], []⟩
def d_l_of : He.DefD := ⟨("_law_of", none), "_law_of", "_law_of", defArgs st_l_of, defBody st_l_of, defScope st_l_of, [], []⟩
def d_l_mixed : He.DefD := ⟨("_law_mixed", none), "_law_mixed", "_law_mixed", defArgs st_l_mixed, defBody st_l_mixed, defScope st_l_mixed, [], []⟩
def d_l_like : He.DefD := ⟨("_law_like", none), "_law_like", "_law_like", defArgs st_l_like, defBody st_l_like, defScope st_l_like, [], []⟩
def d_l_red : He.DefD := ⟨("_law_red", none), "_law_red", "_law_red", defArgs st_l_red, defBody st_l_red, defScope st_l_red, [], []⟩
def d_l_divisor : He.DefD := ⟨("_law_divisor", none), "_law_divisor", "_law_divisor", defArgs st_l_divisor, defBody st_l_divisor, defScope st_l_divisor, [], []⟩
def d_l_divisors : He.DefD := ⟨("_law_divisors", none), "_law_divisors", "_law_divisors", defArgs st_l_divisors, defBody st_l_divisors, defScope st_l_divisors, [], []⟩
def d_l_arms : He.DefD := ⟨("_law_arms", none), "_law_arms", "_law_arms", defArgs st_l_arms, defBody st_l_arms, defScope st_l_arms, [], []⟩
def d_l_names : He.DefD := ⟨("_law_names", none), "_law_names", "_law_names", defArgs st_l_names, defBody st_l_names, defScope st_l_names, [], []⟩
def d_l_word : He.DefD := ⟨("_law_word", none), "_law_word", "_law_word", defArgs st_l_word, defBody st_l_word, defScope st_l_word, [], []⟩
def d_l_slide : He.DefD := ⟨("_law_slide", none), "_law_slide", "_law_slide", defArgs st_l_slide, defBody st_l_slide, defScope st_l_slide, [], []⟩
def d_l_do : He.DefD := ⟨("_law_do", none), "_law_do", "_law_do", defArgs st_l_do, defBody st_l_do, defScope st_l_do, [], []⟩
def d_l_move : He.DefD := ⟨("_law_move", none), "_law_move", "_law_move", defArgs st_l_move, defBody st_l_move, defScope st_l_move, [], []⟩
def d_l_twin : He.DefD := ⟨("_law_twin", none), "_law_twin", "_law_twin", defArgs st_l_twin, defBody st_l_twin, defScope st_l_twin, [], []⟩
def d_l_shift : He.DefD := ⟨("_law_shift", none), "_law_shift", "_law_shift", defArgs st_l_shift, defBody st_l_shift, defScope st_l_shift, [], []⟩
def d_l_sheet : He.DefD := ⟨("_law_sheet", none), "_law_sheet", "_law_sheet", defArgs st_l_sheet, defBody st_l_sheet, defScope st_l_sheet, [], []⟩
def d_l_made : He.DefD := ⟨("_law_made", none), "_law_made", "_law_made", defArgs st_l_made, defBody st_l_made, defScope st_l_made, [], []⟩
def d_l_mates : He.DefD := ⟨("_law_mates", none), "_law_mates", "_law_mates", defArgs st_l_mates, defBody st_l_mates, defScope st_l_mates, [], []⟩
def d_l_bands : He.DefD := ⟨("_law_bands", none), "_law_bands", "_law_bands", defArgs st_l_bands, defBody st_l_bands, defScope st_l_bands, [], []⟩
def d_l_table : He.DefD := ⟨("_law_table", none), "_law_table", "_law_table", defArgs st_l_table, defBody st_l_table, defScope st_l_table, [], []⟩
def d_l_rims : He.DefD := ⟨("_law_rims", none), "_law_rims", "_law_rims", defArgs st_l_rims, defBody st_l_rims, defScope st_l_rims, [], []⟩
def d_l_sums : He.DefD := ⟨("_law_sums", none), "_law_sums", "_law_sums", defArgs st_l_sums, defBody st_l_sums, defScope st_l_sums, [], []⟩
def d_l_steered : He.DefD := ⟨("_law_steered", none), "_law_steered", "_law_steered", defArgs st_l_steered, defBody st_l_steered, defScope st_l_steered, [], []⟩
def d_l_moved : He.DefD := ⟨("_law_moved", none), "_law_moved", "_law_moved", defArgs st_l_moved, defBody st_l_moved, defScope st_l_moved, [], []⟩
def d_l_lots : He.DefD := ⟨("_law_lots", none), "_law_lots", "_law_lots", defArgs st_l_lots, defBody st_l_lots, defScope st_l_lots, [], []⟩
def d_l_many : He.DefD := ⟨("_law_many", none), "_law_many", "_law_many", defArgs st_l_many, defBody st_l_many, defScope st_l_many, [], []⟩
def d_law : He.DefD := ⟨("law", none), "law", "law", defArgs st_law, defBody st_law, defScope st_law, [], []⟩
def fn : List He.DefD := [d_is_number, d_reduced, d_is_name, d_is_word, d_feet_of, d_divisor, d_Book_init, d_Sheet_init, d_Sheet_number, d_Sheet_left, d_Sheet_right, d_Sheet___len__, d_share_of, d_mask_of, d_spans_cross, d_crossing_table, d_has_balance, d_masks_of, d_odds_of, d_lot_sums, d_lots_counted, d_l_bag, d_l_draw, d_l_of, d_l_mixed, d_l_like, d_l_red, d_l_divisor, d_l_divisors, d_l_arms, d_l_names, d_l_word, d_l_slide, d_l_do, d_l_move, d_l_twin, d_l_shift, d_l_sheet, d_l_made, d_l_mates, d_l_bands, d_l_table, d_l_rims, d_l_sums, d_l_steered, d_l_moved, d_l_lots, d_l_many, d_law]
def fa : List He.Fa := [.glo "is_number", .glo "reduced", .glo "is_name", .glo "is_word", .glo "_feet_of", .glo "divisor", .glo "share_of", .glo "mask_of", .glo "_spans_cross", .glo "crossing_table", .glo "_has_balance", .glo "_masks_of", .glo "_odds_of", .glo "lot_sums", .glo "lots_counted", .glo "_law_bag", .glo "_law_draw", .glo "_law_of", .glo "_law_mixed", .glo "_law_like", .glo "_law_red", .glo "_law_divisor", .glo "_law_divisors", .glo "_law_arms", .glo "_law_names", .glo "_law_word", .glo "_law_slide", .glo "_law_do", .glo "_law_move", .glo "_law_twin", .glo "_law_shift", .glo "_law_sheet", .glo "_law_made", .glo "_law_mates", .glo "_law_bands", .glo "_law_table", .glo "_law_rims", .glo "_law_sums", .glo "_law_steered", .glo "_law_moved", .glo "_law_lots", .glo "_law_many", .glo "law", .glo "Book", .glo "Sheet", .glo "CombedError", .glo "BadNumber", .free "len", .free "int", .free "list", .free "range", .free "abs", .free "isinstance", .free "bool", .free "str", .free "dict", .free "tuple", .free "all", .free "max", .free "enumerate", .free "sum", .free "ValueError", .int "MOST_ARMS" 12, .int "MOST_MODULUS" 24, .int "LONGEST" 3, .int "MOST_LOTS" 12, .str "DIGITS" "0123456789", .str "LETTERS" "abcdefghijklmnopqrstuvwxyz", .cls "Sheet", .noat "Sheet" "book", .noat "Sheet" "word", .noat "Sheet" "_feet", .noat "Sheet" "bands", .noat "Sheet" "_told", .cls "Book", .noat "Book" "arms", .noat "Book" "modulus", .mkr "Book", .mkr "Sheet", .meth "Sheet" "number", .meth "Sheet" "left", .meth "Sheet" "right", .meth "Sheet" "__len__"]
def ex : List (Str × String) := [("gcd", "math.gcd")]
abbrev st_TooMany_init : Stmt := inClass (top 6) 0
def er_TooMany : ErD := { cn := "TooMany", B := "ValueError", newId := "ValueError.__new__", i := "ValueError.__init__", bmB := [.type "ValueError", .type "Exception", .type "BaseException", .type "object"], qual := "TooMany.__init__", msg := "a bound is passed", file := "/claim/cut.py", params := defArgs st_TooMany_init, nms := (defScope st_TooMany_init).names, z := ⟨⟨23, 8, 23, 13⟩, ⟨23, 8, 23, 15⟩, ⟨23, 8, 23, 24⟩, ⟨23, 25, 23, 44⟩, ⟨23, 8, 23, 45⟩, ⟨23, 8, 23, 45⟩, 0⟩, fs := [("what", ⟨⟨24, 8, 24, 12⟩, ⟨24, 8, 24, 17⟩, ⟨24, 20, 24, 24⟩, ⟨24, 8, 24, 24⟩⟩), ("limit", ⟨⟨25, 8, 25, 12⟩, ⟨25, 8, 25, 18⟩, ⟨25, 21, 25, 26⟩, ⟨25, 8, 25, 26⟩⟩)] }
theorem su_TooMany : SupS2 er_TooMany.qual er_TooMany.msg "what" "limit" er_TooMany.params er_TooMany.nms er_TooMany.z (er_TooMany.fs.getD 0 ("", ⟨⟨0, 0, 0, 0⟩, ⟨0, 0, 0, 0⟩, ⟨0, 0, 0, 0⟩, ⟨0, 0, 0, 0⟩⟩)).2 (er_TooMany.fs.getD 1 ("", ⟨⟨0, 0, 0, 0⟩, ⟨0, 0, 0, 0⟩, ⟨0, 0, 0, 0⟩, ⟨0, 0, 0, 0⟩⟩)).2 where
  bind := fun _ _ _ _ _ _ _ _ _ _ => .of_eq (by first | rfl | with_unfolding_all rfl)
  hp := ⟨_, rfl, rfl⟩
  hcl := by decide
  hks := by decide +kernel
  hkc := by decide +kernel
  hka := by decide +kernel
  hkf := by decide +kernel
  hkg := by decide +kernel
  hf1 := by decide +kernel
  hf2 := by decide +kernel
  hg1 := by decide +kernel
  hg2 := by decide +kernel
  hfg := by decide +kernel
  hpos := by decide +kernel
def er : List ErD := [er_TooMany]
def xb (K : PySem.W.Frag) : Bool := (decide (PySem.W.kitOne K (.ref (He.ga K "TooMany")) (.ref (He.ga K "CombedError")) = some true) && decide (PySem.W.kitOne K (.ref (He.ga K "TooMany")) (.type "ValueError") = some true)) && (decide (PySem.W.kitOne K (.ref (He.ga K "TooMany")) (.ref (He.ga K "BadNumber")) = some false) && decide (PySem.W.exmOne K (.ref (He.ga K "TooMany")) (.ref (He.ga K "TooMany")) = some true))
abbrev R : PySem.W.OpenRow := PySem.W.OpenLaw.row PySem.Challenge.rw_combed_k23_whole_lots_counted
abbrev hk : PySem.W.Hook := hookZ 4 fa fn ex er xb
def ob (s : PySem.W.SharedT) : AlZ := obsZG 4 fa fn ex er xb (HandSHeadRun.getT s)
theorem ob_eq (s : PySem.W.SharedT) : ob s = hk.obs s.abs := obsZG_eq (HandSHeadRun.getT_eq s)
def names : List PySem.Str := (["_wall", "CombedError", "BadSheet", "BadNumber", "TooMany", "NoSuch", "DIGITS", "MOST_DIGITS", "MOST_CHARACTERS", "Lines", "is_number", "number_of", "told_number", "MOST_ARMS", "MOST_MODULUS", "Book", "reduced", "divisor", "mask_of", "lot_sums", "MOST_LOTS", "crossing_table", "_spans_cross", "share_of", "_has_balance", "lots_counted", "_masks_of", "_odds_of", "LETTERS", "LONGEST"] : List PySem.Str) ++ (["is_name", "MOST_BANDS", "MOST_NUMBER", "sheet_parts", "_read_book", "_read_word", "_read_number", "is_word", "Sheet", "_feet_of", "_law_bag", "_law_draw", "_law_of", "_law_mixed", "_law_like", "_law_red", "_law_divisor", "_law_divisors", "_law_arms", "_law_names", "_law_word", "_law_mates", "_law_bands", "_law_table", "_law_slide", "_law_do", "_law_move", "_law_twin", "_law_shift", "_law_sheet"] : List PySem.Str) ++ (["_law_rims", "_law_made", "_law_sums", "_law_steered", "_law_moved", "_law_lots", "_law_many"] : List PySem.Str)
theorem run (w : World) : HandSHeadRun.RunEqI R (PySem.W.view R.prog [0, 77]) hk ob 5000 names w := by
  show _ = _
  kernel_rfl
/-! ### small dicts with texts as keys -/
section
variable {α : Type}
def aGet (l : List (Str × α)) (k : Str) : Option α := (l.find? fun p => decide (p.1 = k)).map (·.2)
def aPut (l : List (Str × α)) (k : Str) (v : α) : List (Str × α) := if l.any (fun p => decide (p.1 = k)) then l.map (fun p => if p.1 = k then (p.1, v) else p) else l ++ [(k, v)]
def dD (f : α → V) (l : List (Str × α)) : List (Key × V) := l.map fun p => (.inr p.1, f p.2)
theorem dD_len (f : α → V) (l : List (Str × α)) : (dD f l).length = l.length := List.length_map _
theorem inr_eq {a b : Str} : (decide ((Sum.inr a : Key) = Sum.inr b)) = decide (a = b) := by
  by_cases e : a = b
  · subst e; simp
  · rw [decide_eq_false e, decide_eq_false (fun q => e (Sum.inr.inj q))]
theorem valV_dD (f : α → V) (l : List (Str × α)) (k : Str) : valV (dD f l) (.inr k) = (aGet l k).map f := by
  induction l with
  | nil => rfl
  | cons p l ih =>
    by_cases e : p.1 = k
    · have e1 : valV (dD f (p :: l)) (.inr k) = some (f p.2) := valV_pos (congrArg Sum.inr e)
      rw [e1]
      unfold aGet
      rw [List.find?_cons_of_pos (by simp [e])]
      rfl
    · have e1 : valV (dD f (p :: l)) (.inr k) = valV (dD f l) (.inr k) := valV_neg (fun q => e (Sum.inr.inj q))
      rw [e1, ih]
      unfold aGet
      rw [List.find?_cons_of_neg (by simp [e])]
theorem any_dD (f : α → V) (l : List (Str × α)) (k : Str) : (dD f l).any (fun kv => decide (kv.1 = Sum.inr k)) = l.any fun p => decide (p.1 = k) := by
  unfold dD
  rw [List.any_map]
  exact congrArg (fun g => l.any g) (funext fun p => inr_eq)
theorem putK_dD (f : α → V) (l : List (Str × α)) (k : Str) (v : α) : putK (dD f l) (.inr k) (f v) = dD f (aPut l k v) := by
  unfold putK aPut
  rw [any_dD]
  split
  · unfold dD
    rw [List.map_map, List.map_map]
    refine List.map_congr_left fun p _ => ?_
    show (if (Sum.inr p.1 : Key) = Sum.inr k then ((Sum.inr p.1 : Key), f v) else (Sum.inr p.1, f p.2)) = (Sum.inr (if p.1 = k then (p.1, v) else p).1, f (if p.1 = k then (p.1, v) else p).2)
    by_cases e : p.1 = k
    · rw [if_pos e, if_pos (by rw [e])]
    · rw [if_neg e, if_neg (fun q => e (Sum.inr.inj q))]
  · unfold dD
    rw [List.map_append]
    rfl
theorem aGet_nil (k : Str) : aGet ([] : List (Str × α)) k = none := rfl
theorem aGet_cons (p : Str × α) (l : List (Str × α)) (k : Str) : aGet (p :: l) k = if p.1 = k then some p.2 else aGet l k := by
  unfold aGet
  by_cases e : p.1 = k
  · rw [if_pos e, List.find?_cons_of_pos (by simp [e])]; rfl
  · rw [if_neg e, List.find?_cons_of_neg (by simp [e])]
theorem aGet_isSome {l : List (Str × α)} {k : Str} : (aGet l k).isSome = true ↔ k ∈ l.map (·.1) := by
  induction l with
  | nil => simp [aGet_nil]
  | cons p l ih =>
    rw [aGet_cons]
    by_cases e : p.1 = k
    · rw [if_pos e]; simp [e]
    · rw [if_neg e, ih]; simp [Ne.symm e]
theorem aGet_of_mem {l : List (Str × α)} {k : Str} (h : k ∈ l.map (·.1)) : ∃ v, aGet l k = some v ∧ (k, v) ∈ l := by
  induction l with
  | nil => simp at h
  | cons p l ih =>
    rw [aGet_cons]
    by_cases e : p.1 = k
    · exact ⟨p.2, by rw [if_pos e], by rw [← e]; exact List.mem_cons_self ..⟩
    · rw [if_neg e]
      have h' : k ∈ l.map (·.1) := by simpa [Ne.symm e] using h
      obtain ⟨v, h1, h2⟩ := ih h'
      exact ⟨v, h1, List.mem_cons_of_mem _ h2⟩
theorem aGet_mem {l : List (Str × α)} {k : Str} {v : α} (h : aGet l k = some v) : (k, v) ∈ l := by
  obtain ⟨w, h1, h2⟩ := aGet_of_mem (aGet_isSome.mp (by rw [h]; rfl))
  rw [h] at h1
  rw [Option.some.inj h1]
  exact h2
theorem aGet_none {l : List (Str × α)} {k : Str} (h : k ∉ l.map (·.1)) : aGet l k = none := by
  cases e : aGet l k with
  | none => rfl
  | some v => exact absurd (aGet_isSome.mp (by rw [e]; rfl)) h
theorem any_keys {l : List (Str × α)} {k : Str} : (l.any fun p => decide (p.1 = k)) = true ↔ k ∈ l.map (·.1) := by
  simp [List.any_eq_true]
theorem keys_put (l : List (Str × α)) (k : Str) (v : α) : (aPut l k v).map (·.1) = if k ∈ l.map (·.1) then l.map (·.1) else l.map (·.1) ++ [k] := by
  unfold aPut
  by_cases h : k ∈ l.map (·.1)
  · rw [if_pos h, if_pos (any_keys.mpr h), List.map_map]
    refine List.map_congr_left fun p _ => ?_
    show (if p.1 = k then (p.1, v) else p).1 = p.1
    split <;> rfl
  · rw [if_neg h, if_neg (fun q => h (any_keys.mp q)), List.map_append]
    rfl
theorem aGet_app {l m : List (Str × α)} {k : Str} : aGet (l ++ m) k = if k ∈ l.map (·.1) then aGet l k else aGet m k := by
  induction l with
  | nil => rfl
  | cons p l ih =>
    rw [List.cons_append, aGet_cons, aGet_cons, ih]
    by_cases e : p.1 = k
    · rw [if_pos e, if_pos (by simp [e]), if_pos e]
    · rw [if_neg e, if_neg e]
      by_cases h : k ∈ l.map (·.1)
      · rw [if_pos h, if_pos (by rw [List.map_cons]; exact List.mem_cons_of_mem _ h)]
      · rw [if_neg h, if_neg (by rw [List.map_cons, List.mem_cons]; rintro (q | q); exact e q.symm; exact h q)]
theorem aGet_map (l : List (Str × α)) (k j : Str) (v : α) : aGet (l.map fun p => if p.1 = k then (p.1, v) else p) j = if j = k then (if k ∈ l.map (·.1) then some v else none) else aGet l j := by
  induction l with
  | nil =>
    by_cases e : j = k
    · rw [if_pos e]; rfl
    · rw [if_neg e]; rfl
  | cons p l ih =>
    rw [List.map_cons, aGet_cons, ih, aGet_cons]
    by_cases e : p.1 = k
    · rw [if_pos e]
      show (if p.1 = j then some v else _) = _
      by_cases e2 : j = k
      · rw [if_pos (e.trans e2.symm), if_pos e2, if_pos (by rw [List.map_cons, e]; exact List.mem_cons_self ..)]
      · rw [if_neg (fun q => e2 (q.symm.trans e)), if_neg e2, if_neg e2, if_neg (fun q => e2 (q.symm.trans e))]
    · rw [if_neg e]
      by_cases e2 : j = k
      · rw [if_pos e2, if_neg (fun q => e (q.trans e2)), if_pos e2]
        by_cases h : k ∈ l.map (·.1)
        · rw [if_pos h, if_pos (by rw [List.map_cons]; exact List.mem_cons_of_mem _ h)]
        · rw [if_neg h, if_neg (by rw [List.map_cons, List.mem_cons]; rintro (q | q); exact e q.symm; exact h q)]
      · rw [if_neg e2, if_neg e2]
theorem aGet_put (l : List (Str × α)) (k j : Str) (v : α) : aGet (aPut l k v) j = if j = k then some v else aGet l j := by
  unfold aPut
  by_cases h : k ∈ l.map (·.1)
  · rw [if_pos (any_keys.mpr h), aGet_map, if_pos h]
  · rw [if_neg (fun q => h (any_keys.mp q)), aGet_app]
    by_cases e : j = k
    · rw [if_pos e, if_neg (by rw [e]; exact h), aGet_cons, if_pos e.symm]
    · rw [if_neg e]
      by_cases h2 : j ∈ l.map (·.1)
      · rw [if_pos h2]
      · rw [if_neg h2, aGet_cons, if_neg (Ne.symm e), aGet_nil, aGet_none h2]
theorem nodup_put {l : List (Str × α)} {k : Str} {v : α} (h : (l.map (·.1)).Nodup) : ((aPut l k v).map (·.1)).Nodup := by
  rw [keys_put]
  split
  · exact h
  · rename_i hk
    rw [List.nodup_append]
    refine ⟨h, by simp, fun a ha b hb => ?_⟩
    rw [List.mem_singleton.mp hb]
    intro e
    exact hk (e ▸ ha)
theorem aGet_nodup {l : List (Str × α)} (h : (l.map (·.1)).Nodup) {p : Str × α} (hp : p ∈ l) : aGet l p.1 = some p.2 := by
  induction l with
  | nil => simp at hp
  | cons q l ih =>
    rw [List.map_cons, List.nodup_cons] at h
    rw [aGet_cons]
    rcases List.mem_cons.mp hp with e | hp
    · subst e; rw [if_pos rfl]
    · rw [if_neg (fun e => h.1 (by rw [e]; exact List.mem_map_of_mem hp)), ih h.2 hp]
theorem mem_put {l : List (Str × α)} {k : Str} {v : α} {p : Str × α} (hp : p ∈ aPut l k v) : p = (k, v) ∨ (p ∈ l ∧ p.1 ≠ k) := by
  unfold aPut at hp
  by_cases h : k ∈ l.map (·.1)
  · rw [if_pos (any_keys.mpr h)] at hp
    obtain ⟨q, hq, e⟩ := List.mem_map.mp hp
    by_cases eq : q.1 = k
    · rw [if_pos eq] at e; left; rw [← e, eq]
    · rw [if_neg eq] at e; right; rw [← e]; exact ⟨hq, eq⟩
  · rw [if_neg (fun q => h (any_keys.mp q))] at hp
    rcases List.mem_append.mp hp with q | q
    · exact .inr ⟨q, fun e => h (e ▸ List.mem_map_of_mem q)⟩
    · exact .inl (List.mem_singleton.mp q)
theorem put_mem (l : List (Str × α)) (k : Str) (v : α) : (k, v) ∈ aPut l k v := aGet_mem (by rw [aGet_put, if_pos rfl])
theorem put_old {l : List (Str × α)} {k : Str} {v : α} {p : Str × α} (hp : p ∈ l) (h : p.1 ≠ k) : p ∈ aPut l k v := by
  unfold aPut
  split
  · exact List.mem_map.mpr ⟨p, hp, by rw [if_neg h]⟩
  · exact List.mem_append_left _ hp
theorem len_put (l : List (Str × α)) (k : Str) (v : α) : (aPut l k v).length ≤ l.length + 1 := by
  unfold aPut
  split
  · rw [List.length_map]; omega
  · rw [List.length_append]; simp
theorem len_put_in {l : List (Str × α)} {k : Str} (v : α) (h : k ∈ l.map (·.1)) : (aPut l k v).length = l.length := by
  unfold aPut
  rw [if_pos (any_keys.mpr h), List.length_map]
end
/-! ### names -/
/-- a name: a letter, at most two digits behind it -/
def IsName (s : Str) : Prop := ∃ (c : Nat) (ds : List Nat), s = SX.S (c :: ds) ∧ 97 ≤ c ∧ c ≤ 122 ∧ ds.length ≤ 2 ∧ ∀ d ∈ ds, 48 ≤ d ∧ d ≤ 57
/-- a word of feet: each name stands exactly twice -/
structure IsWord (feet : List Str) : Prop where
  two : ∀ n ∈ feet, feet.count n = 2
  nm : ∀ n ∈ feet, IsName n
/-- the bands, in the order of their first feet -/
def bandsOf (feet : List Str) : List Str := feet.foldl (fun acc n => if n ∈ acc then acc else acc ++ [n]) []
def redN (mod : Nat) (n : Int) : Int := if mod = 0 then n else n % (mod : Int)
/-- what the sheet holds of its numbers -/
def toldOf (mod : Nat) (bands : List Str) (nums : List (Str × Int)) : List (Str × Int) := bands.map fun b => (b, redN mod ((aGet nums b).getD 0))
def cntM (l : List Str) : List (Str × Int) := l.foldl (fun M n => aPut M n ((aGet M n).getD 0 + 1)) []
theorem cntM_snoc (l : List Str) (x : Str) : cntM (l ++ [x]) = aPut (cntM l) x ((aGet (cntM l) x).getD 0 + 1) := by
  unfold cntM
  rw [List.foldl_append]
  rfl
theorem snoc_ind {α : Type} {P : List α → Prop} (h0 : P []) (h1 : ∀ l x, P l → P (l ++ [x])) (l : List α) : P l := by
  have : ∀ m : List α, P m.reverse := fun m => by
    induction m with
    | nil => exact h0
    | cons x m ih =>
      rw [List.reverse_cons]
      exact h1 _ _ ih
  have h := this l.reverse
  rwa [List.reverse_reverse] at h
theorem cntM_get (l : List Str) (n : Str) : aGet (cntM l) n = if n ∈ l then some (l.count n : Int) else none := by
  induction l using snoc_ind with
  | h0 => rfl
  | h1 l x ih =>
    rw [cntM_snoc, aGet_put]
    by_cases e : n = x
    · subst e
      rw [if_pos rfl, if_pos (by simp), ih, List.count_append]
      by_cases h : n ∈ l
      · rw [if_pos h]
        simp
      · rw [if_neg h, List.count_eq_zero_of_not_mem h]
        simp
    · rw [if_neg e, ih, List.count_append]
      by_cases h : n ∈ l
      · rw [if_pos h, if_pos (List.mem_append_left _ h)]
        have : List.count n [x] = 0 := List.count_eq_zero_of_not_mem (by simpa using e)
        rw [this]
        simp
      · rw [if_neg h, if_neg (by simp [h, e])]
theorem cntM_len (l : List Str) : (cntM l).length ≤ l.length := by
  induction l using snoc_ind with
  | h0 => exact Nat.le_refl _
  | h1 l x ih =>
    rw [cntM_snoc, List.length_append, List.length_singleton]
    exact Nat.le_trans (len_put _ _ _) (by omega)
theorem bandsOf_snoc (l : List Str) (x : Str) : bandsOf (l ++ [x]) = if x ∈ bandsOf l then bandsOf l else bandsOf l ++ [x] := by
  unfold bandsOf
  rw [List.foldl_append]
  rfl
theorem mem_bandsOf (l : List Str) (n : Str) : n ∈ bandsOf l ↔ n ∈ l := by
  induction l using snoc_ind with
  | h0 => simp [bandsOf]
  | h1 l x ih =>
    rw [bandsOf_snoc]
    split
    · rename_i h
      rw [ih, List.mem_append, List.mem_singleton]
      constructor
      · exact Or.inl
      · rintro (q | q)
        · exact q
        · rw [q]
          rw [← q] at h ⊢
          exact ih.mp h
    · rw [List.mem_append, List.mem_append, ih]
theorem nodup_bandsOf (l : List Str) : (bandsOf l).Nodup := by
  induction l using snoc_ind with
  | h0 => exact List.nodup_nil
  | h1 l x ih =>
    rw [bandsOf_snoc]
    split
    · exact ih
    · rename_i h
      rw [List.nodup_append]
      refine ⟨ih, by simp, fun a ha b hb => ?_⟩
      rw [List.mem_singleton.mp hb]
      intro e
      exact h (e ▸ ha)
theorem bandsOf_len (l : List Str) : (bandsOf l).length ≤ l.length := by
  induction l using snoc_ind with
  | h0 => exact Nat.le_refl _
  | h1 l x ih =>
    rw [bandsOf_snoc, List.length_append, List.length_singleton]
    split
    · omega
    · rw [List.length_append, List.length_singleton]; omega
/-- the places of a band's two feet among these -/
def PlOf (l : List Str) (n : Str) (i j : Nat) : Prop := l[i]? = some n ∧ l[j]? = some n ∧ ∀ k, l[k]? = some n → i ≤ k ∧ k ≤ j
theorem PlOf.snoc {l : List Str} {n x : Str} {i j : Nat} (h : PlOf l n i j) (e : n ≠ x) : PlOf (l ++ [x]) n i j := by
  obtain ⟨h1, h2, h3⟩ := h
  have a1 := (List.getElem?_eq_some_iff.mp h1).1
  have a2 := (List.getElem?_eq_some_iff.mp h2).1
  refine ⟨by rw [List.getElem?_append_left a1]; exact h1, by rw [List.getElem?_append_left a2]; exact h2, fun k hk => ?_⟩
  by_cases hl : k < l.length
  · rw [List.getElem?_append_left hl] at hk
    exact h3 k hk
  · rw [List.getElem?_append_right (by omega)] at hk
    have := List.mem_singleton.mp (List.mem_of_getElem? hk)
    exact absurd this e
theorem PlOf.new {l : List Str} {x : Str} (h : x ∉ l) : PlOf (l ++ [x]) x l.length l.length := by
  have e : (l ++ [x])[l.length]? = some x := by rw [List.getElem?_append_right (Nat.le_refl _), Nat.sub_self]; rfl
  refine ⟨e, e, fun k hk => ?_⟩
  by_cases hl : k < l.length
  · rw [List.getElem?_append_left hl] at hk
    exact absurd (List.mem_of_getElem? hk) h
  · have := (List.getElem?_eq_some_iff.mp hk).1
    rw [List.length_append, List.length_singleton] at this
    exact ⟨by omega, by omega⟩
theorem PlOf.again {l : List Str} {x : Str} {i j : Nat} (h : PlOf l x i j) : PlOf (l ++ [x]) x i l.length := by
  obtain ⟨h1, h2, h3⟩ := h
  have a1 := (List.getElem?_eq_some_iff.mp h1).1
  refine ⟨by rw [List.getElem?_append_left a1]; exact h1, by rw [List.getElem?_append_right (Nat.le_refl _), Nat.sub_self]; rfl, fun k hk => ?_⟩
  by_cases hl : k < l.length
  · rw [List.getElem?_append_left hl] at hk
    exact ⟨(h3 k hk).1, by omega⟩
  · have := (List.getElem?_eq_some_iff.mp hk).1
    rw [List.length_append, List.length_singleton] at this
    exact ⟨by omega, by omega⟩
def gcdZ (ns : List Int) : Nat := ns.foldl (fun g z => Nat.gcd g z.natAbs) 0
theorem gcdZ_take {ns : List Int} {i : Nat} {z : Int} (h : ns[i]? = some z) : gcdZ (ns.take (i + 1)) = Nat.gcd (gcdZ (ns.take i)) z.natAbs := by
  unfold gcdZ
  have e : ns.take (i + 1) = ns.take i ++ [z] := by
    rw [List.take_succ, h]
    rfl
  rw [e, List.foldl_append]
  rfl
theorem dvd_foldl_gcd (d : Nat) : ∀ (ns : List Int) (g : Nat), d ∣ ns.foldl (fun g z => Nat.gcd g z.natAbs) g ↔ d ∣ g ∧ ∀ z ∈ ns, (d : Int) ∣ z
  | [], g => by simp
  | z :: ns, g => by
    rw [List.foldl_cons, dvd_foldl_gcd d ns, Nat.dvd_gcd_iff]
    constructor
    · rintro ⟨⟨h1, h2⟩, h3⟩
      exact ⟨h1, fun y hy => (List.mem_cons.mp hy).elim (fun e => by rw [e]; exact Int.ofNat_dvd_left.mpr h2) (h3 y)⟩
    · rintro ⟨h1, h2⟩
      exact ⟨⟨h1, Int.ofNat_dvd_left.mp (h2 z (List.mem_cons_self ..))⟩, fun y hy => h2 y (List.mem_cons_of_mem _ hy)⟩
theorem dvd_gcdZ (d : Nat) (ns : List Int) : d ∣ gcdZ ns ↔ ∀ z ∈ ns, (d : Int) ∣ z := by
  unfold gcdZ
  rw [dvd_foldl_gcd]
  simp
theorem gcdZ_ext {ns ms : List Int} (h : ∀ d : Nat, (∀ z ∈ ns, (d : Int) ∣ z) ↔ ∀ z ∈ ms, (d : Int) ∣ z) : gcdZ ns = gcdZ ms :=
  Nat.dvd_antisymm ((dvd_gcdZ _ _).mpr ((h _).mp ((dvd_gcdZ _ _).mp (Nat.dvd_refl _)))) ((dvd_gcdZ _ _).mpr ((h _).mpr ((dvd_gcdZ _ _).mp (Nat.dvd_refl _))))
theorem str_at {xs : List Str} {i : Nat} {y : V} (h : (xs.map V.str)[i]? = some y) : ∃ z, y = V.str z ∧ xs[i]? = some z := by
  rw [List.getElem?_map] at h
  cases e : xs[i]? with
  | none => rw [e] at h; cases h
  | some z => rw [e] at h; exact ⟨z, (Option.some.inj h).symm, rfl⟩
theorem take_snoc {α : Type} {xs : List α} {i : Nat} {x : α} (h : xs[i]? = some x) : xs.take (i + 1) = xs.take i ++ [x] := by
  rw [List.take_succ, h]
  rfl
theorem nodup_inj {α : Type} {l : List α} (h : l.Nodup) {i j : Nat} {x : α} (hi : l[i]? = some x) (hj : l[j]? = some x) : i = j := by
  induction l generalizing i j with
  | nil => simp at hi
  | cons a l ih =>
    rw [List.nodup_cons] at h
    match i, j with
    | 0, 0 => rfl
    | 0, j + 1 =>
      have e1 : a = x := by simpa using hi
      have e2 : l[j]? = some x := by simpa using hj
      exact absurd (by rw [e1]; exact List.mem_of_getElem? e2) h.1
    | i + 1, 0 =>
      have e1 : a = x := by simpa using hj
      have e2 : l[i]? = some x := by simpa using hi
      exact absurd (by rw [e1]; exact List.mem_of_getElem? e2) h.1
    | i + 1, j + 1 =>
      have e1 : l[i]? = some x := by simpa using hi
      have e2 : l[j]? = some x := by simpa using hj
      rw [ih h.2 e1 e2]
def shareZ (arm mod : Nat) (told : List (Str × Int)) : Nat := gcdZ ((arm : Int) :: (mod : Int) :: told.map (·.2))
/-! ### the law's own sheets -/
structure Own where
  arm : Nat
  mod : Nat
  feet : List Str
  nums : List (Str × Int)
structure OwnAt (H : Hp) (o fa na : Addr) (S : Own) : Prop where
  o_ : H o = some (.lst [.int S.arm, .int S.mod, .ref fa, .ref na])
  f_ : H fa = some (.lst (S.feet.map V.str))
  n_ : H na = some (.dK (dD V.int S.nums))
theorem OwnAt.same {H H' : Hp} {o fa na : Addr} {S : Own} (h : OwnAt H o fa na S) (s : Same H H') : OwnAt H' o fa na S := ⟨s _ _ h.o_, s _ _ h.f_, s _ _ h.n_⟩
theorem OwnAt.of {H : Hp} {o fa na : Addr} {S : Own} (h : OwnAt H o fa na S) : o ≠ fa ∧ o ≠ na ∧ fa ≠ na := by
  refine ⟨ne_of_some h.o_ h.f_ ?_, ne_of_some h.o_ h.n_ (by intro z; cases z), ne_of_some h.f_ h.n_ (by intro z; cases z)⟩
  intro z
  injection z with z
  cases e : S.feet with
  | nil => rw [e] at z; cases z
  | cons a l => rw [e] at z; cases z
structure Own.Ok (S : Own) : Prop where
  a1 : 1 ≤ S.arm
  a2 : S.arm ≤ 12
  m1 : S.mod ≠ 1
  m2 : S.mod ≤ 24
  wd : IsWord S.feet
  ln : S.feet.length ≤ 400
  nd : (S.nums.map (·.1)).Nodup
  kf : ∀ p ∈ S.nums, p.1 ∈ S.feet
  fk : ∀ n ∈ S.feet, n ∈ S.nums.map (·.1)
  bd : ∀ p ∈ S.nums, p.2.natAbs ≤ 1000
  nl : S.nums.length ≤ 400
/-- the first place -/
def ix (l : List Str) (x : Str) : Nat := l.findIdx fun y => decide (y = x)
theorem ix_spec {l : List Str} {x : Str} (h : x ∈ l) : l[ix l x]? = some x ∧ ∀ m, m < ix l x → l[m]? ≠ some x := by
  have hlt : ix l x < l.length := List.findIdx_lt_length_of_exists ⟨x, h, by simp⟩
  refine ⟨?_, fun m hm e => ?_⟩
  · rw [List.getElem?_eq_getElem hlt]
    have := List.findIdx_getElem (xs := l) (p := fun y => decide (y = x)) (w := hlt)
    exact congrArg some (of_decide_eq_true this)
  · have h2 := List.not_of_lt_findIdx (xs := l) (p := fun y => decide (y = x)) hm
    have hml : m < l.length := Nat.lt_trans hm hlt
    rw [List.getElem?_eq_getElem hml] at e
    have e2 := Option.some.inj e
    exact absurd (by simpa using h2) (by simpa using e2)
/-- the other place of y beside a -/
def farOf (l : List Str) (y : Str) (a : Nat) : Nat := if ix l y = a then a + 1 + ix (l.drop (a + 1)) y else ix l y
def nb (p : Nat) (plus : Bool) : Nat := if plus = true then p + 1 else p - 1
def sgnB (c : Bool) : Int := if c = true then -1 else 1
def sl_left (S : Own) (p : Nat) : List Str := S.feet.take p ++ S.feet.drop (p + 1)
def sl_at (p : Nat) (plus : Bool) : Nat := if plus = true then p else p - 1
def sl_spot (S : Own) (p : Nat) (plus : Bool) (y : Str) : Nat := if plus = true then farOf (sl_left S p) y (sl_at p plus) + 1 else farOf (sl_left S p) y (sl_at p plus)
def ins (l : List Str) (k : Nat) (x : Str) : List Str := l.take k ++ x :: l.drop k
def sl_feet (S : Own) (p : Nat) (plus : Bool) (x y : Str) : List Str := ins (sl_left S p) (sl_spot S p plus y) x
def sl_before (S : Own) (p : Nat) (x : Str) : Int := sgnB (decide (ix S.feet x < p))
def sl_along (S : Own) (p : Nat) (plus : Bool) (y : Str) : Int := sgnB (decide (ix S.feet y = nb p plus))
def sl_behind (S : Own) (p : Nat) (plus : Bool) (x y : Str) : Int := sgnB (decide (ix (sl_feet S p plus x y) x < sl_spot S p plus y))
def sgS (plus : Bool) : Int := if plus = true then 1 else -1
def sl_worth (S : Own) (p : Nat) (plus : Bool) (x y : Str) (nx ny : Int) : Int :=
  -(sl_before S p x) * nx - sl_along S p plus y * ny + (S.arm : Int) * ((sl_before S p x + sgS plus + sl_along S p plus y - sl_behind S p plus x y) / 2)
/-- a slide of the band at p along its neighbour -/
def slideS (S : Own) (p : Nat) (plus : Bool) (x y : Str) (nx ny : Int) : Own :=
  ⟨S.arm, S.mod, sl_feet S p plus x y, aPut S.nums x (redN S.mod (-(sl_behind S p plus x y) * sl_worth S p plus x y nx ny))⟩
structure Slide (S S' : Own) : Prop where
  ex : ∃ (p : Nat) (plus : Bool) (x y : Str) (nx ny : Int), S.feet[p]? = some x ∧ S.feet[nb p plus]? = some y ∧ (plus = false → 1 ≤ p) ∧ x ≠ y ∧ aGet S.nums x = some nx ∧ aGet S.nums y = some ny ∧ S' = slideS S p plus x y nx ny
def turnS (S : Own) (n : Str) (z : Int) (fs : List Str) : Own := ⟨S.arm, S.mod, fs, aPut S.nums n (redN S.mod (2 * (S.arm : Int) - z))⟩
inductive Step (S S' : Own) : Prop where
  | slide (h : Slide S S')
  | turn (n : Str) (z : Int) (r : List Str) (e : S.feet = n :: r) (g : aGet S.nums n = some z) (h : S' = turnS S n z (r ++ [n]))
  | unturn (n : Str) (z : Int) (r : List Str) (e : S.feet = r ++ [n]) (g : aGet S.nums n = some z) (h : S' = turnS S n z (n :: r))
theorem dvd_redN {d : Nat} {mod : Nat} {n : Int} (h : (d : Int) ∣ (mod : Int)) : (d : Int) ∣ redN mod n ↔ (d : Int) ∣ n := by
  unfold redN
  split
  · exact Iff.rfl
  · rw [Int.dvd_iff_emod_eq_zero, Int.dvd_iff_emod_eq_zero, Int.emod_emod_of_dvd _ h]
theorem IsWord.perm {l m : List Str} (h : IsWord l) (p : l.Perm m) : IsWord m :=
  ⟨fun n hn => by rw [← p.count_eq]; exact h.two n (p.mem_iff.mpr hn), fun n hn => h.nm n (p.mem_iff.mpr hn)⟩
theorem sl_perm {S : Own} {p : Nat} {plus : Bool} {x y : Str} (h : S.feet[p]? = some x) : S.feet.Perm (sl_feet S p plus x y) := by
  have hp := List.getElem?_eq_some_iff.mp h
  have e1 : S.feet = S.feet.take p ++ x :: S.feet.drop (p + 1) := by
    have := List.take_append_drop p S.feet
    rw [List.drop_eq_getElem_cons hp.1, hp.2] at this
    exact this.symm
  have p1 : S.feet.Perm (x :: sl_left S p) := by
    have h2 : (S.feet.take p ++ x :: S.feet.drop (p + 1)).Perm (x :: sl_left S p) := List.perm_middle
    rwa [← e1] at h2
  refine p1.trans ?_
  have h3 : (ins (sl_left S p) (sl_spot S p plus y) x).Perm (x :: ((sl_left S p).take (sl_spot S p plus y) ++ (sl_left S p).drop (sl_spot S p plus y))) := List.perm_middle
  rw [List.take_append_drop] at h3
  exact h3.symm
theorem Step.perm {S S' : Own} (h : Step S S') : S.feet.Perm S'.feet := by
  cases h with
  | slide h =>
    obtain ⟨p, plus, x, y, nx, ny, h1, _, _, _, _, _, rfl⟩ := h.ex
    exact sl_perm h1
  | turn n z r e g h =>
    subst h
    rw [e]
    exact (List.perm_append_singleton n r).symm
  | unturn n z r e g h =>
    subst h
    rw [e]
    exact List.perm_append_singleton n r
theorem Step.same {S S' : Own} (h : Step S S') : S'.arm = S.arm ∧ S'.mod = S.mod := by
  cases h with
  | slide h =>
    obtain ⟨p, plus, x, y, nx, ny, h1, _, _, _, _, _, rfl⟩ := h.ex
    exact ⟨rfl, rfl⟩
  | turn n z r e g h => subst h; exact ⟨rfl, rfl⟩
  | unturn n z r e g h => subst h; exact ⟨rfl, rfl⟩
theorem Step.put {S S' : Own} (h : Step S S') : ∃ n z, n ∈ S.nums.map (·.1) ∧ S'.nums = aPut S.nums n z := by
  have key : ∀ {n : Str} {z : Int}, aGet S.nums n = some z → n ∈ S.nums.map (·.1) := fun g => aGet_isSome.mp (by rw [g]; rfl)
  cases h with
  | slide h =>
    obtain ⟨p, plus, x, y, nx, ny, h1, _, _, _, g, _, rfl⟩ := h.ex
    exact ⟨x, _, key g, rfl⟩
  | turn n z r e g h => subst h; exact ⟨n, _, key g, rfl⟩
  | unturn n z r e g h => subst h; exact ⟨n, _, key g, rfl⟩
/-- all but the bound -/
theorem Step.ok {S S' : Own} (h : Step S S') (k : S.Ok) (b : ∀ p ∈ S'.nums, p.2.natAbs ≤ 1000) : S'.Ok := by
  obtain ⟨e1, e2⟩ := h.same
  obtain ⟨n, z, hn, ep⟩ := h.put
  have ek : S'.nums.map (·.1) = S.nums.map (·.1) := by rw [ep, keys_put, if_pos hn]
  refine ⟨by rw [e1]; exact k.a1, by rw [e1]; exact k.a2, by rw [e2]; exact k.m1, by rw [e2]; exact k.m2, k.wd.perm h.perm, by rw [← h.perm.length_eq]; exact k.ln, by rw [ek]; exact k.nd, fun p hp => ?_, fun m hm => ?_, b, by rw [ep, len_put_in _ hn]; exact k.nl⟩
  · have : p.1 ∈ S.nums.map (·.1) := by rw [← ek]; exact List.mem_map_of_mem hp
    obtain ⟨q, hq, e⟩ := List.mem_map.mp this
    have e' : q.1 = p.1 := e
    rw [← e']
    exact h.perm.mem_iff.mp (k.kf q hq)
  · rw [ek]
    exact k.fk m (h.perm.mem_iff.mpr hm)
def partN (S : Own) : Nat := shareZ S.arm S.mod S.nums
theorem dvd_put {l : List (Str × Int)} {n : Str} {v : Int} {d : Nat} : (∀ p ∈ aPut l n v, (d : Int) ∣ p.2) ↔ (d : Int) ∣ v ∧ ∀ p ∈ l, p.1 ≠ n → (d : Int) ∣ p.2 := by
  constructor
  · intro h
    exact ⟨h _ (put_mem l n v), fun p hp hn => h p (put_old hp hn)⟩
  · rintro ⟨h1, h2⟩ p hp
    rcases mem_put hp with e | ⟨hp, hn⟩
    · rw [e]; exact h1
    · exact h2 p hp hn
theorem dvd_all {l : List (Str × Int)} (nd : (l.map (·.1)).Nodup) {n : Str} {z : Int} (g : aGet l n = some z) {d : Nat} : (∀ p ∈ l, (d : Int) ∣ p.2) ↔ (d : Int) ∣ z ∧ ∀ p ∈ l, p.1 ≠ n → (d : Int) ∣ p.2 := by
  constructor
  · intro h
    exact ⟨h (n, z) (aGet_mem g), fun p hp _ => h p hp⟩
  · rintro ⟨h1, h2⟩ p hp
    by_cases e : p.1 = n
    · have := aGet_nodup nd hp
      rw [e, g] at this
      rw [← Option.some.inj this]
      exact h1
    · exact h2 p hp e
theorem sgnB_or (c : Bool) : sgnB c = 1 ∨ sgnB c = -1 := by
  cases c
  · exact .inl rfl
  · exact .inr rfl
theorem dvd_sg {d : Nat} {s z : Int} (h : s = 1 ∨ s = -1) : (d : Int) ∣ -s * z ↔ (d : Int) ∣ z := by
  rcases h with h | h
  · rw [h, show -(1 : Int) * z = -z by omega, Int.dvd_neg]
  · rw [h, show -(-1 : Int) * z = z by omega]
theorem dvd_worth {d : Nat} {b a t nx ny arm : Int} (hb : b = 1 ∨ b = -1) (hy : (d : Int) ∣ ny) (ha : (d : Int) ∣ arm) : (d : Int) ∣ -b * nx - a * ny + arm * t ↔ (d : Int) ∣ nx := by
  have h1 : (d : Int) ∣ arm * t := Int.dvd_trans ha (Int.dvd_mul_right ..)
  have h2 : (d : Int) ∣ a * ny := Int.dvd_trans hy (Int.dvd_mul_left ..)
  rw [Int.add_comm, Int.dvd_add_right h1, Int.sub_eq_add_neg, Int.add_comm, Int.dvd_add_right (Int.dvd_neg.mpr h2), dvd_sg hb]
theorem Step.dv {S S' : Own} (h : Step S S') (k : S.Ok) {d : Nat} (ha : (d : Int) ∣ (S.arm : Int)) (hm : (d : Int) ∣ (S.mod : Int)) : (∀ p ∈ S'.nums, (d : Int) ∣ p.2) ↔ ∀ p ∈ S.nums, (d : Int) ∣ p.2 := by
  cases h with
  | slide h =>
    obtain ⟨p, plus, x, y, nx, ny, _, _, _, hxy, g, gy, rfl⟩ := h.ex
    show (∀ p ∈ aPut S.nums x _, _) ↔ _
    rw [dvd_put, dvd_all k.nd g]
    refine and_congr_left fun hr => ?_
    rw [dvd_redN hm, dvd_sg (show sl_behind S p plus x y = 1 ∨ sl_behind S p plus x y = -1 from sgnB_or _)]
    exact dvd_worth (b := sl_before S p x) (a := sl_along S p plus y) (sgnB_or _) (hr (y, ny) (aGet_mem gy) (Ne.symm hxy)) ha
  | turn n z r e g h =>
    subst h
    show (∀ p ∈ aPut S.nums n _, _) ↔ _
    rw [dvd_put, dvd_all k.nd g]
    refine and_congr_left fun hr => ?_
    rw [dvd_redN hm, Int.sub_eq_add_neg, Int.dvd_add_right (Int.dvd_trans ha (Int.dvd_mul_left ..)), Int.dvd_neg]
  | unturn n z r e g h =>
    subst h
    show (∀ p ∈ aPut S.nums n _, _) ↔ _
    rw [dvd_put, dvd_all k.nd g]
    refine and_congr_left fun hr => ?_
    rw [dvd_redN hm, Int.sub_eq_add_neg, Int.dvd_add_right (Int.dvd_trans ha (Int.dvd_mul_left ..)), Int.dvd_neg]
theorem dvd_shareZ {d arm mod : Nat} {l : List (Str × Int)} : (∀ z ∈ ((arm : Int) :: (mod : Int) :: l.map (·.2)), (d : Int) ∣ z) ↔ (d : Int) ∣ (arm : Int) ∧ (d : Int) ∣ (mod : Int) ∧ ∀ p ∈ l, (d : Int) ∣ p.2 := by
  simp only [List.mem_cons, List.mem_map]
  constructor
  · intro h
    exact ⟨h _ (.inl rfl), h _ (.inr (.inl rfl)), fun p hp => h _ (.inr (.inr ⟨p, hp, rfl⟩))⟩
  · rintro ⟨h1, h2, h3⟩ z (e | e | ⟨p, hp, e⟩)
    · rw [e]; exact h1
    · rw [e]; exact h2
    · rw [← e]; exact h3 p hp
theorem Step.part {S S' : Own} (h : Step S S') (k : S.Ok) : partN S' = partN S := by
  obtain ⟨e1, e2⟩ := h.same
  unfold partN shareZ
  refine gcdZ_ext fun d => ?_
  rw [dvd_shareZ, dvd_shareZ, e1, e2]
  exact and_congr_right fun ha => and_congr_right fun hm => h.dv k ha hm
/-- what a sheet tells, from the numbers put in -/
theorem share_told {arm mod : Nat} {feet : List Str} {nums : List (Str × Int)} (kf : ∀ p ∈ nums, p.1 ∈ feet) (fk : ∀ n ∈ feet, n ∈ nums.map (·.1)) (nd : (nums.map (·.1)).Nodup) : shareZ arm mod (toldOf mod (bandsOf feet) nums) = shareZ arm mod nums := by
  unfold shareZ
  refine gcdZ_ext fun d => ?_
  rw [dvd_shareZ, dvd_shareZ]
  refine and_congr_right fun ha => and_congr_right fun hm => ?_
  unfold toldOf
  constructor
  · intro h p hp
    have := h (p.1, redN mod ((aGet nums p.1).getD 0)) (List.mem_map.mpr ⟨p.1, (mem_bandsOf _ _).mpr (kf p hp), rfl⟩)
    rw [aGet_nodup nd hp] at this
    exact (dvd_redN hm).mp this
  · intro h p hp
    obtain ⟨b, hb, e⟩ := List.mem_map.mp hp
    rw [← e]
    refine (dvd_redN hm).mpr ?_
    obtain ⟨v, e1, e2⟩ := aGet_of_mem (fk b ((mem_bandsOf _ _).mp hb))
    rw [e1]
    exact h _ e2
/-! ### the law's names -/
def tailsL : List (List Nat) := [[]] ++ (List.range 10).map TL.numL ++ (List.range 100).map fun k => TL.numL (k / 10) ++ TL.numL (k % 10)
theorem tails_len : tailsL.length = 111 := by decide +kernel
theorem tails_nd : tailsL.Nodup := by decide +kernel
theorem tails_ok : ∀ t ∈ tailsL, t.length ≤ 2 ∧ ∀ d ∈ t, 48 ≤ d ∧ d ≤ 57 := by decide +kernel
def nameL (look first start k : Nat) : List Nat := (97 + (first + 5 * k * (if 0 < look then 1 else 0)) % 26) :: (if look = 2 then [] else tailsL.getD ((start + 7 * k) % 111) [])
theorem tails_at (i : Nat) : tailsL[i % 111]? = some (tailsL.getD (i % 111) []) := by
  have h : i % 111 < tailsL.length := by rw [tails_len]; omega
  rw [List.getElem?_eq_getElem h, List.getD_eq_getElem?_getD, List.getElem?_eq_getElem h]
  rfl
theorem nameL_ok (look first start k : Nat) : IsName (SX.S (nameL look first start k)) := by
  refine ⟨_, _, rfl, by omega, by omega, ?_, ?_⟩
  · split
    · exact Nat.zero_le _
    · exact (tails_ok _ (List.mem_of_getElem? (tails_at _))).1
  · split
    · intro d hd; cases hd
    · exact (tails_ok _ (List.mem_of_getElem? (tails_at _))).2
theorem nameL_inj {look first start j k : Nat} (hj : j < 26) (hk : k < 26) (h : nameL look first start j = nameL look first start k) : j = k := by
  unfold nameL at h
  injection h with h1 h2
  by_cases e : look = 2
  · rw [e] at h1
    have h3 : (97 + (first + 5 * j * 1) % 26) = 97 + (first + 5 * k * 1) % 26 := h1
    omega
  · rw [if_neg e, if_neg e] at h2
    have h3 := tails_at (start + 7 * j)
    have h4 := tails_at (start + 7 * k)
    rw [h2] at h3
    have := nodup_inj tails_nd h3 h4
    omega
theorem names_nd (look first start many : Nat) (h : many ≤ 26) : ((List.range many).map fun k => SX.S (nameL look first start k)).Nodup := by
  refine List.pairwise_map.mpr ?_
  refine List.Pairwise.imp_of_mem ?_ (List.nodup_range (n := many))
  intro a b ha hb hn e
  have h1 := List.mem_range.mp ha
  have h2 := List.mem_range.mp hb
  exact hn (nameL_inj (by omega) (by omega) (SX.S_inj e))
theorem word_twice {ns feet : List Str} (hp : feet.Perm (ns ++ ns)) (hn : ns.Nodup) (hk : ∀ n ∈ ns, IsName n) : IsWord feet := by
  have key : ∀ n ∈ feet, n ∈ ns := fun n h => by
    have := hp.mem_iff.mp h
    rcases List.mem_append.mp this with q | q <;> exact q
  refine ⟨fun n h => ?_, fun n h => hk n (key n h)⟩
  rw [hp.count_eq, List.count_append, hn.count, if_pos (key n h)]
section
variable {P : Program} {w : World} {K : PySem.W.Frag} {mg : Str → Option Value} {base : Heap} {f : Addr} {fd : FuncData}
/-! ### the bag: made, drawn from -/
def spBag (K : PySem.W.Frag) : Sp := fun vs H Q _ => ∃ (a : Addr) (ns : List Int), vs = [.ref a] ∧ SqL K H a (ns.map V.int) ∧ ns.length ≤ 63 ∧ ∀ b l H', H b = none → H l = none → BagAt H' b l → Same H H' → Q (.ref b) H'
def spDraw : Sp := fun vs H Q _ => ∃ (b l : Addr) (n : Int), vs = [.ref b, .int n] ∧ BagAt H b l ∧ 0 < n ∧ n < 1073741824 ∧ ∀ (r : Nat) H', (r : Int) < n → BagAt H' b l → Kp b H H' → Q (.int (r : Nat)) H'
def spOf : Sp := fun vs H Q _ => ∃ (b l p : Addr) (xs : List V), vs = [.ref b, .ref p] ∧ BagAt H b l ∧ p ≠ b ∧ H p = some (.lst xs) ∧ 0 < xs.length ∧ xs.length < 1073741824 ∧ ∀ (i : Nat) (v : V) H', xs[i]? = some v → BagAt H' b l → Kp b H H' → Q v H'
theorem cut63 {ns : List Int} (h : ns.length ≤ 63) : cutV (ns.map V.int) none (some 63) = ns.map V.int := by
  unfold cutV
  have e1 : HT.sIx (ns.map V.int).length 0 none = 0 := rfl
  have e2 : HT.sIx (ns.map V.int).length (ns.map V.int).length (some 63) = ns.length := by
    rw [List.length_map]
    unfold HT.sIx
    simp
    omega
  rw [e1, e2, List.drop_zero]
  exact List.take_of_length_le (by rw [List.length_map]; omega)
theorem ok_bag (B : Bi K mg) (F : FnP K "_law_bag" st_l_bag f fd) : FnOk P w K mg base CX0 1 f fd ["script"] (spBag K) := by
  refine F.ok sc_l_bag (fun vs H Q E h => ?_) (fun cdv A outer s H vs Q E hr h => ?_)
  · obtain ⟨a, ns, rfl, _⟩ := h
    rfl
  · obtain ⟨a, ns, rfl, hS, hl, k⟩ := h
    have G := B
    refine ⟨_, PSs.nox ((pss_cons (ps_set (i := 1) sc_l_bag.nd rfl (Or.inl rfl) pe_int)
      (pss_cons (ps_for PassesOwn.never rfl (pi_list (pe_slice sl_list (pv 0) po_none (po_some pe_int))) (pg_name (i := 2) sc_l_bag.nd rfl (Or.inl rfl))
        (pss_one (ps_set (i := 1) sc_l_bag.nd rfl (Or.inl rfl) (pe_op op_mod (pe_callTy call_intI (by rfl) G.int (by decide +kernel) (pa_cons (pe_op op_add (pe_op op_add (pe_op op_mul (pv 1) pe_int) (pe_op op_mod (pe_callTy call_intI (by rfl) G.int (by decide +kernel) (pa_cons (pv 2) pa_nil)) pe_int)) pe_int) pa_nil)) pe_int))))
      (pss_one (ps_ret (pe_lst (pa_cons (pe_callTy callListS (by rfl) G.list (by decide +kernel) (pa_cons (pe_slice sl_list (pv 0) po_none (po_some pe_int)) pa_nil)) (pa_cons pe_int (pa_cons pe_int (pa_cons pe_int (pa_cons (pv 1) (pa_cons pe_int pa_nil)))))))))))), ?_⟩
    try dsimp only [cxOf]
    walk_at "go"
    refine x_slL hS fun p hp => ?_
    rw [cut63 hl]
    refine w_forL (xs := ns.map V.int) (SqL.of upd_same) (fun i σ H' => H' = upd H p (.lst (ns.map V.int)) ∧ ∃ (x : Int) (c : Option V), σ = [some (.ref a), some (.int x), c] ∧ 0 ≤ x ∧ x < 2147483549) ⟨rfl, _, none, rfl, by decide, by decide⟩ (fun i σ H' _ ⟨e, _⟩ => by rw [e]; exact SqL.of upd_same) ?_ ?_
    · rintro i y σ H' hi ⟨rfl, x, c, rfl, hx0, hx1⟩
      obtain ⟨z, rfl, _⟩ := int_at hi
      walk_at "go"
      exact ⟨rfl, _, some (.int z), rfl, Int.emod_nonneg _ (by decide), Int.emod_lt_of_pos _ (by decide)⟩
    · rintro σ H' ⟨rfl, x, c, rfl, hx0, hx1⟩
      walk_at "go"
      refine x_slL (Same.sql (Same.new hp) hS) fun q hq => ?_
      rw [cut63 hl]
      walk_at "go"
      refine x_listL (SqL.of upd_same) fun l hl' => ?_
      walk_at "go"
      refine ⟨by show 6 ≤ sizeLine; decide, fun b hb => ?_⟩
      have s2 : Same H (upd (upd (upd H p (.lst (ns.map V.int))) q (.lst (ns.map V.int))) l (.lst (ns.map V.int))) := Same.trans (Same.trans (Same.new hp) (Same.new hq)) (Same.new hl')
      have s3 := Same.trans s2 (Same.new (o := HO.lst [.ref l, .int 0, .int 0, .int 0, .int x, .int 0]) hb)
      refine k b l _ (Same.free s2 hb) (Same.free (Same.trans (Same.new hp) (Same.new hq)) hl') ⟨ns, 0, 0, 0, x, 0, upd_same, ?_, hl, by decide, hx0, hx1⟩ s3
      exact upd_old hb upd_same
theorem ok_draw (B : Bi K mg) (F : FnP K "_law_draw" st_l_draw f fd) : FnOk P w K mg base CX0 1 f fd ["bag", "many"] spDraw := by
  refine F.ok sc_l_draw (fun vs H Q E h => ?_) (fun cdv A outer s H vs Q E hr h => ?_)
  · obtain ⟨b, l, n, rfl, _⟩ := h
    rfl
  · obtain ⟨b, l, n, rfl, hB, hn0, hn1, k0⟩ := h
    have k : ∀ (r : Int) H', 0 ≤ r → r < n → BagAt H' b l → Kp b H H' → Q (.int r) H' := fun r H' h0 h1 hB hk => by
      obtain ⟨m, rfl⟩ := Int.eq_ofNat_of_zero_le h0
      exact k0 m H' h1 hB hk
    have G := B
    have nlb := hB.ne
    obtain ⟨ns, i, g, e, x, c, hb, hL, hlen, hg, hx0, hx1⟩ := hB.ex
    refine ⟨_, PSs.nox ((pss_cons (ps_asg (pe_op op_add (pe_ix ix_list (pv 0) pe_int (fun _ _ => rfl)) pe_int) (pg_sub (pv 0) pe_int set_list))
      (C8.pss_cut (ps_if (PW.pt (pw_and (pt_cmpR op_eq (pe_ix ix_list (pv 0) pe_int (fun _ _ => rfl)) pe_int (nomark _)) (pw_and1 (pt_cmpR op_lt (pe_ix ix_list (pv 0) pe_int (fun _ _ => rfl)) (pe_callB callLenS (by rfl) G.len PySem.boot_len (pa_cons (pe_ix ix_list (pv 0) pe_int (fun _ _ => rfl)) pa_nil)) (nomark _)))))
        (pss_cons (ps_set (i := 2) sc_l_draw.nd rfl (Or.inl rfl) (pe_ix ix_list (pe_ix ix_list (pv 0) pe_int (fun _ _ => rfl)) (pe_ix ix_list (pv 0) pe_int (fun _ _ => rfl)) (fun _ _ => rfl)))
        (pss_cons (ps_asg (pe_op op_add (pe_ix ix_list (pv 0) pe_int (fun _ _ => rfl)) pe_int) (pg_sub (pv 0) pe_int set_list))
        (pss_one (ps_if (pt_cmpR op_ge (pv 2) (pe_op op_pow pe_int pe_int) (nomark _))
          (pss_cons (ps_asg (pv 2) (pg_sub (pv 0) pe_int set_list))
          (pss_one (ps_asg pe_int (pg_sub (pv 0) pe_int set_list))))
          (pss_one (ps_asg (pe_op op_mod (pe_callTy call_intI (by rfl) G.int (by decide +kernel) (pa_cons (pe_op op_add (pe_op op_add (pe_op op_mul (pe_ix ix_list (pv 0) pe_int (fun _ _ => rfl)) pe_int) (pe_op op_mul (pe_op op_mod (pe_callTy call_intI (by rfl) G.int (by decide +kernel) (pa_cons (pv 2) pa_nil)) pe_int) pe_int)) pe_int) pa_nil)) pe_int) (pg_sub (pv 0) pe_int set_list)))))))
        pss_nil)
      (pss_cons (ps_if (pt_cmpR op_gt (pe_ix ix_list (pv 0) pe_int (fun _ _ => rfl)) pe_int (nomark _))
        (pss_cons (ps_set (i := 3) sc_l_draw.nd rfl (Or.inl rfl) (pe_op op_mod (pe_callTy call_intI (by rfl) G.int (by decide +kernel) (pa_cons (pe_ix ix_list (pv 0) pe_int (fun _ _ => rfl)) pa_nil)) (pv 1)))
        (pss_cons (ps_asg (pe_op op_sub (pe_ix ix_list (pv 0) pe_int (fun _ _ => rfl)) pe_int) (pg_sub (pv 0) pe_int set_list))
        (pss_cons (ps_asg (pe_ifExp (pt_cmpR op_gt (pe_ix ix_list (pv 0) pe_int (fun _ _ => rfl)) pe_int (nomark _)) (pe_op op_fdiv (pe_ix ix_list (pv 0) pe_int (fun _ _ => rfl)) (pv 1)) pe_int) (pg_sub (pv 0) pe_int set_list))
        (pss_one (ps_ret (pv 3))))))
        pss_nil)
      (pss_cons (ps_asg (pe_op op_mod (pe_callTy call_intI (by rfl) G.int (by decide +kernel) (pa_cons (pe_op op_add (pe_op op_add (pe_op op_pow (pe_ix ix_list (pv 0) pe_int (fun _ _ => rfl)) pe_int) (pe_op op_mul (pe_ix ix_list (pv 0) pe_int (fun _ _ => rfl)) pe_int)) pe_int) pa_nil)) pe_int) (pg_sub (pv 0) pe_int set_list))
      (pss_one (ps_ret (pe_op op_mod (pe_callTy call_intI (by rfl) G.int (by decide +kernel) (pa_cons (pe_op op_add (pe_op op_fdiv (pe_ix ix_list (pv 0) pe_int (fun _ _ => rfl)) pe_int) (pe_op op_mul (pe_op op_mod (pe_callTy call_intI (by rfl) G.int (by decide +kernel) (pa_cons (pe_ix ix_list (pv 0) pe_int (fun _ _ => rfl)) pa_nil)) pe_int) pe_int)) pa_nil)) (pv 1))))))))), ?_⟩
    have bump : ∀ y, (upd H b (.lst ([.ref l, .int i, .int g, .int e, .int x, .int c].set (Int.toNat 5) y))) = upd H b (.lst [.ref l, .int i, .int g, .int e, .int x, y]) := fun y => rfl
    try dsimp only [cxOf]
    walk_at "go"
    rw [bump]
    refine x_cut (fun σ H1 => ∃ (i1 : Nat) (g1 e1 x1 : Int) (u v : Option V), σ = [some (.ref b), some (.int n), u, v] ∧ Kp b H H1 ∧ H1 b = some (.lst [.ref l, .int i1, .int g1, .int e1, .int x1, .int (c + 1)]) ∧ H1 l = some (.lst (ns.map V.int)) ∧ 0 ≤ g1 ∧ 0 ≤ x1 ∧ x1 < 2147483549) ?_ ?_
    · walk_at "go"
      have bump1 : ∀ y z, ([V.ref l, .int i, .int g, .int e, .int x, y].set (Int.toNat 1) z) = [V.ref l, z, .int g, .int e, .int x, y] := fun y z => rfl
      have bump2 : ∀ y z u, ([V.ref l, u, .int g, .int e, .int x, y].set (Int.toNat 2) z) = [V.ref l, u, z, .int e, .int x, y] := fun y z u => rfl
      have bump3 : ∀ y z u t, ([V.ref l, u, t, .int e, .int x, y].set (Int.toNat 3) z) = [V.ref l, u, t, z, .int x, y] := fun y z u t => rfl
      have bump4 : ∀ y z u, ([V.ref l, u, .int g, .int e, .int x, y].set (Int.toNat 4) z) = [V.ref l, u, .int g, .int e, z, y] := fun y z u => rfl
      have kp0 : ∀ o, Kp b H (upd H b o) := fun o => Kp.upd Kp.refl
      have hL' : ∀ o, upd H b o l = some (.lst (ns.map V.int)) := fun o => upd_oth nlb hL
      have other : ∃ (i1 : Nat) (g1 e1 x1 : Int) (u v : Option V), L2.start ["bag", "many", "cell", "digit"] [V.ref b, V.int n] = [some (.ref b), some (.int n), u, v] ∧ Kp b H (upd H b (.lst [.ref l, .int i, .int g, .int e, .int x, .int (c + 1)])) ∧ (upd H b (.lst [.ref l, .int i, .int g, .int e, .int x, .int (c + 1)])) b = some (.lst [.ref l, .int i1, .int g1, .int e1, .int x1, .int (c + 1)]) ∧ (upd H b (.lst [.ref l, .int i, .int g, .int e, .int x, .int (c + 1)])) l = some (.lst (ns.map V.int)) ∧ 0 ≤ g1 ∧ 0 ≤ x1 ∧ x1 < 2147483549 :=
        ⟨i, g, e, x, none, none, rfl, kp0 _, upd_same, hL' _, hg, hx0, hx1⟩
      refine x_iteD (fun hg0 => ?_) (fun hg0 => ?_)
      · walk_at "go"
        refine x_iteD (fun hi => ?_) (fun hi => ?_)
        · rw [List.length_map] at hi
          obtain ⟨z, hz⟩ : ∃ z, (ns.map V.int)[i]? = some (.int z) := ⟨ns[i]'(by omega), by rw [List.getElem?_map, List.getElem?_eq_getElem (by omega)]; rfl⟩
          walk_at "go"
          refine x_ixL (hL' _ |> SqL.of) (atI_of rfl hz) ?_
          walk_at "go"
          rw [bump1, upd_upd]
          refine x_iteD (fun hc => ?_) (fun hc => ?_)
          · walk_at "go"
            rw [bump2, upd_upd]
            walk_at "go"
            rw [bump3, upd_upd]
            have hc' : (1000000000000000000 : Int) ≤ z := hc
            exact ⟨i + 1, z, 60, x, some (.int z), none, rfl, kp0 _, upd_same, hL' _, by omega, hx0, hx1⟩
          · walk_at "go"
            rw [bump4, upd_upd]
            exact ⟨i + 1, g, e, _, some (.int z), none, rfl, kp0 _, upd_same, hL' _, hg, Int.emod_nonneg _ (by decide), Int.emod_lt_of_pos _ (by decide)⟩
        · walk_at "go"
          exact other
      · walk_at "go"
        exact other
    · rintro σ H1 ⟨i1, g1, e1, x1, u, v, rfl, kp, hb1, hL1, hg1, hx1', hx2⟩
      have bump2 : ∀ z y, ([V.ref l, .int i1, .int g1, y, .int x1, .int (c + 1)].set (Int.toNat 2) z) = [V.ref l, .int i1, z, y, .int x1, .int (c + 1)] := fun z y => rfl
      have bump3 : ∀ z, ([V.ref l, .int i1, .int g1, .int e1, .int x1, .int (c + 1)].set (Int.toNat 3) z) = [V.ref l, .int i1, .int g1, z, .int x1, .int (c + 1)] := fun z => rfl
      have bump4 : ∀ z, ([V.ref l, .int i1, .int g1, .int e1, .int x1, .int (c + 1)].set (Int.toNat 4) z) = [V.ref l, .int i1, .int g1, .int e1, z, .int (c + 1)] := fun z => rfl
      have hL2 : ∀ o, upd H1 b o l = some (.lst (ns.map V.int)) := fun o => upd_oth nlb hL1
      walk_at "go"
      refine x_iteD (fun hg0 => ?_) (fun hg0 => ?_)
      · walk_at "go"
        rw [bump3]
        refine x_iteD (fun hd => ?_) (fun hd => ?_)
        · walk_at "go"
          rw [bump2, upd_upd]
          exact k _ _ (Int.emod_nonneg _ (by omega)) (Int.emod_lt_of_pos _ hn0) ⟨ns, i1, _, _, x1, c + 1, upd_same, hL2 _, hlen, Int.ediv_nonneg hg1 (by omega), hx1', hx2⟩ (Kp.upd kp)
        · walk_at "go"
          rw [bump2, upd_upd]
          exact k _ _ (Int.emod_nonneg _ (by omega)) (Int.emod_lt_of_pos _ hn0) ⟨ns, i1, _, _, x1, c + 1, upd_same, hL2 _, hlen, Int.le_refl _, hx1', hx2⟩ (Kp.upd kp)
      · walk_at "go"
        rw [bump4]
        exact k _ _ (Int.emod_nonneg _ (by omega)) (Int.emod_lt_of_pos _ hn0) ⟨ns, i1, g1, e1, _, c + 1, upd_same, hL2 _, hlen, hg1, Int.emod_nonneg _ (by decide), Int.emod_lt_of_pos _ (by decide)⟩ (Kp.upd kp)
theorem ok_of (B : Bi K mg) (c_l_draw : C8.Cal P w K mg base 1 "_law_draw" spDraw []) (F : FnP K "_law_of" st_l_of f fd) : FnOk P w K mg base CX0 2 f fd ["bag", "things"] spOf := by
  refine F.ok sc_l_of (fun vs H Q E h => ?_) (fun cdv A outer s H vs Q E hr h => ?_)
  · obtain ⟨b, l, p, xs, rfl, _⟩ := h
    rfl
  · obtain ⟨b, l, p, xs, rfl, hB, npb, hp, h0, h1, k⟩ := h
    have G := B
    refine ⟨_, PSs.nox ((pss_one (ps_ret (pe_ix ix_list (pv 1) (C8.pe_c c_l_draw hr (by decide) rfl (pa_cons (pv 0) (pa_cons (pe_callB callLenS (by rfl) G.len PySem.boot_len (pa_cons (pv 1) pa_nil)) pa_nil))) (fun _ _ => rfl))))), ?_⟩
    try dsimp only [cxOf]
    walk_at "go"
    refine ⟨b, l, (xs.length : Nat), rfl, hB, by omega, by omega, fun r H' hr1 hB' kp => ?_⟩
    have hp' := Kp.get kp npb hp
    obtain ⟨v, hv⟩ : ∃ v, xs[r]? = some v := ⟨xs[r]'(by omega), List.getElem?_eq_getElem (by omega)⟩
    refine x_ixL (SqL.of hp') (atI_of rfl hv) ?_
    exact k _ v H' hv hB' kp
/-! ### the program's sheets -/
abbrev st_Sheet_numbers : Stmt := inClass (top 47) 1
theorem sc_Sheet_numbers : FnScope ["self", "band"] ["self"] (defScope st_Sheet_numbers) := ⟨rfl, rfl, rfl, by decide +kernel, rfl, by decide +kernel, by decide +kernel⟩
def spIsNum : Sp := fun vs H Q _ => ∃ i : Int, vs = [.int i] ∧ Q (.bl true) H
theorem ok_isnum (B : Bi K mg) (F : FnP K "is_number" st_is_number f fd) : FnOk P w K mg base CX0 1 f fd ["value"] spIsNum := by
  refine F.ok sc_is_number (fun vs H Q E h => ?_) (fun cdv A outer s H vs Q E hr h => ?_)
  · obtain ⟨i, rfl, _⟩ := h
    rfl
  · obtain ⟨i, rfl, k⟩ := h
    have G := B
    refine ⟨_, PSs.nox ((pss_one (ps_ret (pe_and (pe_callB call_isi (by rfl) G.isinstance (by decide +kernel) (pa_cons (pv 0) (pa_cons (pe_bltn (v := .ty "int") (u := .type "int") (by rfl) G.int (by decide +kernel) rfl) pa_nil))) (pe_one (pe_not (pe_callB call_isi (by rfl) G.isinstance (by decide +kernel) (pa_cons (pv 0) (pa_cons (pe_bltn (v := .ty "bool") (u := .type "bool") (by rfl) G.bool (by decide +kernel) rfl) pa_nil))))))))), ?_⟩
    try dsimp only [cxOf]
    walk_at "go"
    exact k
def BookAt (K : PySem.W.Frag) (H : Hp) (a : Addr) (arm mod : Nat) : Prop := ∃ dx, H a = some (.ins (He.ga K "Book") dx [("arms", .int arm), ("modulus", .int mod)])
theorem BookAt.same {H H' : Hp} {a : Addr} {arm mod : Nat} (h : BookAt K H a arm mod) (s : Same H H') : BookAt K H' a arm mod := by
  obtain ⟨dx, h⟩ := h
  exact ⟨dx, s _ _ h⟩
def spReduced (K : PySem.W.Frag) : Sp := fun vs H Q _ => ∃ (a : Addr) (arm mod : Nat) (n : Int), vs = [.ref a, .int n] ∧ BookAt K H a arm mod ∧ mod ≤ 24 ∧ Q (.int (redN mod n)) H
theorem ok_reduced (B : Bi K mg) (F : FnP K "reduced" st_reduced f fd) : FnOk P w K mg base CX0 1 f fd ["book", "n"] (spReduced K) := by
  refine F.ok sc_reduced (fun vs H Q E h => ?_) (fun cdv A outer s H vs Q E hr h => ?_)
  · obtain ⟨a, arm, mod, n, rfl, _⟩ := h
    rfl
  · obtain ⟨a, arm, mod, n, rfl, ⟨dx, hb⟩, hm, k⟩ := h
    have G := B
    have cB := G.cls_Book
    have n1 := G.na_Book_modulus
    refine ⟨_, PSs.nox ((pss_cons (ps_if (pt_cmpR op_eq (pe_fld (pv 0) (by rfl)) pe_int (nomark _))
        (pss_one (ps_ret (pv 1)))
        pss_nil)
      (pss_one (ps_ret (pe_op op_mod (pv 1) (pe_fld (pv 0) (by rfl))))))), ?_⟩
    try dsimp only [cxOf]
    walk_at "go"
    unfold redN at k
    refine x_iteD (fun h => ?_) (fun h => ?_)
    · rw [if_pos (by omega)] at k
      walk_at "go"
      exact k
    · rw [if_neg (by omega)] at k
      walk_at "go"
      exact k
def spIsName : Sp := fun vs H Q _ => ∃ s : Str, vs = [.str s] ∧ IsName s ∧ ∀ H', Same H H' → Q (.bl true) H'
theorem ok_isname (B : Bi K mg) (F : FnP K "is_name" st_is_name f fd) : FnOk P w K mg base CX0 1 f fd ["text"] spIsName := by
  refine F.ok sc_is_name (fun vs H Q E h => ?_) (fun cdv A outer s H vs Q E hr h => ?_)
  · obtain ⟨i, rfl, _⟩ := h
    rfl
  · obtain ⟨z, rfl, ⟨c, ds, rfl, hc1, hc2, hd1, hd2⟩, k⟩ := h
    have G := B
    refine ⟨_, PSs.nox ((pss_cons (ps_if (PW.pt (pw_or (pt_not (pt_chain op_le op_le pe_int (pe_callB call_lenSt (by rfl) G.len PySem.boot_len (pa_cons (pv 0) pa_nil)) (C8.pe_gc rfl G.c_LONGEST))) (pw_or1 (pt_cmpR op_niSg (pe_ix ix_str (pv 0) pe_int (fun _ _ => rfl)) (C8.pe_gc rfl G.c_LETTERS) rfl))))
        (pss_one (ps_ret pe_bl))
        pss_nil)
      (pss_one (ps_ret (pe_callB (cr_all rfl) (by rfl) G.all (by decide +kernel) (pa_cons (pe_lc (own := [("sign", 1)]) rfl sc_is_name.nd (pi_str (pe_slice sl_str (pv 0) (po_some pe_int) po_none)) (blkOk_by (own := [("sign", 1)]) (N := ["text", "sign"]) (sc := defScope st_is_name) (by decide +kernel)) (fun _ _ _ _ _ => (pg_name (i := 1) sc_is_name.nd rfl (Or.inl rfl))) (fun _ _ _ _ _ => pts_nil) (fun _ _ _ _ _ => (pe_cmpR op_inSg (pv 1) (C8.pe_gc rfl G.c_DIGITS) rfl))) pa_nil)))))), ?_⟩
    try dsimp only [cxOf]
    have hS : (SX.S (c :: ds)).length ≤ sizeLine := by
      rw [SX.S_len]
      exact Nat.le_trans (show _ ≤ 3 by rw [List.length_cons]; omega) (by decide)
    have e1 : (SX.S (c :: ds)).length = ds.length + 1 := by rw [SX.S_len, List.length_cons]
    have eL : ("abcdefghijklmnopqrstuvwxyz" : Str).cps.toList = (List.range 26).map (97 + ·) := by decide +kernel
    have eD : ("0123456789" : Str).cps.toList = (List.range 10).map (48 + ·) := by decide +kernel
    have hcm : c ∈ ("abcdefghijklmnopqrstuvwxyz" : Str).cps.toList := by
      rw [eL]
      exact List.mem_map.mpr ⟨c - 97, List.mem_range.mpr (by omega), by omega⟩
    have hdm : ∀ d ∈ ds, d ∈ ("0123456789" : Str).cps.toList := fun d hd => by
      rw [eD]
      have := hd2 d hd
      exact List.mem_map.mpr ⟨d - 48, List.mem_range.mpr (by omega), by omega⟩
    walk_at "go"
    refine x_lenSt hS ?_
    rw [e1]
    walk_at "go"
    refine x_iteDT (by omega) ?_
    walk_at "go"
    refine x_iteNDF (by omega) ?_
    walk_at "go"
    refine x_ixS (by rw [List.length_cons]; exact Nat.le_trans (show _ ≤ 3 by omega) (by decide)) (atI_of (k := 0) rfl rfl) ?_
    walk_at "go"
    refine x_iteNDF hcm ?_
    walk_at "go"
    refine x_slS hS ?_
    rw [SX.slice_from (by decide)]
    show rLcStr _ _ _ _ _ (.str (SX.S ds)) _ _
    refine w_lcStr (Nat.lt_of_le_of_lt (show _ ≤ 2 from hd1) (by decide)) (fun i acc => acc = List.replicate i (V.bl true)) rfl ?_ ?_
    · rintro i d H' acc hi s' rfl _ R S hR _
      walk_at "go"
      refine ⟨rfl, ?_⟩
      walk_at "go"
      rw [decide_eq_true (hdm d (List.mem_of_getElem? hi))]
      exact hR _ _ (Same.refl _) (List.replicate_succ' ..).symm
    · rintro p H' acc hp s' hp' rfl
      walk_at "go"
      refine x_all (bs := List.replicate ds.length true) (SqL.of (by rw [hp', List.map_replicate])) ?_
      rw [show (List.replicate ds.length true).all id = true by simp]
      walk_at "go"
      exact k _ s'
def spIsWord (K : PySem.W.Frag) : Sp := fun vs H Q _ => ∃ (a : Addr) (feet : List Str), vs = [.ref a] ∧ SqA K H a (feet.map V.str) ∧ IsWord feet ∧ feet.length ≤ 1000 ∧ ∀ H', Same H H' → Q (.bl true) H'
theorem ok_isword (B : Bi K mg) (c_is_name : C8.Cal P w K mg base 1 "is_name" spIsName []) (F : FnP K "is_word" st_is_word f fd) : FnOk P w K mg base CX0 2 f fd ["word"] (spIsWord K) := by
  refine F.ok sc_is_word (fun vs H Q E h => ?_) (fun cdv A outer s H vs Q E hr h => ?_)
  · obtain ⟨a, feet, rfl, _⟩ := h
    rfl
  · obtain ⟨a, feet, rfl, hS, hW, hl, k⟩ := h
    have G := B
    refine ⟨_, PSs.nox ((pss_cons (ps_set (i := 1) sc_is_word.nd rfl (Or.inr rfl) pe_dnewK)
      (pss_cons (ps_for PassesOwn.never rfl (pi_seq (pv 0)) (pg_name (i := 2) sc_is_word.nd rfl (Or.inl rfl))
        (pss_one (ps_dput (hu_of hr) (pv 1) (pv 2) (pe_op op_add (pe_dget2 (hu_of hr) (pv 1) (pv 2) pe_int ⟨rfl, rfl, rfl, rfl⟩) pe_int) rfl)))
      (pss_one (ps_ret (pe_callB (cr_all rfl) (by rfl) G.all (by decide +kernel) (pa_cons (pe_lock (pe_lc (own := [("name", 2)]) rfl sc_is_word.nd (pi_keys (pv 1)) (blkOk_by (own := [("name", 2)]) (N := ["word", "many", "name"]) (sc := defScope st_is_word) (by decide +kernel)) (fun _ _ _ _ _ => (pg_name (i := 2) sc_is_word.nd rfl (Or.inl rfl))) (fun _ _ _ _ _ => pts_nil) (fun _ _ _ _ _ => (pe_and (pe_cmpR op_eq (pe_dget (hu_of hr) (pv 1) (pv 2) (fun _ _ => rfl)) pe_int (nomark _)) (pe_one (C8.pe_c c_is_name hr (by decide) rfl (pa_cons (pv 2) pa_nil))))))) pa_nil))))))), ?_⟩
    try dsimp only [cxOf]
    walk_at "go"
    intro m hm
    walk_at "go"
    have hsz : feet.length < sizeLine := Nat.lt_of_le_of_lt hl (by decide)
    refine w_forS hS (Same.new hm) (fun i σ H' => H' = upd H m (.dK (dD V.int (cntM (feet.take i)))) ∧ ∃ u : Option V, σ = [some (.ref a), some (.ref m), u]) ⟨rfl, none, rfl⟩ (fun i σ H' ⟨e, _⟩ => by rw [e]; exact Same.new hm) ?_ ?_
    · rintro i x σ H' hi ⟨rfl, u, rfl⟩
      obtain ⟨n, rfl, hn⟩ := str_at hi
      have hil : i < feet.length := (List.getElem?_eq_some_iff.mp hn).1
      walk_at "go"
      refine x_dg2 (.inl upd_same) ?_
      walk_at "go"
      refine x_dg2S (.inl upd_same) ?_
      rw [valV_dD]
      have e1 : (((aGet (cntM (feet.take i)) n).map V.int).getD (.int 0)) = V.int ((aGet (cntM (feet.take i)) n).getD 0) := by
        cases aGet (cntM (feet.take i)) n <;> rfl
      rw [e1]
      walk_at "go"
      refine x_dputS upd_same ?_ ?_
      · rw [dD_len]
        exact Nat.lt_of_le_of_lt (cntM_len _) (by rw [List.length_take]; omega)
      · refine ⟨?_, _, rfl⟩
        rw [putK_dD, upd_upd, take_snoc hn, cntM_snoc]
    · rintro σ H' ⟨rfl, u, rfl⟩
      rw [List.length_map, List.take_length]
      walk_at "go"
      refine w_lockLcK (d := m) (kvs := dD V.int (cntM feet)) upd_same (by rw [dD_len]; exact Nat.lt_of_le_of_lt (cntM_len _) hsz) (fun od => ?_) (fun H R R' h z => ?_) (fun i acc => acc = List.replicate i (V.bl true)) rfl ?_ ?_
      · walk_at "go"
        exact ⟨rfl, rfl⟩
      · obtain ⟨v, e, q⟩ := z
        exact ⟨v, e, h _ _ q⟩
      · rintro od i kk v H' acc hi s' rfl _ R S hR _
        have hi' : ((cntM feet).map fun p => ((.inr p.1, V.int p.2) : Key × V))[i]? = some (kk, v) := hi
        rw [List.getElem?_map] at hi'
        obtain ⟨p, hp, e⟩ := Option.map_eq_some_iff.mp hi'
        cases e
        have hpm : p.1 ∈ (cntM feet).map (·.1) := List.mem_map_of_mem (List.mem_of_getElem? hp)
        have hmem : p.1 ∈ feet := by
          have h := aGet_isSome.mpr hpm
          rw [cntM_get] at h
          by_cases q : p.1 ∈ feet
          · exact q
          · rw [if_neg q] at h
            cases h
        have hg : aGet (cntM feet) p.1 = some 2 := by
          rw [cntM_get, if_pos hmem, hW.two _ hmem]
          rfl
        show gName _ (.str p.1) _ _ _
        walk_at "go"
        refine ⟨rfl, ?_⟩
        walk_at "go"
        refine x_dgetS (v := .int 2) (.inr ⟨od, s' _ _ upd_same⟩) (by rw [valV_dD, hg]; rfl) ?_
        walk_at "go"
        rw [decide_eq_true rfl]
        walk_at "go"
        refine ⟨p.1, rfl, hW.nm _ hmem, fun H2 s2 => ?_⟩
        exact hR _ _ s2 (List.replicate_succ' ..).symm
      · rintro p H' acc hp s' hp' rfl
        walk_at "go"
        refine x_all (bs := List.replicate (dD V.int (cntM feet)).length true) (SqL.of (by rw [hp', List.map_replicate])) ?_
        rw [show (List.replicate (dD V.int (cntM feet)).length true).all id = true by simp]
        walk_at "go"
        exact k _ (Same.trans (Same.new hm) s')
def FeetAt (H : Hp) (ft : Addr) (feet : List Str) : Prop := ∃ L : List (Str × Addr), H ft = some (.dK (dD V.ref L)) ∧ L.map (·.1) = bandsOf feet ∧ ∀ p ∈ L, ∃ i j : Nat, H p.2 = some (.tup [.int i, .int j]) ∧ PlOf feet p.1 i j
def spFeet (K : PySem.W.Frag) : Sp := fun vs H Q _ => ∃ (a : Addr) (feet : List Str), vs = [.ref a] ∧ SqT K H a (feet.map V.str) ∧ feet.length ≤ 1000 ∧ ∀ ft H', H ft = none → Same H H' → FeetAt H' ft feet → Q (.ref ft) H'
theorem ok_feet (B : Bi K mg) (F : FnP K "_feet_of" st_feet_of f fd) : FnOk P w K mg base CX0 1 f fd ["word"] (spFeet K) := by
  refine F.ok sc_feet_of (fun vs H Q E h => ?_) (fun cdv A outer s H vs Q E hr h => ?_)
  · obtain ⟨a, feet, rfl, _⟩ := h
    rfl
  · obtain ⟨a, feet, rfl, hS, hl, k⟩ := h
    have G := B
    refine ⟨_, PSs.nox ((pss_cons (ps_set (i := 1) sc_feet_of.nd rfl (Or.inl rfl) pe_dnewK)
      (pss_cons (ps_set (i := 2) sc_feet_of.nd rfl (Or.inl rfl) pe_dnewK)
      (pss_cons (ps_for PassesOwn.never rfl (pi_enumT (by rfl) G.enumerate (pa_cons (pv 0) pa_nil)) (pg_tup rfl (pgs_cons (pg_name (i := 3) sc_feet_of.nd rfl (Or.inl rfl)) (pgs_cons (pg_name (i := 4) sc_feet_of.nd rfl (Or.inl rfl)) pgs_nil)))
        (pss_one (ps_if (pt_cmp (pc_dnotin (hu_of hr) (pv 4) (pv 1)))
          (pss_cons (ps_dput (hu_of hr) (pv 1) (pv 4) (pv 3) rfl)
          (pss_one (ps_dput (hu_of hr) (pv 2) (pv 4) (pe_tup (pa_cons (pv 3) (pa_cons (pv 3) pa_nil))) rfl)))
          (pss_one (ps_dput (hu_of hr) (pv 2) (pv 4) (pe_tup (pa_cons (pe_dget (hu_of hr) (pv 1) (pv 4) (fun _ _ => rfl)) (pa_cons (pv 3) pa_nil))) rfl)))))
      (pss_one (ps_ret (pv 2))))))), ?_⟩
    try dsimp only [cxOf]
    walk_at "go"
    intro lf hlf
    walk_at "go"
    intro ft hft
    walk_at "go"
    have hlf0 : H ft = none := Same.free (Same.new hlf) hft
    have nft : lf ≠ ft := fun e => by rw [← e, upd_same] at hft; cases hft
    have hsz : feet.length < sizeLine := Nat.lt_of_le_of_lt hl (by decide)
    refine w_forE (xs := feet.map V.str) (Same.sqt (Same.trans (Same.new hlf) (Same.new hft)) hS) (fun i σ H' => Same H H' ∧ ∃ (Lf : List (Str × Nat)) (L : List (Str × Addr)) (u v : Option V), σ = [some (.ref a), some (.ref lf), some (.ref ft), u, v] ∧
      H' lf = some (.dK (dD (fun n : Nat => V.int (n : Nat)) Lf)) ∧ H' ft = some (.dK (dD V.ref L)) ∧ Lf.map (·.1) = bandsOf (feet.take i) ∧ L.map (·.1) = bandsOf (feet.take i) ∧
      (∀ n T, aGet L n = some T → ∃ p q : Nat, H' T = some (.tup [.int p, .int q]) ∧ PlOf (feet.take i) n p q ∧ aGet Lf n = some p))
      ⟨Same.trans (Same.new hlf) (Same.new hft), [], [], none, none, rfl, upd_old hft upd_same, upd_same, rfl, rfl, fun n T e => by cases e⟩ (fun i σ H' ⟨s, _⟩ => Same.sqt s hS) ?_ ?_
    · rintro i x σ H' T hi ⟨s', Lf, L, u, v, rfl, h1, h2, h3, h4, h5⟩ hT
      obtain ⟨n, rfl, hn⟩ := str_at hi
      have hil : i < feet.length := (List.getElem?_eq_some_iff.mp hn).1
      have hti : (feet.take i).length = i := by rw [List.length_take]; omega
      have nT1 : lf ≠ T := ne_of_none h1 hT
      have nT2 : ft ≠ T := ne_of_none h2 hT
      have lenL : L.length < sizeLine := by
        have := congrArg List.length h4
        rw [List.length_map] at this
        exact Nat.lt_of_le_of_lt (by rw [this]; exact bandsOf_len _) (by rw [hti]; omega)
      have lenLf : Lf.length < sizeLine := by
        have := congrArg List.length h3
        rw [List.length_map] at this
        exact Nat.lt_of_le_of_lt (by rw [this]; exact bandsOf_len _) (by rw [hti]; omega)
      have keys : ∀ {β : Type} (M : List (Str × β)) (y : β), M.map (·.1) = bandsOf (feet.take i) → (aPut M n y).map (·.1) = bandsOf (feet.take (i + 1)) := fun M y hM => by
        rw [keys_put, hM, take_snoc hn, bandsOf_snoc]
      walk_at "go"
      refine x_dniS (o := (aGet Lf n).map fun n : Nat => V.int (n : Nat)) (.inl (upd_old hT h1)) (valV_dD _ _ _) ?_
      rw [Option.isSome_map]
      walk_at "go"
      by_cases hmem : n ∈ feet.take i
      · have hk : n ∈ Lf.map (·.1) := by rw [h3, mem_bandsOf]; exact hmem
        obtain ⟨p0, hp0, _⟩ := aGet_of_mem hk
        obtain ⟨T0, hT0, _⟩ := aGet_of_mem (l := L) (k := n) (by rw [h4, mem_bandsOf]; exact hmem)
        obtain ⟨p1, q1, g1, g2, g3⟩ := h5 n T0 hT0
        rw [hp0]
        walk_at "go"
        refine x_dgetS (v := .int (p0 : Nat)) (.inl (upd_old hT h1)) (by rw [valV_dD, hp0]; rfl) ?_
        walk_at "go"
        refine ⟨by show 2 ≤ sizeLine; decide, fun T2 hT2 => ?_⟩
        walk_at "go"
        refine x_dputS (kvs := dD V.ref L) (upd_old hT2 (upd_old hT h2)) (by rw [dD_len]; exact lenL) ?_
        rw [putK_dD]
        have nT2' : T2 ≠ ft := Ne.symm (ne_of_none (upd_old hT h2) hT2)
        have nlT2 : lf ≠ T2 := ne_of_none (upd_old hT h1) hT2
        refine ⟨Same.mut (Same.trans s' (Same.trans (Same.new hT) (Same.new hT2))) hlf0, Lf, aPut L n T2, _, _, rfl, ?_, upd_same, ?_, keys L T2 h4, ?_⟩
        · rw [upd_ne nft]
          exact upd_old hT2 (upd_old hT h1)
        · rw [h3, take_snoc hn, bandsOf_snoc, if_pos ((mem_bandsOf _ _).mpr hmem)]
        · intro n' T' e'
          rw [aGet_put] at e'
          by_cases en : n' = n
          · rw [if_pos en] at e'
            cases e'
            subst en
            refine ⟨p1, i, ?_, ?_, g3⟩
            · rw [upd_ne nT2', upd_same]
              rw [hp0] at g3
              rw [Option.some.inj g3]
            · rw [take_snoc hn]
              have := g2.again
              rwa [hti] at this
          · rw [if_neg en] at e'
            obtain ⟨p2, q2, k1, k2, k3⟩ := h5 n' T' e'
            refine ⟨p2, q2, ?_, ?_, k3⟩
            · rw [upd_ne (ne_of_some k1 h2 (by intro z; cases z))]
              exact upd_old hT2 (upd_old hT k1)
            · rw [take_snoc hn]
              exact k2.snoc en
      · have hk : aGet Lf n = none := aGet_none (by rw [h3, mem_bandsOf]; exact hmem)
        rw [hk]
        walk_at "go"
        refine x_dputS (kvs := dD (fun n : Nat => V.int (n : Nat)) Lf) (upd_old hT h1) (by rw [dD_len]; exact lenLf) ?_
        rw [putK_dD (fun n : Nat => V.int (n : Nat)) Lf n i]
        walk_at "go"
        refine ⟨by show 2 ≤ sizeLine; decide, fun T2 hT2 => ?_⟩
        walk_at "go"
        have hT2' : H' T2 = none := by
          rw [upd_ne (fun e => by rw [e, upd_same] at hT2; cases hT2)] at hT2
          exact Same.free (Same.new hT) hT2
        have nT2' : T2 ≠ ft := Ne.symm (ne_of_none h2 hT2')
        have nlT2 : lf ≠ T2 := ne_of_none h1 hT2'
        refine x_dputS (kvs := dD V.ref L) (upd_old hT2 (upd_oth (Ne.symm nft) (upd_old hT h2))) (by rw [dD_len]; exact lenL) ?_
        rw [putK_dD]
        refine ⟨Same.mut (Same.trans (Same.mut (Same.trans s' (Same.new hT)) hlf) (Same.new hT2)) hlf0, aPut Lf n i, aPut L n T2, _, _, rfl, ?_, upd_same, keys Lf i h3, keys L T2 h4, ?_⟩
        · rw [upd_ne nft]
          exact upd_old hT2 upd_same
        · intro n' T' e'
          rw [aGet_put] at e' ⊢
          by_cases en : n' = n
          · rw [if_pos en] at e' ⊢
            cases e'
            subst en
            refine ⟨i, i, ?_, ?_, rfl⟩
            · rw [upd_ne nT2', upd_same]
            · rw [take_snoc hn]
              have := PlOf.new hmem
              rwa [hti] at this
          · rw [if_neg en] at e' ⊢
            obtain ⟨p2, q2, k1, k2, k3⟩ := h5 n' T' e'
            refine ⟨p2, q2, ?_, ?_, k3⟩
            · rw [upd_ne (ne_of_some k1 h2 (by intro z; cases z))]
              refine upd_old hT2 ?_
              rw [upd_ne (ne_of_some k1 h1 (by intro z; cases z))]
              exact upd_old hT k1
            · rw [take_snoc hn]
              exact k2.snoc en
    · rintro σ H' ⟨s', Lf, L, u, v, rfl, h1, h2, h3, h4, h5⟩
      rw [List.length_map, List.take_length] at h4 h5
      walk_at "go"
      refine k ft H' hlf0 s' ⟨L, h2, h4, fun p hp => ?_⟩
      have hnd : (L.map (·.1)).Nodup := by rw [h4]; exact nodup_bandsOf _
      obtain ⟨i, j, k1, k2, _⟩ := h5 p.1 p.2 (aGet_nodup hnd hp)
      exact ⟨i, j, k1, k2⟩
def spBook (K : PySem.W.Frag) : Sp := fun vs H Q _ => ∃ (a dx : Addr) (arm mod : Nat), vs = [.ref a, .int arm, .int mod] ∧ H a = some (.ins (He.ga K "Book") dx []) ∧ 1 ≤ arm ∧ arm ≤ 12 ∧ mod ≠ 1 ∧ mod ≤ 24 ∧ Q .non (upd H a (.ins (He.ga K "Book") dx [("arms", .int arm), ("modulus", .int mod)]))
theorem ok_book (B : Bi K mg) (c_is_number : C8.Cal P w K mg base 1 "is_number" spIsNum []) (F : FnM K "__init__" "Book.__init__" st_Book_init [.int 0] f fd) : FnOk P w K mg base CX0 2 f fd ["self", "arms", "modulus"] (spBook K) := by
  refine F.ok sc_Book_init (fun vs H Q E h => ?_) (fun cdv A outer s H vs Q E hr h => ?_)
  · obtain ⟨a, dx, arm, mod, rfl, _⟩ := h
    rfl
  · obtain ⟨a, dx, arm, mod, rfl, ha, h1, h2, h3, h4, k⟩ := h
    have G := B
    have cB := G.cls_Book
    have n1 := G.na_Book_arms
    have n2 := G.na_Book_modulus
    refine ⟨_, PSs.nox ((pss_cons (ps_if (PW.pt (pw_or (pt_not (pt_val (C8.pe_c c_is_number hr (by decide) rfl (pa_cons (pv 1) pa_nil)))) (pw_or1 (pt_cmpR op_lt (pv 1) pe_int (nomark _)))))
        (pss_one ps_never)
        pss_nil)
      (pss_cons (ps_if (PW.pt (pw_or (pt_not (pt_val (C8.pe_c c_is_number hr (by decide) rfl (pa_cons (pv 2) pa_nil)))) (pw_or (pt_cmpR op_lt (pv 2) pe_int (nomark _)) (pw_or1 (pt_cmpR op_eq (pv 2) pe_int (nomark _))))))
        (pss_one ps_never)
        pss_nil)
      (pss_cons (ps_if (pt_cmpR op_gt (pv 1) (C8.pe_gc rfl G.c_MOST_ARMS) (nomark _))
        (pss_one ps_never)
        pss_nil)
      (pss_cons (ps_if (pt_cmpR op_gt (pv 2) (C8.pe_gc rfl G.c_MOST_MODULUS) (nomark _))
        (pss_one ps_never)
        pss_nil)
      (pss_cons (ps_fld (pv 0) (pv 1) rfl)
      (pss_one (ps_fld (pv 0) (pv 2) rfl)))))))), ?_⟩
    try dsimp only [cxOf]
    walk_at "go"
    refine ⟨arm, rfl, ?_⟩
    walk_at "go"
    refine x_iteDF (by omega) ?_
    walk_at "go"
    refine ⟨mod, rfl, ?_⟩
    walk_at "go"
    refine x_iteDF (by omega) ?_
    walk_at "go"
    refine x_iteDF (by omega) ?_
    walk_at "go"
    refine x_iteDF (by omega) ?_
    walk_at "go"
    refine x_iteDF (by omega) ?_
    walk_at "go"
    refine x_sfldI (fs' := [("arms", .int arm)]) ha cB n1 rfl (by decide) ?_
    walk_at "go"
    refine x_sfldI (fs' := [("arms", .int arm), ("modulus", .int mod)]) upd_same cB n2 rfl (by show 1 < 1000; decide) ?_
    rw [upd_upd]
    exact k
/-- a sheet of the program: its book's numbers, its word, what it tells of its bands -/
structure SheetAt (K : PySem.W.Frag) (H : Hp) (a : Addr) (arm mod : Nat) (feet : List Str) (told : List (Str × Int)) : Prop where
  ex : ∃ dx bk wd ft bs td : Addr, H a = some (.ins (He.ga K "Sheet") dx [("book", .ref bk), ("word", .ref wd), ("_feet", .ref ft), ("bands", .ref bs), ("_told", .ref td)]) ∧ BookAt K H bk arm mod ∧ SqT K H wd (feet.map V.str) ∧ FeetAt H ft feet ∧
    SqT K H bs ((bandsOf feet).map V.str) ∧ H td = some (.dK (dD V.int told))
  tk : told.map (·.1) = bandsOf feet
theorem FeetAt.same {H H' : Hp} {ft : Addr} {feet : List Str} (h : FeetAt H ft feet) (s : Same H H') : FeetAt H' ft feet := by
  obtain ⟨L, h1, h2, h3⟩ := h
  exact ⟨L, s _ _ h1, h2, fun p hp => let ⟨i, j, e1, e2⟩ := h3 p hp; ⟨i, j, s _ _ e1, e2⟩⟩
theorem SheetAt.same {H H' : Hp} {a : Addr} {arm mod : Nat} {feet : List Str} {told : List (Str × Int)} (h : SheetAt K H a arm mod feet told) (s : Same H H') : SheetAt K H' a arm mod feet told := by
  obtain ⟨dx, bk, wd, ft, bs, td, h1, h2, h3, h4, h5, h6⟩ := h.ex
  exact ⟨⟨dx, bk, wd, ft, bs, td, s _ _ h1, h2.same s, Same.sqt s h3, h4.same s, Same.sqt s h5, s _ _ h6⟩, h.tk⟩
theorem toldOf_keys (mod : Nat) (bs : List Str) (nums : List (Str × Int)) : (toldOf mod bs nums).map (·.1) = bs := by
  unfold toldOf
  rw [List.map_map]
  exact (List.map_congr_left fun _ _ => rfl).trans (List.map_id bs)
def spSheet (K : PySem.W.Frag) : Sp := fun vs H Q _ => ∃ (a dx bk wd : Addr) (n : V) (arm mod : Nat) (feet : List Str) (nums : List (Str × Int)), vs = [.ref a, .ref bk, .ref wd, n] ∧ H a = some (.ins (He.ga K "Sheet") dx []) ∧ BookAt K H bk arm mod ∧ mod ≤ 24 ∧ SqA K H wd (feet.map V.str) ∧ IsWord feet ∧ feet.length ≤ 1000 ∧
  ((n = .non ∧ nums = []) ∨ ∃ nd, n = .ref nd ∧ H nd = some (.dK (dD V.int nums))) ∧ (∀ p ∈ nums, p.1 ∈ feet) ∧ ∀ H', Kp a H H' → SheetAt K H' a arm mod feet (toldOf mod (bandsOf feet) nums) → Q .non H'
theorem ok_sheet (B : Bi K mg) (c_is_word : C8.Cal P w K mg base 2 "is_word" (spIsWord K) []) (c_feet_of : C8.Cal P w K mg base 1 "_feet_of" (spFeet K) []) (c_reduced : C8.Cal P w K mg base 1 "reduced" (spReduced K) [])
    (F : FnM K "__init__" "Sheet.__init__" st_Sheet_init [.non] f fd) : FnOk P w K mg base CX0 3 f fd ["self", "book", "word", "numbers"] (spSheet K) := by
  refine F.ok sc_Sheet_init (fun vs H Q E h => ?_) (fun cdv A outer s H vs Q E hr h => ?_)
  · obtain ⟨a, dx, bk, wd, n, arm, mod, feet, nums, rfl, _⟩ := h
    rfl
  · obtain ⟨a, dx, bk, wd, n, arm, mod, feet, nums, rfl, ha, hbk, hm, hwd, hW, hl, hn, hnf, k⟩ := h
    have G := B
    have cB := G.cls_Sheet
    have n1 := G.na_Sheet_book
    have n2 := G.na_Sheet_word
    have n3 := G.na_Sheet__feet
    have n4 := G.na_Sheet_bands
    have n5 := G.na_Sheet__told
    refine ⟨_, PSs.nox ((C8.pss_cut (ps_set (i := 4) sc_Sheet_init.nd rfl (Or.inr rfl) (pe_ifExp (pt_cmpR op_isNn (pv 3) pe_non (nomark _)) pe_dnewK (pv 3)))
      (pss_cons (ps_if (pt_not (pt_val (C8.pe_c c_is_word hr (by decide) rfl (pa_cons (pv 2) pa_nil))))
        (pss_one ps_never)
        pss_nil)
      (pss_cons (ps_fld (pv 0) (pv 1) rfl)
      (C8.pss_cut (ps_fld (pv 0) (pe_callTy (call_tupOf rfl) (by rfl) G.tuple (by decide +kernel) (pa_cons (pv 2) pa_nil)) rfl)
      (pss_cons (ps_fld (pv 0) (C8.pe_c c_feet_of hr (by decide) rfl (pa_cons (pe_fld (pv 0) (by rfl)) pa_nil)) rfl)
      (pss_cons (ps_fld (pv 0) (pe_callTy (call_tupOf rfl) (by rfl) G.tuple (by decide +kernel) (pa_cons (pe_fld (pv 0) (by rfl)) pa_nil)) rfl)
      (pss_cons (ps_lock (ps_for PassesOwn.never rfl (pi_keys (pv 4)) (pg_name (i := 5) sc_Sheet_init.nd rfl (Or.inl rfl))
        (pss_one (ps_if (pt_cmp (pc_dnotin (hu_of hr) (pv 5) (pe_fld (pv 0) (by rfl))))
          (pss_one ps_never)
          pss_nil))))
      (pss_one (ps_fld (pv 0) (pe_dc (own := [("band", 5)]) rfl sc_Sheet_init.nd (pi_tup (pe_fld (pv 0) (by rfl))) (blkOk_by (own := [("band", 5)]) (N := ["self", "book", "word", "numbers", "told", "band"]) (sc := defScope st_Sheet_init) (by decide +kernel)) (fun _ _ _ _ _ => (pg_name (i := 5) sc_Sheet_init.nd rfl (Or.inl rfl))) (fun _ _ _ _ _ => pts_nil) (fun _ _ _ _ _ => (pv 5)) (fun _ _ _ _ _ => (C8.pe_c c_reduced hr (by decide) rfl (pa_cons (pv 1) (pa_cons (pe_dget2 (hu_of hr) (pv 4) (pv 5) pe_int ⟨rfl, rfl, rfl, rfl⟩) pa_nil))))) rfl)))))))))), ?_⟩
    try dsimp only [cxOf]
    refine x_cut (fun σ H1 => ∃ (nd : Addr) (u : Option V), σ = [some (.ref a), some (.ref bk), some (.ref wd), some n, some (.ref nd), u] ∧ Same H H1 ∧ H1 nd = some (.dK (dD V.int nums))) ?_ ?_
    · rcases hn with ⟨rfl, rfl⟩ | ⟨nd, rfl, hnd⟩
      · walk_at "go"
        rw [decide_eq_true rfl]
        walk_at "go"
        intro p hp
        exact ⟨p, none, rfl, Same.new hp, upd_same⟩
      · walk_at "go"
        rw [decide_eq_false (fun z => by cases z)]
        walk_at "go"
        exact ⟨nd, none, rfl, Same.refl _, hnd⟩
    · rintro σ H1 ⟨nd, u, rfl, s1, hnd⟩
      walk_at "go"
      refine ⟨wd, feet, rfl, SqA.same hwd s1, hW, hl, fun H2 s2 => ?_⟩
      have s12 := Same.trans s1 s2
      have ha2 := s12 _ _ ha
      walk_at "go"
      refine x_sfldI (fs' := [("book", .ref bk)]) ha2 cB n1 rfl (by decide) ?_
      have k3 : Kp a H (upd H2 a (.ins (He.ga K "Sheet") dx [("book", .ref bk)])) := Kp.upd (Kp.of s12)
      have nda : nd ≠ a := ne_of_some (s2 _ _ hnd) ha2 (by intro z; cases z)
      obtain ⟨dxb, hbk'⟩ := hbk
      have bka : bk ≠ a := ne_of_some hbk' ha (by intro z; injection z with _ _ z3; cases z3)
      refine x_cut (fun σ H3 => ∃ (w2 : Addr), σ = [some (.ref a), some (.ref bk), some (.ref wd), some n, some (.ref nd), u] ∧ Kp a H H3 ∧ H3 nd = some (.dK (dD V.int nums)) ∧ H3 a = some (.ins (He.ga K "Sheet") dx [("book", .ref bk), ("word", .ref w2)]) ∧ SqT K H3 w2 (feet.map V.str)) ?_ ?_
      · walk_at "go"
        rcases hwd with hwd | hwd
        · refine x_tupL (Kp.sql_i k3 ha hwd) fun q hq => ?_
          walk_at "go"
          refine x_sfldI (fs' := [("book", .ref bk), ("word", .ref q)]) (upd_old hq upd_same) cB n2 rfl (by show 1 < 1000; decide) ?_
          have qa : q ≠ a := fun e => by rw [e, upd_same] at hq; cases hq
          refine ⟨q, rfl, Kp.upd (Kp.trans k3 (Kp.of (Same.new hq))), ?_, upd_same, SqT.of ?_⟩
          · rw [upd_ne nda]
            exact upd_old hq (by rw [upd_ne nda]; exact s2 _ _ hnd)
          · rw [upd_ne qa, upd_same]
        · refine x_tupT (Kp.sqt_i k3 ha hwd) ?_
          walk_at "go"
          refine x_sfldI (fs' := [("book", .ref bk), ("word", .ref wd)]) upd_same cB n2 rfl (by show 1 < 1000; decide) ?_
          have k4 : Kp a H (upd (upd H2 a (.ins (He.ga K "Sheet") dx [("book", .ref bk)])) a (.ins (He.ga K "Sheet") dx [("book", .ref bk), ("word", .ref wd)])) := Kp.upd k3
          refine ⟨wd, rfl, k4, ?_, upd_same, Kp.sqt_i k4 ha hwd⟩
          rw [upd_ne nda, upd_ne nda]
          exact s2 _ _ hnd
      · rintro σ H3 ⟨w2, rfl, k3, hnd3, ha3, hw3⟩
        walk_at "go"
        refine ⟨w2, feet, rfl, hw3, hl, fun ft H4 hft s4 hF => ?_⟩
        have ha4 := s4 _ _ ha3
        have fta : ft ≠ a := Ne.symm (ne_of_none ha3 hft)
        walk_at "go"
        refine x_sfldI (fs' := [("book", .ref bk), ("word", .ref w2), ("_feet", .ref ft)]) ha4 cB n3 rfl (by show 2 < 1000; decide) ?_
        have k5 := Kp.upd (o := .ins (He.ga K "Sheet") dx [("book", .ref bk), ("word", .ref w2), ("_feet", .ref ft)]) (Kp.trans k3 (Kp.of s4))
        obtain ⟨L, hL, hLk, hLp⟩ := hF
        walk_at "go"
        refine x_tupD (kvs := dD V.ref L) (by rw [upd_ne fta]; exact hL) fun bs hbs => ?_
        have eb : (dD V.ref L).map (fun kv => kV kv.1) = (bandsOf feet).map V.str := by
          rw [← hLk]
          unfold dD
          rw [List.map_map, List.map_map]
          rfl
        rw [eb]
        have bsa : bs ≠ a := fun e => by rw [e, upd_same] at hbs; cases hbs
        walk_at "go"
        refine x_sfldI (fs' := [("book", .ref bk), ("word", .ref w2), ("_feet", .ref ft), ("bands", .ref bs)]) (upd_old hbs upd_same) cB n4 rfl (by show 3 < 1000; decide) ?_
        have k6 := Kp.upd (o := .ins (He.ga K "Sheet") dx [("book", .ref bk), ("word", .ref w2), ("_feet", .ref ft), ("bands", .ref bs)]) (Kp.trans k5 (Kp.of (Same.new (o := .tup ((bandsOf feet).map V.str)) hbs)))
        have hbs0 : H4 bs = none := by rw [upd_ne bsa] at hbs; exact hbs
        have k46 : Kp a H4 (upd (upd (upd H4 a (.ins (He.ga K "Sheet") dx [("book", .ref bk), ("word", .ref w2), ("_feet", .ref ft)])) bs (.tup ((bandsOf feet).map V.str))) a (.ins (He.ga K "Sheet") dx [("book", .ref bk), ("word", .ref w2), ("_feet", .ref ft), ("bands", .ref bs)])) := Kp.upd (Kp.trans (Kp.upd Kp.refl) (Kp.of (Same.new hbs)))
        have hbs6 : (upd (upd (upd H4 a (.ins (He.ga K "Sheet") dx [("book", .ref bk), ("word", .ref w2), ("_feet", .ref ft)])) bs (.tup ((bandsOf feet).map V.str))) a (.ins (He.ga K "Sheet") dx [("book", .ref bk), ("word", .ref w2), ("_feet", .ref ft), ("bands", .ref bs)])) bs = some (.tup ((bandsOf feet).map V.str)) := by rw [upd_ne bsa, upd_same]
        have ha6 : (upd (upd (upd H4 a (.ins (He.ga K "Sheet") dx [("book", .ref bk), ("word", .ref w2), ("_feet", .ref ft)])) bs (.tup ((bandsOf feet).map V.str))) a (.ins (He.ga K "Sheet") dx [("book", .ref bk), ("word", .ref w2), ("_feet", .ref ft), ("bands", .ref bs)])) a = some (.ins (He.ga K "Sheet") dx [("book", .ref bk), ("word", .ref w2), ("_feet", .ref ft), ("bands", .ref bs)]) := upd_same
        revert k6 k46 hbs6 ha6
        generalize (upd (upd (upd H4 a (.ins (He.ga K "Sheet") dx [("book", .ref bk), ("word", .ref w2), ("_feet", .ref ft)])) bs (.tup ((bandsOf feet).map V.str))) a (.ins (He.ga K "Sheet") dx [("book", .ref bk), ("word", .ref w2), ("_feet", .ref ft), ("bands", .ref bs)])) = H6
        intro k6 k46 hbs6 ha6
        have nft : ∀ {x : Addr} {u : HO}, H4 x = some u → x ≠ a → H6 x = some u := fun h n => k46 _ _ n h
        have hL6 : H6 ft = some (.dK (dD V.ref L)) := nft hL fta
        have hF6 : FeetAt H6 ft feet := ⟨L, hL6, hLk, fun p hp => let ⟨i, j, e1, e2⟩ := hLp p hp; ⟨i, j, nft e1 (ne_of_some e1 ha4 (by intro z; cases z)), e2⟩⟩
        have hnd6 : H6 nd = some (.dK (dD V.int nums)) := nft (s4 _ _ hnd3) nda
        have hw6 : SqT K H6 w2 (feet.map V.str) := Kp.sqt_i k46 ha4 (Same.sqt s4 hw3)
        have hbk6 : H6 bk = some (.ins (He.ga K "Book") dxb [("arms", .int arm), ("modulus", .int mod)]) := k6 _ _ bka hbk'
        refine w_lockForK (d := nd) (kvs := dD V.int nums) hnd6 (fun od => ?_) (fun H R R' h z => ?_) (fun od i σ H' => H' = upd H6 nd (.frz od (.dK (dD V.int nums))) ∧ ∃ u : Option V, σ = [some (.ref a), some (.ref bk), some (.ref wd), some n, some (.ref nd), u]) (fun od => ⟨rfl, u, rfl⟩) (fun od i σ H' ⟨e, _⟩ => by rw [e]; exact upd_same) ?_ ?_
        · walk_at "go"
          exact ⟨rfl, rfl⟩
        · obtain ⟨v, e, q⟩ := z
          exact ⟨v, e, h _ _ q⟩
        · rintro od i kk v σ H' hi ⟨rfl, u, rfl⟩
          have hi' : (nums.map fun p => ((.inr p.1, V.int p.2) : Key × V))[i]? = some (kk, v) := hi
          rw [List.getElem?_map] at hi'
          obtain ⟨p, hp, e⟩ := Option.map_eq_some_iff.mp hi'
          cases e
          have hpf := hnf p (List.mem_of_getElem? hp)
          have nan : a ≠ nd := Ne.symm nda
          have nfn : ft ≠ nd := fun e => by
            rw [e] at hft
            rw [hnd3] at hft
            cases hft
          show gName _ (.str p.1) _ _ _
          walk_at "go"
          obtain ⟨T, hT, _⟩ := aGet_of_mem (l := L) (k := p.1) (by rw [hLk, mem_bandsOf]; exact hpf)
          refine x_dniS (o := some (.ref T)) (.inl (upd_oth nfn hL6)) (by rw [valV_dD, hT]; rfl) ?_
          walk_at "go"
          exact ⟨rfl, _, rfl⟩
        · rintro od σ H' ⟨rfl, u, rfl⟩
          have eu : upd (upd H6 nd (.frz od (.dK (dD V.int nums)))) nd (.dK (dD V.int nums)) = H6 := by
            rw [upd_upd]
            funext x
            by_cases e : x = nd
            · rw [e, upd_same, hnd6]
            · rw [upd_ne e]
          rw [eu]
          walk_at "go"
          refine w_dcT (xs := (bandsOf feet).map V.str) (SqT.of hbs6) (by rw [List.length_map]; exact Nat.lt_of_le_of_lt (bandsOf_len _) (Nat.lt_of_le_of_lt hl (by decide))) (fun i acc => acc = dD V.int ((toldOf mod (bandsOf feet) nums).take i)) rfl ?_ ?_
          · rintro i x H' acc hi s' rfl hai R S hR _
            obtain ⟨b, rfl, hb⟩ := str_at hi
            walk_at "go"
            refine ⟨rfl, ?_⟩
            walk_at "go"
            refine x_dg2 (.inl (s' _ _ hnd6)) ?_
            walk_at "go"
            refine x_dg2S (.inl (s' _ _ hnd6)) ?_
            rw [valV_dD]
            have e1 : (((aGet nums b).map V.int).getD (.int 0)) = V.int ((aGet nums b).getD 0) := by
              cases aGet nums b <;> rfl
            rw [e1]
            walk_at "go"
            refine ⟨bk, arm, mod, _, rfl, ⟨dxb, s' _ _ hbk6⟩, hm, ?_⟩
            show R (kV (.inr b)) _ _
            refine hR _ _ _ (Same.refl _) ?_
            have ht : (toldOf mod (bandsOf feet) nums)[i]? = some (b, redN mod ((aGet nums b).getD 0)) := by
              unfold toldOf
              rw [List.getElem?_map, hb]
              rfl
            rw [take_snoc ht]
            have hnew : b ∉ ((toldOf mod (bandsOf feet) nums).take i).map (·.1) := by
              rw [List.map_take, toldOf_keys]
              intro hm'
              obtain ⟨j, hj⟩ := List.getElem?_of_mem hm'
              rw [List.getElem?_take] at hj
              split at hj
              · rename_i hji
                have := nodup_inj (nodup_bandsOf feet) hj hb
                omega
              · cases hj
            rw [putK_dD]
            unfold aPut
            rw [if_neg (fun q => hnew (any_keys.mp q))]
          · rintro p H' acc hp s' hp' rfl
            have pa : p ≠ a := Ne.symm (ne_of_none ha6 hp)
            walk_at "go"
            refine x_sfldI (fs' := [("book", .ref bk), ("word", .ref w2), ("_feet", .ref ft), ("bands", .ref bs), ("_told", .ref p)]) (s' _ _ ha6) cB n5 rfl (by show 4 < 1000; decide) ?_
            have el : (toldOf mod (bandsOf feet) nums).take ((bandsOf feet).map V.str).length = toldOf mod (bandsOf feet) nums := List.take_of_length_le (by unfold toldOf; rw [List.length_map, List.length_map]; exact Nat.le_refl _)
            rw [el] at hp'
            have kk : Kp a H6 (upd H' a (.ins (He.ga K "Sheet") dx [("book", .ref bk), ("word", .ref w2), ("_feet", .ref ft), ("bands", .ref bs), ("_told", .ref p)])) := Kp.upd (Kp.of s')
            refine k _ (Kp.trans k6 kk) ⟨⟨dx, bk, w2, ft, bs, p, upd_same, ⟨dxb, kk _ _ bka hbk6⟩, Kp.sqt_i kk ha6 hw6, ?_, SqT.of (kk _ _ bsa hbs6), ?_⟩, toldOf_keys _ _ _⟩
            · obtain ⟨L, g1, g2, g3⟩ := hF6
              exact ⟨L, kk _ _ fta g1, g2, fun q hq => let ⟨i, j, e1, e2⟩ := g3 q hq; ⟨i, j, kk _ _ (ne_of_some e1 ha6 (by intro z; cases z)) e1, e2⟩⟩
            · rw [upd_ne pa]
              exact hp'
def spNumber (K : PySem.W.Frag) : Sp := fun vs H Q _ => ∃ (a : Addr) (arm mod : Nat) (feet : List Str) (told : List (Str × Int)) (b : Str) (z : Int), vs = [.ref a, .str b] ∧ SheetAt K H a arm mod feet told ∧ aGet told b = some z ∧ Q (.int z) H
theorem ok_number (B : Bi K mg) (F : FnM K "number" "Sheet.number" st_Sheet_number [] f fd) : FnOk P w K mg base CX0 1 f fd ["self", "band"] (spNumber K) := by
  refine F.ok sc_Sheet_number (fun vs H Q E h => ?_) (fun cdv A outer s H vs Q E hr h => ?_)
  · obtain ⟨a, arm, mod, feet, told, b, z, rfl, _⟩ := h
    rfl
  · obtain ⟨a, arm, mod, feet, told, b, z, rfl, hS, hz, k⟩ := h
    have G := B
    have cS := G.cls_Sheet
    have n5 := G.na_Sheet__told
    obtain ⟨dx, bk, wd, ft, bs, td, h1, h2, h3, h4, h5, h6⟩ := hS.ex
    refine ⟨_, PSs.nox ((pss_cons (ps_if (pt_cmp (pc_dnotin (hu_of hr) (pv 1) (pe_fld (pv 0) (by rfl))))
        (pss_one ps_never)
        pss_nil)
      (pss_one (ps_ret (pe_dget (hu_of hr) (pe_fld (pv 0) (by rfl)) (pv 1) (fun _ _ => rfl)))))), ?_⟩
    try dsimp only [cxOf]
    walk_at "go"
    refine x_dniS (o := some (.int z)) (.inl h6) (by rw [valV_dD, hz]; rfl) ?_
    walk_at "go"
    refine x_dgetS (.inl h6) (by rw [valV_dD, hz]; rfl) ?_
    exact k
def spNumbers (K : PySem.W.Frag) : Sp := fun vs H Q _ => ∃ (a : Addr) (arm mod : Nat) (feet : List Str) (told : List (Str × Int)), vs = [.ref a] ∧ SheetAt K H a arm mod feet told ∧ feet.length ≤ 1000 ∧ ∀ p H', H p = none → Same H H' → H' p = some (.dK (dD V.int told)) → Q (.ref p) H'
theorem told_snoc {told : List (Str × Int)} {bands : List Str} (h : told.map (·.1) = bands) (hn : bands.Nodup) {i : Nat} {b : Str} (hb : bands[i]? = some b) : ∃ z, told[i]? = some (b, z) ∧ aGet told b = some z ∧ aPut (told.take i) b z = told.take (i + 1) := by
  rw [← h, List.getElem?_map] at hb
  obtain ⟨p, hp, e⟩ := Option.map_eq_some_iff.mp hb
  have e' : p.1 = b := e
  obtain ⟨p1, z⟩ := p
  have e'' : p1 = b := e'
  subst e''
  refine ⟨z, hp, aGet_nodup (p := (p1, z)) (by rw [h]; exact hn) (List.mem_of_getElem? hp), ?_⟩
  rw [take_snoc hp]
  unfold aPut
  rw [if_neg]
  intro q
  have hm := any_keys.mp q
  rw [List.map_take, h] at hm
  obtain ⟨j, hj⟩ := List.getElem?_of_mem hm
  rw [List.getElem?_take] at hj
  split at hj
  · rename_i hji
    have hb2 : bands[i]? = some p1 := by rw [← h, List.getElem?_map, hp]; rfl
    have := nodup_inj hn hj hb2
    omega
  · cases hj
theorem ok_numbers (B : Bi K mg) (F : FnM K "numbers" "Sheet.numbers" st_Sheet_numbers [] f fd) : FnOk P w K mg base CX0 1 f fd ["self"] (spNumbers K) := by
  refine F.ok sc_Sheet_numbers (fun vs H Q E h => ?_) (fun cdv A outer s H vs Q E hr h => ?_)
  · obtain ⟨a, arm, mod, feet, told, rfl, _⟩ := h
    rfl
  · obtain ⟨a, arm, mod, feet, told, rfl, hS, hl, k⟩ := h
    have G := B
    have cS := G.cls_Sheet
    have n5 := G.na_Sheet__told
    have n4 := G.na_Sheet_bands
    obtain ⟨dx, bk, wd, ft, bs, td, h1, h2, h3, h4, h5, h6⟩ := hS.ex
    refine ⟨_, PSs.nox ((pss_one (ps_ret (pe_dc (own := [("band", 1)]) rfl sc_Sheet_numbers.nd (pi_tup (pe_fld (pv 0) (by rfl))) (blkOk_by (own := [("band", 1)]) (N := ["self", "band"]) (sc := defScope st_Sheet_numbers) (by decide +kernel)) (fun _ _ _ _ _ => (pg_name (i := 1) sc_Sheet_numbers.nd rfl (Or.inl rfl))) (fun _ _ _ _ _ => pts_nil) (fun _ _ _ _ _ => (pv 1)) (fun _ _ _ _ _ => (pe_dget (hu_of hr) (pe_fldK (K := K) rfl (pv 0) (by rfl)) (pv 1) (fun _ _ => rfl))))))), ?_⟩
    try dsimp only [cxOf]
    walk_at "go"
    refine w_dcT (xs := (bandsOf feet).map V.str) h5 (by rw [List.length_map]; exact Nat.lt_of_le_of_lt (bandsOf_len _) (Nat.lt_of_le_of_lt hl (by decide))) (fun i acc => acc = dD V.int (told.take i)) rfl ?_ ?_
    · rintro i x H' acc hi s' rfl hai R S hR _
      obtain ⟨b, rfl, hb⟩ := str_at hi
      obtain ⟨z, hz1, hz2, hz3⟩ := told_snoc hS.tk (nodup_bandsOf feet) hb
      walk_at "go"
      refine ⟨rfl, ?_⟩
      walk_at "go"
      refine x_dgetS (v := .int z) (.inl (s' _ _ h6)) (by rw [valV_dD, hz2]; rfl) ?_
      show R (kV (.inr b)) _ _
      refine hR _ _ _ (Same.refl _) ?_
      rw [putK_dD, hz3]
    · rintro p H' acc hp s' hp' rfl
      rw [List.take_of_length_le (by rw [List.length_map, ← hS.tk, List.length_map]; exact Nat.le_refl _)] at hp'
      exact k p H' hp s' hp'
def spSide (K : PySem.W.Frag) (fst : Bool) : Sp := fun vs H Q _ => ∃ (a : Addr) (arm mod : Nat) (feet : List Str) (told : List (Str × Int)) (b : Str) (i j : Nat), vs = [.ref a, .str b] ∧ SheetAt K H a arm mod feet told ∧ PlOf feet b i j ∧ Q (.int ((if fst = true then i else j : Nat) : Int)) H
theorem PlOf.uniq {l : List Str} {n : Str} {i j i' j' : Nat} (h : PlOf l n i j) (k : PlOf l n i' j') : i = i' ∧ j = j' := by
  have h1 := h.2.2 i' k.1
  have h2 := h.2.2 j' k.2.1
  have h3 := k.2.2 i h.1
  have h4 := k.2.2 j h.2.1
  omega
theorem ok_left (B : Bi K mg) (F : FnM K "left" "Sheet.left" st_Sheet_left [] f fd) : FnOk P w K mg base CX0 1 f fd ["self", "band"] (spSide K true) := by
  refine F.ok sc_Sheet_left (fun vs H Q E h => ?_) (fun cdv A outer s H vs Q E hr h => ?_)
  · obtain ⟨a, arm, mod, feet, told, b, i, j, rfl, _⟩ := h
    rfl
  · obtain ⟨a, arm, mod, feet, told, b, i, j, rfl, hS, hp, k⟩ := h
    have G := B
    have cS := G.cls_Sheet
    have n3 := G.na_Sheet__feet
    obtain ⟨dx, bk, wd, ft, bs, td, h1, h2, h3, h4, h5, h6⟩ := hS.ex
    obtain ⟨L, hL, hLk, hLp⟩ := h4
    obtain ⟨T, hT, hTm⟩ := aGet_of_mem (l := L) (k := b) (by rw [hLk, mem_bandsOf]; exact List.mem_of_getElem? hp.1)
    obtain ⟨p, q, g1, g2⟩ := hLp _ hTm
    obtain ⟨e1, e2⟩ := hp.uniq g2
    subst e1 e2
    refine ⟨_, PSs.nox ((pss_cons (ps_if (pt_cmp (pc_dnotin (hu_of hr) (pv 1) (pe_fld (pv 0) (by rfl))))
        (pss_one ps_never)
        pss_nil)
      (pss_one (ps_ret (pe_ix ix_tup (pe_dget (hu_of hr) (pe_fld (pv 0) (by rfl)) (pv 1) (fun _ _ => rfl)) pe_int (fun _ _ => rfl)))))), ?_⟩
    try dsimp only [cxOf]
    walk_at "go"
    refine x_dniS (o := some (.ref T)) (.inl hL) (by rw [valV_dD, hT]; rfl) ?_
    walk_at "go"
    refine x_dgetS (.inl hL) (by rw [valV_dD, hT]; rfl) ?_
    walk_at "go"
    exact k
theorem ok_right (B : Bi K mg) (F : FnM K "right" "Sheet.right" st_Sheet_right [] f fd) : FnOk P w K mg base CX0 1 f fd ["self", "band"] (spSide K false) := by
  refine F.ok sc_Sheet_right (fun vs H Q E h => ?_) (fun cdv A outer s H vs Q E hr h => ?_)
  · obtain ⟨a, arm, mod, feet, told, b, i, j, rfl, _⟩ := h
    rfl
  · obtain ⟨a, arm, mod, feet, told, b, i, j, rfl, hS, hp, k⟩ := h
    have G := B
    have cS := G.cls_Sheet
    have n3 := G.na_Sheet__feet
    obtain ⟨dx, bk, wd, ft, bs, td, h1, h2, h3, h4, h5, h6⟩ := hS.ex
    obtain ⟨L, hL, hLk, hLp⟩ := h4
    obtain ⟨T, hT, hTm⟩ := aGet_of_mem (l := L) (k := b) (by rw [hLk, mem_bandsOf]; exact List.mem_of_getElem? hp.1)
    obtain ⟨p, q, g1, g2⟩ := hLp _ hTm
    obtain ⟨e1, e2⟩ := hp.uniq g2
    subst e1 e2
    refine ⟨_, PSs.nox ((pss_cons (ps_if (pt_cmp (pc_dnotin (hu_of hr) (pv 1) (pe_fld (pv 0) (by rfl))))
        (pss_one ps_never)
        pss_nil)
      (pss_one (ps_ret (pe_ix ix_tup (pe_dget (hu_of hr) (pe_fld (pv 0) (by rfl)) (pv 1) (fun _ _ => rfl)) pe_int (fun _ _ => rfl)))))), ?_⟩
    try dsimp only [cxOf]
    walk_at "go"
    refine x_dniS (o := some (.ref T)) (.inl hL) (by rw [valV_dD, hT]; rfl) ?_
    walk_at "go"
    refine x_dgetS (.inl hL) (by rw [valV_dD, hT]; rfl) ?_
    walk_at "go"
    exact k
def spDivisor : Sp := fun vs H Q _ => ∃ ns : List Int, vs = ns.map V.int ∧ ns.length ≤ 1000 ∧ ∀ H', Same H H' → Q (.int (gcdZ ns : Nat)) H'
theorem fnR_imp {CX : CXT} {k : Nat} {sp sp' : Sp} (F : FnR P w K mg base CX k f sp) (h : ∀ vs H Q E, sp' vs H Q E → sp vs H Q E) : FnR P w K mg base CX k f sp' := fun A outer s H us vs Q E hr e0 r hsp => F A outer s H us vs Q E hr e0 r (h vs H Q E hsp)
theorem ok_divisor (B : Bi K mg) (F : FnP K "divisor" st_divisor f fd) : FnR P w K mg base CX0 1 f spDivisor := by
  obtain ⟨oc, od, dV, kV, doc, pm, an, cdv, ct, osl, rfl, lk, hcd, hD, _⟩ := F.ex
  refine fnR_imp (StX.fn_star (ps := []) (pv := "numbers") (sp := fun vs H Q _ => ∃ (p : Addr) (ns : List Int), vs = [.ref p] ∧ H p = some (.tup (ns.map V.int)) ∧ Q (.int (gcdZ ns : Nat)) H) lk hcd sc_divisor StX.cxUp_none ?_ ?_) ?_
  · rcases hD with ⟨_, rfl⟩ | ⟨e, _⟩
    · rintro us rest hu
      match us, hu with
      | [], _ => match rest with
        | [] => rfl
        | _ :: _ => rfl
    · exact absurd rfl e
  · intro A outer s H vs Q E hr h
    obtain ⟨p, ns, rfl, hp, k⟩ := h
    have G := B
    refine ⟨_, PSs.nox ((pss_cons (ps_set (i := 1) sc_divisor.nd rfl (Or.inl rfl) pe_int)
      (pss_cons (ps_for PassesOwn.never rfl (pi_tup (pv 0)) (pg_name (i := 2) sc_divisor.nd rfl (Or.inl rfl))
        (pss_one (ps_set (i := 1) sc_divisor.nd rfl (Or.inl rfl) (pe_callBfun cr_gcd (by rfl) G.gcd (pa_cons (pv 1) (pa_cons (pv 2) pa_nil))))))
      (pss_one (ps_ret (pv 1)))))), ?_⟩
    try dsimp only [cxOf]
    walk_at "go"
    refine w_forT (SqT.of hp) (fun i σ H' => H' = H ∧ ∃ u : Option V, σ = [some (.ref p), some (.int (gcdZ (ns.take i) : Nat)), u]) ⟨rfl, none, rfl⟩ (fun i σ H' _ ⟨e, _⟩ => by rw [e]; exact SqT.of hp) ?_ ?_
    · rintro i y σ H' hi ⟨rfl, u, rfl⟩
      obtain ⟨z, rfl, hz⟩ := int_at hi
      walk_at "go"
      refine ⟨rfl, some (.int z), ?_⟩
      rw [gcdZ_take hz, Int.natAbs_natCast]
      rfl
    · rintro σ H' ⟨rfl, u, rfl⟩
      rw [List.length_map, List.take_length]
      walk_at "go"
      exact k
  · rintro vs H Q E ⟨ns, rfl, hl, k⟩
    exact ⟨[], ns.map V.int, rfl, rfl, by rw [List.length_map]; exact Nat.le_trans hl (by decide), fun p hp => ⟨p, ns, rfl, upd_same, k _ (Same.new hp)⟩⟩
def spShare (K : PySem.W.Frag) : Sp := fun vs H Q _ => ∃ (a : Addr) (arm mod : Nat) (feet : List Str) (told : List (Str × Int)), vs = [.ref a] ∧ SheetAt K H a arm mod feet told ∧ feet.length ≤ 900 ∧ ∀ H', Same H H' → Q (.int (shareZ arm mod told : Nat)) H'
theorem ok_share (B : Bi K mg) (m_Sheet_number : C8.Met P w K mg base 1 (He.ga K "Sheet") "number" (spNumber K) []) (c_divisor_star : CalS P w K mg base 1 "divisor" spDivisor) (F : FnP K "share_of" st_share_of f fd) : FnOk P w K mg base CX0 2 f fd ["sheet"] (spShare K) := by
  refine F.ok sc_share_of (fun vs H Q E h => ?_) (fun cdv A outer s H vs Q E hr h => ?_)
  · obtain ⟨a, arm, mod, feet, told, rfl, _⟩ := h
    rfl
  · obtain ⟨a, arm, mod, feet, told, rfl, hS, hl, k⟩ := h
    have G := B
    have cS := G.cls_Sheet
    have cB := G.cls_Book
    have n1 := G.na_Sheet_book
    have n4 := G.na_Sheet_bands
    have b1 := G.na_Book_arms
    have b2 := G.na_Book_modulus
    obtain ⟨dx, bk, wd, ft, bs, td, h1, ⟨dxb, h2⟩, h3, h4, h5, h6⟩ := hS.ex
    refine ⟨_, PSs.nox ((pss_cons (ps_setLc (i := 1) (own := [("band", 2)]) rfl sc_share_of.nd rfl rfl (sw_true rfl rfl rfl (by decide +kernel)) (pi_tup (pe_fld (pv 0) (by rfl))) (blkOk_by (own := [("band", 2)]) (N := ["sheet", "numbers", "band"]) (sc := defScope st_share_of) (by decide +kernel)) (fun _ _ _ _ _ => (pg_name (i := 2) sc_share_of.nd rfl (Or.inl rfl))) (fun _ _ _ _ _ => pts_nil) (fun _ _ _ _ _ => (C8.pe_mt m_Sheet_number hr (by decide) (pv 0) (pa_cons (pv 2) pa_nil))))
      (pss_one (ps_ret (pe_cS c_divisor_star hr (by decide) rfl (pa_cons (pe_fld (pe_fld (pv 0) (by rfl)) (by rfl)) (pa_cons (pe_fld (pe_fld (pv 0) (by rfl)) (by rfl)) (StX.pa_star (pv 1) pa_nil)))))))), ?_⟩
    try dsimp only [cxOf]
    walk_at "go"
    have hbl : (bandsOf feet).length ≤ 900 := Nat.le_trans (bandsOf_len _) hl
    have htl : told.length = (bandsOf feet).length := by rw [← hS.tk, List.length_map]
    refine w_lcT (xs := (bandsOf feet).map V.str) h5 (by rw [List.length_map]; exact Nat.lt_of_le_of_lt hbl (by decide)) (fun i acc => acc = ((told.map (·.2)).map V.int).take i) rfl ?_ ?_
    · rintro i x H' acc hi s' rfl hai R S hR _
      obtain ⟨b, rfl, hb⟩ := str_at hi
      obtain ⟨z, hz1, hz2, hz3⟩ := told_snoc hS.tk (nodup_bandsOf feet) hb
      walk_at "go"
      refine ⟨rfl, ?_⟩
      walk_at "go"
      refine ⟨a, arm, mod, feet, told, b, z, rfl, hS.same s', hz2, ?_⟩
      refine hR _ _ (Same.refl _) ?_
      rw [take_snoc (show ((told.map (·.2)).map V.int)[i]? = some (.int z) by rw [List.getElem?_map, List.getElem?_map, hz1]; rfl)]
    · rintro p H' acc hp s' hp' rfl
      rw [List.length_map, List.take_of_length_le (by rw [List.length_map, List.length_map, htl]; exact Nat.le_refl _)] at hp'
      have h1' := s' _ _ h1
      have h2' := s' _ _ h2
      walk_at "go"
      refine ⟨p, (told.map (·.2)).map V.int, rfl, .inr (SqL.of hp'), ?_⟩
      walk_at "go"
      refine ⟨(arm : Int) :: (mod : Int) :: told.map (fun p : Str × Int => p.2), ?_, ?_, fun H2 s2 => k _ (Same.trans s' s2)⟩
      · simp
      · rw [List.length_cons, List.length_cons, List.length_map, htl]
        omega

/-! ### the law's small helpers -/
def spMixed (K : PySem.W.Frag) : Sp := fun vs H Q _ => ∃ (b l p : Addr) (xs : List V), vs = [.ref b, .ref p] ∧ BagAt H b l ∧ p ≠ b ∧ H p = some (.lst xs) ∧ xs.length < 1000000 ∧ ∀ (q : Addr) (ys : List V) H', H q = none → H' q = some (.lst ys) → ys.Perm xs → BagAt H' b l → Kp b H H' → Q (.ref q) H'
theorem perm_erase {α : Type} {xs : List α} {k : Nat} {y : α} (h : xs[k]? = some y) : (y :: xs.eraseIdx k).Perm xs := by
  have hp := List.getElem?_eq_some_iff.mp h
  rw [List.eraseIdx_eq_take_drop_succ]
  have e1 : xs = xs.take k ++ y :: xs.drop (k + 1) := by
    have := List.take_append_drop k xs
    rw [List.drop_eq_getElem_cons hp.1, hp.2] at this
    exact this.symm
  have h2 : (xs.take k ++ y :: xs.drop (k + 1)).Perm (y :: (xs.take k ++ xs.drop (k + 1))) := List.perm_middle
  rw [← e1] at h2
  exact h2.symm
theorem ok_mixed (B : Bi K mg) (c_l_draw : C8.Cal P w K mg base 1 "_law_draw" spDraw []) (F : FnP K "_law_mixed" st_l_mixed f fd) : FnOk P w K mg base CX0 2 f fd ["bag", "things"] (spMixed K) := by
  refine F.ok sc_l_mixed (fun vs H Q E h => ?_) (fun cdv A outer s H vs Q E hr h => ?_)
  · obtain ⟨b, l, p, xs, rfl, _⟩ := h
    rfl
  · obtain ⟨b, l, p, xs, rfl, hB, npb, hp, hl, k⟩ := h
    have G := B
    refine ⟨_, PSs.nox ((pss_cons (ps_set (i := 2) sc_l_mixed.nd rfl (Or.inl rfl) (pe_callTy callListS (by rfl) G.list (by decide +kernel) (pa_cons (pv 1) pa_nil)))
      (pss_cons (ps_set (i := 3) sc_l_mixed.nd rfl (Or.inl rfl) (pe_lst pa_nil))
      (pss_cons (ps_for PassesOwn.never rfl (pi_range1 (by rfl) G.range (pa_cons (pe_callB callLenS (by rfl) G.len PySem.boot_len (pa_cons (pv 1) pa_nil)) pa_nil)) (pg_name (i := 4) sc_l_mixed.nd rfl (Or.inl rfl))
        (pss_one (ps_expr (pe_bm PySem.F.plainAttrs_list PySem.F.slot_list_append PySem.F.type_list_append mt_append (pv 3) (pa_cons (pe_bm PySem.F.plainAttrs_list PySem.F.slot_list_pop PySem.F.type_list_pop mt_popAt (pv 2) (pa_cons (C8.pe_c c_l_draw hr (by decide) rfl (pa_cons (pv 0) (pa_cons (pe_callB callLenS (by rfl) G.len PySem.boot_len (pa_cons (pv 2) pa_nil)) pa_nil))) pa_nil)) pa_nil)))))
      (pss_one (ps_ret (pv 3))))))), ?_⟩
    try dsimp only [cxOf]
    have hsz : xs.length < sizeLine := Nat.lt_of_lt_of_le hl (by decide)
    walk_at "go"
    refine x_listL (SqL.of hp) fun q hq => ?_
    walk_at "go"
    refine ⟨Nat.zero_le _, fun r hr => ?_⟩
    have nqb : q ≠ b := fun e => hB.b_some (by rw [← e]; exact hq)
    have hq1 : upd H q (.lst xs) b ≠ none := by rw [upd_ne (Ne.symm nqb)]; exact hB.b_some
    have nrb : r ≠ b := fun e => hq1 (by rw [← e]; exact hr)
    have nqr : q ≠ r := fun e => by rw [← e, upd_same] at hr; cases hr
    have hr0 : H r = none := by rw [upd_ne (Ne.symm nqr)] at hr; exact hr
    have npq : p ≠ q := ne_of_none hp hq
    have npr : p ≠ r := ne_of_none hp hr0
    walk_at "go"
    refine w_forR1 (by omega) (by omega) (fun i σ H' => BagAt H' b l ∧ Kp b H H' ∧ ∃ (ys zs : List V) (u : Option V), σ = [some (.ref b), some (.ref p), some (.ref q), some (.ref r), u] ∧ H' q = some (.lst ys) ∧ H' r = some (.lst zs) ∧ ys.length + i = xs.length ∧ zs.length = i ∧ (zs ++ ys).Perm xs)
      ⟨(hB.new hq).new hr, Kp.of (Same.trans (Same.new hq) (Same.new hr)), xs, [], none, rfl, upd_old hr upd_same, upd_same, rfl, rfl, List.Perm.refl _⟩ ?_ ?_
    · rintro i σ H' hi ⟨hB', kp, ys, zs, u, rfl, hq', hr', hl1, hl2, hpm⟩
      have hi' : i < xs.length := by omega
      walk_at "go"
      refine ⟨b, l, (ys.length : Nat), rfl, hB', by omega, by omega, fun d H2 hd hB2 kp2 => ?_⟩
      have hq2 := kp2 _ _ nqb hq'
      have hr2 := kp2 _ _ nrb hr'
      have hdl : d < ys.length := by omega
      walk_at "go"
      refine x_popAt hq2 (List.getElem?_eq_getElem hdl) (by omega) ?_
      walk_at "go"
      refine x_append (xs := zs) (by rw [upd_ne (Ne.symm nqr)]; exact hr2) (Nat.lt_trans (show _ < 1000000 by omega) (by decide)) ?_
      have nlq : q ≠ l := by
        intro e
        have := hB.l_some
        rw [← e] at this
        exact this hq
      have nlr : r ≠ l := by
        intro e
        have := hB.l_some
        rw [← e] at this
        exact this hr0
      refine ⟨(hB2.upd nqb nlq).upd nrb nlr, ?_, ys.eraseIdx d, zs ++ [ys[d]], _, rfl, ?_, upd_same, ?_, ?_, ?_⟩
      · intro a o n ha
        rw [upd_ne (ne_of_none ha hr0), upd_ne (ne_of_none ha hq)]
        exact kp2 _ _ n (kp _ _ n ha)
      · rw [upd_ne nqr, upd_same]
      · rw [List.length_eraseIdx, if_pos hdl]
        omega
      · rw [List.length_append, List.length_singleton, hl2]
      · rw [List.append_assoc]
        exact (List.Perm.append_left zs (perm_erase (List.getElem?_eq_getElem hdl))).trans hpm
    · rintro σ H' ⟨hB', kp, ys, zs, u, rfl, hq', hr', hl1, hl2, hpm⟩
      have : ys = [] := List.eq_nil_of_length_eq_zero (by omega)
      subst this
      rw [List.append_nil] at hpm
      walk_at "go"
      exact k r zs H' hr0 hr' hpm hB' kp
/-- like, of two ints -/
def spLikeI : Sp := fun vs H Q _ => ∃ i j : Int, vs = [.int i, .int j] ∧ Q (.bl (decide (i = j))) H
theorem ok_like (B : Bi K mg) (F : FnP K "_law_like" st_l_like f fd) : FnOk P w K mg base CX0 1 f fd ["told", "due"] spLikeI := by
  refine F.ok sc_l_like (fun vs H Q E h => ?_) (fun cdv A outer s H vs Q E hr h => ?_)
  · obtain ⟨i, j, rfl, _⟩ := h
    rfl
  · obtain ⟨i, j, rfl, k⟩ := h
    have G := B
    refine ⟨_, PSs.nox ((pss_cons (ps_if (PW.pt (pw_or (pt_val (pe_callB call_isi (by rfl) G.isinstance (by decide +kernel) (pa_cons (pv 1) (pa_cons (pe_bltn (v := .ty "list") (u := .type "list") (by rfl) G.list (by decide +kernel) rfl) pa_nil)))) (pw_or1 (pt_val (pe_callB call_isi (by rfl) G.isinstance (by decide +kernel) (pa_cons (pv 1) (pa_cons (pe_bltn (v := .ty "tuple") (u := .type "tuple") (by rfl) G.tuple (by decide +kernel) rfl) pa_nil)))))))
        (pss_cons ps_never
        (pss_one ps_never))
        pss_nil)
      (pss_cons (ps_if (pt_val (pe_callB call_isi (by rfl) G.isinstance (by decide +kernel) (pa_cons (pv 1) (pa_cons (pe_bltn (v := .ty "dict") (u := .type "dict") (by rfl) G.dict (by decide +kernel) rfl) pa_nil))))
        (pss_cons ps_never
        (pss_one ps_never))
        pss_nil)
      (pss_cons (ps_if (PW.pt (pw_or (pt_cmpR op_ne (pe_callB call_isi (by rfl) G.isinstance (by decide +kernel) (pa_cons (pv 0) (pa_cons (pe_bltn (v := .ty "bool") (u := .type "bool") (by rfl) G.bool (by decide +kernel) rfl) pa_nil))) (pe_callB call_isi (by rfl) G.isinstance (by decide +kernel) (pa_cons (pv 1) (pa_cons (pe_bltn (v := .ty "bool") (u := .type "bool") (by rfl) G.bool (by decide +kernel) rfl) pa_nil))) (nomark _)) (pw_or1 (pt_cmpR op_ne (pe_callB call_isi (by rfl) G.isinstance (by decide +kernel) (pa_cons (pv 0) (pa_cons (pe_bltn (v := .ty "int") (u := .type "int") (by rfl) G.int (by decide +kernel) rfl) pa_nil))) (pe_callB call_isi (by rfl) G.isinstance (by decide +kernel) (pa_cons (pv 1) (pa_cons (pe_bltn (v := .ty "int") (u := .type "int") (by rfl) G.int (by decide +kernel) rfl) pa_nil))) (nomark _)))))
        (pss_one (ps_ret pe_bl))
        pss_nil)
      (pss_one (ps_ret (pe_ifExp (pt_cmpR op_isNn (pv 1) pe_non (nomark _)) (pe_cmpR op_isNn (pv 0) pe_non (nomark _)) (pe_and (pe_cmpR op_eq (pe_callB call_isi (by rfl) G.isinstance (by decide +kernel) (pa_cons (pv 0) (pa_cons (pe_bltn (v := .ty "str") (u := .type "str") (by rfl) G.str (by decide +kernel) rfl) pa_nil))) (pe_callB call_isi (by rfl) G.isinstance (by decide +kernel) (pa_cons (pv 1) (pa_cons (pe_bltn (v := .ty "str") (u := .type "str") (by rfl) G.str (by decide +kernel) rfl) pa_nil))) (nomark _)) (pe_one (pe_cmpR op_eq (pv 0) (pv 1) (nomark _))))))))))), ?_⟩
    try dsimp only [cxOf]
    walk_at "go"
    rw [decide_eq_true rfl]
    walk_at "go"
    rw [decide_eq_true rfl]
    walk_at "go"
    rw [decide_eq_false (fun z => by cases z)]
    walk_at "go"
    rw [decide_eq_true rfl]
    walk_at "go"
    exact k
def spRed : Sp := fun vs H Q _ => ∃ (mod : Nat) (n : Int), vs = [.int mod, .int n] ∧ mod ≤ 1000 ∧ Q (.int (redN mod n)) H
theorem ok_red (B : Bi K mg) (F : FnP K "_law_red" st_l_red f fd) : FnOk P w K mg base CX0 1 f fd ["mod", "num"] spRed := by
  refine F.ok sc_l_red (fun vs H Q E h => ?_) (fun cdv A outer s H vs Q E hr h => ?_)
  · obtain ⟨i, j, rfl, _⟩ := h
    rfl
  · obtain ⟨mod, n, rfl, hm, k⟩ := h
    have G := B
    refine ⟨_, PSs.nox ((pss_one (ps_ret (pe_ifExp (pt_cmpR op_gt (pv 0) pe_int (nomark _)) (pe_op op_mod (pe_callTy call_intI (by rfl) G.int (by decide +kernel) (pa_cons (pv 1) pa_nil)) (pv 0)) (pv 1))))), ?_⟩
    try dsimp only [cxOf]
    unfold redN at k
    walk_at "go"
    refine x_iteD (fun h => ?_) (fun h => ?_)
    · rw [if_neg (by omega)] at k
      walk_at "go"
      exact k
    · rw [if_pos (by omega)] at k
      walk_at "go"
      exact k
def spLDiv (K : PySem.W.Frag) : Sp := fun vs H Q _ => ∃ (p : Addr) (ns : List Int), vs = [.ref p] ∧ SqL K H p (ns.map V.int) ∧ (∀ z ∈ ns, z.natAbs ≤ 1267650600228229401496703205376) ∧ Q (.int (gcdZ ns : Nat)) H
theorem gcdZ_le {ns : List Int} {b : Nat} (h : ∀ z ∈ ns, z.natAbs ≤ b) : gcdZ ns ≤ b := by
  have key : ∀ (ns : List Int) (g : Nat), g ≤ b → (∀ z ∈ ns, z.natAbs ≤ b) → ns.foldl (fun g z => Nat.gcd g z.natAbs) g ≤ b := by
    intro ns
    induction ns with
    | nil => intro g hg _; exact hg
    | cons z ns ih =>
      intro g hg hz
      refine ih _ ?_ (fun y hy => hz y (List.mem_cons_of_mem _ hy))
      rcases Nat.eq_zero_or_pos g with e | e
      · rw [e]
        show Nat.gcd 0 z.natAbs ≤ b
        rw [Nat.gcd_zero_left]
        exact hz z (List.mem_cons_self ..)
      · exact Nat.le_trans (Nat.gcd_le_left _ e) hg
  exact key ns 0 (Nat.zero_le _) h
/-- one turn of Euclid -/
theorem euclid_step {o t n i : Nat} (ht : 0 < t) (h : i = 0 ∧ o * t ≤ n ∨ (1 ≤ i ∧ t < o ∧ o * t * 2 ^ (i - 1) ≤ n)) (ho : i = 0 → o * t ≤ n) : o % t < t ∧ t * (o % t) * 2 ^ i ≤ n := by
  have h1 : o % t < t := Nat.mod_lt _ ht
  refine ⟨h1, ?_⟩
  rcases h with ⟨rfl, h2⟩ | ⟨hi, hlt, h3⟩
  · rw [Nat.pow_zero, Nat.mul_one]
    refine Nat.le_trans ?_ h2
    rw [Nat.mul_comm t]
    exact Nat.mul_le_mul_right t (Nat.mod_le o t)
  · have hq : 1 ≤ o / t := (Nat.le_div_iff_mul_le ht).mpr (by omega)
    have hd := Nat.div_add_mod o t
    have h4 : t + o % t ≤ o := by
      have : t * 1 ≤ t * (o / t) := Nat.mul_le_mul_left t hq
      omega
    have h5 : t * (o % t) * 2 ≤ o * t := by
      have : t * (o % t * 2) ≤ t * o := Nat.mul_le_mul_left t (by omega)
      rw [Nat.mul_assoc, Nat.mul_comm o t]
      exact this
    obtain ⟨m, rfl⟩ : ∃ m, i = m + 1 := ⟨i - 1, by omega⟩
    rw [Nat.add_sub_cancel] at h3
    calc t * (o % t) * 2 ^ (m + 1) = t * (o % t) * 2 * 2 ^ m := by rw [Nat.pow_succ, Nat.mul_comm (2 ^ m) 2, ← Nat.mul_assoc]
      _ ≤ o * t * 2 ^ m := Nat.mul_le_mul_right _ h5
      _ ≤ n := h3
theorem ok_ldiv (B : Bi K mg) (F : FnP K "_law_divisor" st_l_divisor f fd) : FnOk P w K mg base CX0 1 f fd ["nums"] (spLDiv K) := by
  refine F.ok sc_l_divisor (fun vs H Q E h => ?_) (fun cdv A outer s H vs Q E hr h => ?_)
  · obtain ⟨p, ns, rfl, _⟩ := h
    rfl
  · obtain ⟨p, ns, rfl, hS, hb, k⟩ := h
    have G := B
    refine ⟨_, PSs.nox ((pss_cons (ps_set (i := 1) sc_l_divisor.nd rfl (Or.inl rfl) pe_int)
      (pss_cons (ps_for PassesOwn.never rfl (pi_list (pv 0)) (pg_name (i := 2) sc_l_divisor.nd rfl (Or.inl rfl))
        (pss_cons (ps_set (i := 3) sc_l_divisor.nd rfl (Or.inl rfl) (pv 1))
        (pss_cons (ps_set (i := 4) sc_l_divisor.nd rfl (Or.inl rfl) (pe_callB callAbs (by rfl) G.abs (by decide +kernel) (pa_cons (pv 2) pa_nil)))
        (pss_cons (ps_for PassesOwn.never rfl (pi_range1 (by rfl) G.range (pa_cons pe_int pa_nil)) (pg_name (i := 5) sc_l_divisor.nd rfl (Or.inl rfl))
          (pss_cons (ps_if (pt_cmpR op_eq (pv 4) pe_int (nomark _))
            (pss_one ps_break)
            pss_nil)
          (pss_cons (ps_set (i := 6) sc_l_divisor.nd rfl (Or.inl rfl) (pe_op op_mod (pe_callTy call_intI (by rfl) G.int (by decide +kernel) (pa_cons (pv 3) pa_nil)) (pv 4)))
          (pss_cons (ps_set (i := 3) sc_l_divisor.nd rfl (Or.inl rfl) (pv 4))
          (pss_one (ps_set (i := 4) sc_l_divisor.nd rfl (Or.inl rfl) (pv 6)))))))
        (pss_one (ps_set (i := 1) sc_l_divisor.nd rfl (Or.inl rfl) (pv 3)))))))
      (pss_one (ps_ret (pv 1)))))), ?_⟩
    try dsimp only [cxOf]
    walk_at "go"
    refine w_forL hS (fun i σ H' => H' = H ∧ ∃ u v z t r : Option V, σ = [some (.ref p), some (.int (gcdZ (ns.take i) : Nat)), u, v, z, t, r]) ⟨rfl, none, none, none, none, none, rfl⟩ (fun i σ H' _ ⟨e, _⟩ => by rw [e]; exact hS) ?_ ?_
    · rintro i y σ H' hi ⟨rfl, u, v, z, t, r, rfl⟩
      obtain ⟨a, rfl, ha⟩ := int_at hi
      have eab : (if a < 0 then -a else a) = (a.natAbs : Int) := by
        by_cases h : a < 0
        · rw [if_pos h]; omega
        · rw [if_neg h]; omega
      have hg : gcdZ (ns.take i) ≤ 1267650600228229401496703205376 := gcdZ_le fun z hz => hb z (List.mem_of_mem_take hz)
      have hab : a.natAbs ≤ 1267650600228229401496703205376 := hb a (List.mem_of_getElem? ha)
      rw [gcdZ_take ha]
      generalize gcdZ (ns.take i) = g at hg ⊢
      generalize hn : a.natAbs = m at *
      have hN : g * m ≤ 1267650600228229401496703205376 * 1267650600228229401496703205376 := Nat.mul_le_mul hg hab
      walk_at "go"
      rw [eab]
      walk_at "go"
      refine w_forR1 (by decide) (by decide) (fun j σ H'' => H'' = H' ∧ ∃ (o t : Nat) (u v : Option V), σ = [some (.ref p), some (.int (g : Nat)), some (.int a), some (.int (o : Nat)), some (.int (t : Nat)), u, v] ∧ Nat.gcd o t = Nat.gcd g m ∧ (j = 0 ∧ o * t ≤ g * m ∨ (1 ≤ j ∧ t < o ∧ o * t * 2 ^ (j - 1) ≤ g * m)))
        ⟨rfl, g, m, _, _, rfl, rfl, .inl ⟨rfl, Nat.le_refl _⟩⟩ ?_ ?_
      · rintro j σ H'' hj ⟨rfl, o, t, u, v, rfl, hgd, hinv⟩
        walk_at "go"
        refine x_iteD (fun ht => ?_) (fun ht => ?_)
        · have ht : t = 0 := by omega
          subst ht
          rw [Nat.gcd_zero_right] at hgd
          rw [hgd]
          walk_at "go"
          exact ⟨rfl, _, _, _, _, _, rfl⟩
        · have ht : 0 < t := by omega
          obtain ⟨h1, h2⟩ := euclid_step ht hinv (fun e => by rcases hinv with ⟨_, h⟩ | ⟨h, _⟩; exact h; omega)
          walk_at "go"
          have e1 : (o : Int) % (t : Int) = ((o % t : Nat) : Int) := rfl
          rw [e1]
          refine ⟨rfl, t, o % t, _, _, rfl, ?_, .inr ⟨by omega, h1, by rw [Nat.add_sub_cancel]; exact h2⟩⟩
          rw [← hgd, Nat.gcd_comm o t, Nat.gcd_rec t o, Nat.gcd_comm]
      · rintro σ H'' ⟨rfl, o, t, u, v, rfl, hgd, hinv⟩
        have e900 : ((900 : Int).toNat) = 900 := rfl
        rw [e900] at hinv
        rcases hinv with ⟨h, _⟩ | ⟨_, hlt, hle⟩
        · cases h
        · have ht : t = 0 := by
            rcases Nat.eq_zero_or_pos t with e | e
            · exact e
            · exfalso
              have h1 : 1 * 2 ^ (900 - 1) ≤ o * t * 2 ^ (900 - 1) := Nat.mul_le_mul_right _ (Nat.mul_pos (by omega) e)
              have h2 : (1 : Nat) * 2 ^ (900 - 1) ≤ 1267650600228229401496703205376 * 1267650600228229401496703205376 := Nat.le_trans h1 (Nat.le_trans hle hN)
              exact absurd h2 (by decide +kernel)
          subst ht
          rw [Nat.gcd_zero_right] at hgd
          rw [hgd]
          walk_at "go"
          exact ⟨rfl, _, _, _, _, _, rfl⟩
    · rintro σ H' ⟨rfl, u, v, z, t, r, rfl⟩
      rw [List.length_map, List.take_length]
      walk_at "go"
      exact k
def spDivs : Sp := fun vs H Q _ => ∃ (n : Nat), vs = [.int n] ∧ 1 ≤ n ∧ n ≤ 1000 ∧ ∀ p H', H p = none → Same H H' → (∃ ds : List Nat, H' p = some (.lst (ds.map fun d : Nat => V.int (d : Nat))) ∧ 1 ∈ ds ∧ (∀ d ∈ ds, 1 ≤ d ∧ d ≤ n) ∧ ds.length ≤ n) → Q (.ref p) H'
theorem ok_divs (B : Bi K mg) (F : FnP K "_law_divisors" st_l_divisors f fd) : FnOk P w K mg base CX0 1 f fd ["num"] spDivs := by
  refine F.ok sc_l_divisors (fun vs H Q E h => ?_) (fun cdv A outer s H vs Q E hr h => ?_)
  · obtain ⟨n, rfl, _⟩ := h
    rfl
  · obtain ⟨n, rfl, h1, h2, k⟩ := h
    have G := B
    refine ⟨_, PSs.nox ((pss_one (ps_ret (pe_lc (own := [("k", 1)]) rfl sc_l_divisors.nd (pi_range2 (by rfl) G.range (pa_cons pe_int (pa_cons (pe_op op_add (pv 0) pe_int) pa_nil))) (blkOk_by (own := [("k", 1)]) (N := ["num", "k"]) (sc := defScope st_l_divisors) (by decide +kernel)) (fun _ _ _ _ _ => (pg_name (i := 1) sc_l_divisors.nd rfl (Or.inl rfl))) (fun _ _ _ _ _ => (pts_one (pt_cmpR op_eq (pe_op op_mod (pe_callTy call_intI (by rfl) G.int (by decide +kernel) (pa_cons (pv 0) pa_nil)) (pv 1)) pe_int (nomark _)))) (fun _ _ _ _ _ => (pv 1)))))), ?_⟩
    try dsimp only [cxOf]
    walk_at "go"
    have en : ((n : Int) + 1 - 1).toNat = n := by omega
    refine w_lcR2 (by omega) (by rw [en]; exact Nat.lt_of_le_of_lt h2 (by decide)) (fun i acc => ∃ ds : List Nat, acc = ds.map (fun d : Nat => V.int (d : Nat)) ∧ (1 ≤ i → 1 ∈ ds) ∧ (∀ d ∈ ds, 1 ≤ d ∧ d ≤ i) ∧ ds.length ≤ i) ⟨[], rfl, fun h => absurd h (by decide), (fun d hd => by simp at hd), Nat.le_refl _⟩ ?_ ?_
    · rintro i H' acc hi s' ⟨ds, rfl, d1, d2, d3⟩ hai R S hR hS
      have e1 : (1 : Int) + (i : Int) = ((i + 1 : Nat) : Int) := by omega
      walk_at "go"
      refine ⟨rfl, ?_⟩
      rw [e1]
      walk_at "go"
      refine x_iteD (fun h => ?_) (fun h => ?_)
      · walk_at "go"
        refine hR _ _ (Same.refl _) ⟨ds ++ [i + 1], by rw [List.map_append]; rfl, fun _ => ?_, fun d hd => ?_, by rw [List.length_append, List.length_singleton]; omega⟩
        · rcases Nat.eq_zero_or_pos i with e | e
          · subst e; exact List.mem_append_right _ (List.mem_singleton.mpr rfl)
          · exact List.mem_append_left _ (d1 e)
        · rcases List.mem_append.mp hd with q | q
          · have := d2 d q; omega
          · have := List.mem_singleton.mp q; omega
      · refine hS _ (Same.refl _) ⟨ds, rfl, fun _ => ?_, fun d hd => by have := d2 d hd; omega, by omega⟩
        rcases Nat.eq_zero_or_pos i with e | e
        · subst e
          exact absurd (by have : (n : Int) % ((0 + 1 : Nat) : Int) = 0 := Int.emod_one _; exact this) h
        · exact d1 e
    · rintro p H' acc hp s' hp' ⟨ds, rfl, d1, d2, d3⟩
      rw [en] at d1 d2 d3
      exact k p H' hp s' ⟨ds, hp', d1 h1, d2, d3⟩
def spArms : Sp := fun vs H Q _ => ∃ (b l : Addr), vs = [.ref b] ∧ BagAt H b l ∧ ∀ (arm mod : Nat) (p : Addr) H', 1 ≤ arm → arm ≤ 12 → mod ≠ 1 → mod ≤ 24 → H p = none → BagAt H' b l → Kp b H H' → H' p = some (.lst [.int arm, .int mod]) → Q (.ref p) H'
theorem ok_arms (B : Bi K mg) (c_l_draw : C8.Cal P w K mg base 1 "_law_draw" spDraw []) (F : FnP K "_law_arms" st_l_arms f fd) : FnOk P w K mg base CX0 2 f fd ["bag"] spArms := by
  refine F.ok sc_l_arms (fun vs H Q E h => ?_) (fun cdv A outer s H vs Q E hr h => ?_)
  · obtain ⟨b, l, rfl, _⟩ := h
    rfl
  · obtain ⟨b, l, rfl, hB, k⟩ := h
    have G := B
    refine ⟨_, PSs.nox ((C8.pss_cut (ps_set (i := 1) sc_l_arms.nd rfl (Or.inl rfl) (pe_op op_add pe_int (C8.pe_c c_l_draw hr (by decide) rfl (pa_cons (pv 0) (pa_cons (pe_ifExp (pt_cmpR op_eq (C8.pe_c c_l_draw hr (by decide) rfl (pa_cons (pv 0) (pa_cons pe_int pa_nil))) pe_int (nomark _)) pe_int pe_int) pa_nil)))))
      (pss_cons (ps_if (pt_cmpR op_eq (C8.pe_c c_l_draw hr (by decide) rfl (pa_cons (pv 0) (pa_cons pe_int pa_nil))) pe_int (nomark _))
        (pss_one (ps_ret (pe_lst (pa_cons (pv 1) (pa_cons pe_int pa_nil)))))
        pss_nil)
      (pss_one (ps_ret (pe_lst (pa_cons (pv 1) (pa_cons (pe_op op_add pe_int (C8.pe_c c_l_draw hr (by decide) rfl (pa_cons (pv 0) (pa_cons (pe_ifExp (pt_cmpR op_eq (C8.pe_c c_l_draw hr (by decide) rfl (pa_cons (pv 0) (pa_cons pe_int pa_nil))) pe_int (nomark _)) pe_int pe_int) pa_nil)))) pa_nil)))))))), ?_⟩
    try dsimp only [cxOf]
    refine x_cut (fun σ H1 => ∃ arm : Nat, σ = [some (.ref b), some (.int (arm : Nat))] ∧ 1 ≤ arm ∧ arm ≤ 12 ∧ BagAt H1 b l ∧ Kp b H H1) ?_ ?_
    · walk_at "go"
      refine ⟨b, l, 10, rfl, hB, by decide, by decide, fun r H1 h1 hB1 kp1 => ?_⟩
      walk_at "go"
      refine x_iteD (fun h => ?_) (fun h => ?_)
      · walk_at "go"
        refine ⟨b, l, 12, rfl, hB1, by decide, by decide, fun r2 H2 h2 hB2 kp2 => ?_⟩
        walk_at "go"
        exact ⟨1 + r2, by rw [Int.natCast_add]; rfl, by omega, by omega, hB2, Kp.trans kp1 kp2⟩
      · walk_at "go"
        refine ⟨b, l, 6, rfl, hB1, by decide, by decide, fun r2 H2 h2 hB2 kp2 => ?_⟩
        walk_at "go"
        exact ⟨1 + r2, by rw [Int.natCast_add]; rfl, by omega, by omega, hB2, Kp.trans kp1 kp2⟩
    · rintro σ H1 ⟨arm, rfl, a1, a2, hB1, kp1⟩
      walk_at "go"
      refine ⟨b, l, 2, rfl, hB1, by decide, by decide, fun r H2 h2 hB2 kp2 => ?_⟩
      walk_at "go"
      have kp12 := Kp.trans kp1 kp2
      refine x_iteD (fun h => ?_) (fun h => ?_)
      · walk_at "go"
        refine ⟨by show 2 ≤ sizeLine; decide, fun p hp => ?_⟩
        have npb : p ≠ b := fun e => hB2.b_some (by rw [← e]; exact hp)
        exact k arm 0 p _ a1 a2 (by decide) (by decide) (Kp.free kp12 npb hp) (hB2.new hp) (Kp.trans kp12 (Kp.of (Same.new hp))) upd_same
      · walk_at "go"
        refine ⟨b, l, 10, rfl, hB2, by decide, by decide, fun r3 H3 h3 hB3 kp3 => ?_⟩
        walk_at "go"
        have kp123 := Kp.trans kp12 kp3
        refine x_iteD (fun h => ?_) (fun h => ?_)
        · walk_at "go"
          refine ⟨b, l, 23, rfl, hB3, by decide, by decide, fun r4 H4 h4 hB4 kp4 => ?_⟩
          walk_at "go"
          refine ⟨by show 2 ≤ sizeLine; decide, fun p hp => ?_⟩
          have npb : p ≠ b := fun e => hB4.b_some (by rw [← e]; exact hp)
          exact k arm (2 + r4) p _ a1 a2 (by omega) (by omega) (Kp.free (Kp.trans kp123 kp4) npb hp) (hB4.new hp) (Kp.trans (Kp.trans kp123 kp4) (Kp.of (Same.new hp))) (by rw [upd_same, Int.natCast_add]; rfl)
        · walk_at "go"
          refine ⟨b, l, 7, rfl, hB3, by decide, by decide, fun r4 H4 h4 hB4 kp4 => ?_⟩
          walk_at "go"
          refine ⟨by show 2 ≤ sizeLine; decide, fun p hp => ?_⟩
          have npb : p ≠ b := fun e => hB4.b_some (by rw [← e]; exact hp)
          exact k arm (2 + r4) p _ a1 a2 (by omega) (by omega) (Kp.free (Kp.trans kp123 kp4) npb hp) (hB4.new hp) (Kp.trans (Kp.trans kp123 kp4) (Kp.of (Same.new hp))) (by rw [upd_same, Int.natCast_add]; rfl)
def spNames : Sp := fun vs H Q _ => ∃ (b l : Addr) (many : Nat), vs = [.ref b, .int many] ∧ BagAt H b l ∧ many ≤ 26 ∧ ∀ (p : Addr) (ns : List Str) H', H p = none → H' p = some (.lst (ns.map V.str)) → ns.length = many → ns.Nodup → (∀ n ∈ ns, IsName n) → BagAt H' b l → Kp b H H' → Q (.ref p) H'
theorem ok_names (B : Bi K mg) (c_l_draw : C8.Cal P w K mg base 1 "_law_draw" spDraw []) (F : FnP K "_law_names" st_l_names f fd) : FnOk P w K mg base CX0 2 f fd ["bag", "many"] spNames := by
  refine F.ok sc_l_names (fun vs H Q E h => ?_) (fun cdv A outer s H vs Q E hr h => ?_)
  · obtain ⟨b, l, many, rfl, _⟩ := h
    rfl
  · obtain ⟨b, l, many, rfl, hB, hm, k⟩ := h
    have G := B
    refine ⟨_, PSs.nox ((C8.pss_cut (ps_set (i := 2) sc_l_names.nd rfl (Or.inl rfl) (pe_op op_cat (pe_op op_cat (pe_lst (pa_cons pe_str pa_nil)) (pe_lc (own := [("k", 7)]) rfl sc_l_names.nd (pi_range1 (by rfl) G.range (pa_cons pe_int pa_nil)) (blkOk_by (own := [("k", 7)]) (N := ["bag", "many", "tails", "look", "first", "start", "found", "k", "sign", "tail"]) (sc := defScope st_l_names) (by decide +kernel)) (fun _ _ _ _ _ => (pg_name (i := 7) sc_l_names.nd rfl (Or.inl rfl))) (fun _ _ _ _ _ => pts_nil) (fun _ _ _ _ _ => (pe_callTy call_strI (by rfl) G.str (by decide +kernel) (pa_cons (pv 7) pa_nil))))) (pe_lc (own := [("k", 7)]) rfl sc_l_names.nd (pi_range1 (by rfl) G.range (pa_cons pe_int pa_nil)) (blkOk_by (own := [("k", 7)]) (N := ["bag", "many", "tails", "look", "first", "start", "found", "k", "sign", "tail"]) (sc := defScope st_l_names) (by decide +kernel)) (fun _ _ _ _ _ => (pg_name (i := 7) sc_l_names.nd rfl (Or.inl rfl))) (fun _ _ _ _ _ => pts_nil) (fun _ _ _ _ _ => (pe_op op_addS (pe_callTy call_strI (by rfl) G.str (by decide +kernel) (pa_cons (pe_op op_fdiv (pv 7) pe_int) pa_nil)) (pe_callTy call_strI (by rfl) G.str (by decide +kernel) (pa_cons (pe_op op_mod (pe_callTy call_intI (by rfl) G.int (by decide +kernel) (pa_cons (pv 7) pa_nil)) pe_int) pa_nil)))))))
      (pss_cons (ps_set (i := 3) sc_l_names.nd rfl (Or.inl rfl) (C8.pe_c c_l_draw hr (by decide) rfl (pa_cons (pv 0) (pa_cons pe_int pa_nil))))
      (pss_cons (ps_set (i := 4) sc_l_names.nd rfl (Or.inl rfl) (C8.pe_c c_l_draw hr (by decide) rfl (pa_cons (pv 0) (pa_cons pe_int pa_nil))))
      (pss_cons (ps_set (i := 5) sc_l_names.nd rfl (Or.inl rfl) (C8.pe_c c_l_draw hr (by decide) rfl (pa_cons (pv 0) (pa_cons pe_int pa_nil))))
      (pss_cons (ps_set (i := 6) sc_l_names.nd rfl (Or.inl rfl) (pe_lst pa_nil))
      (pss_cons (ps_for PassesOwn.never rfl (pi_range1 (by rfl) G.range (pa_cons (pv 1) pa_nil)) (pg_name (i := 7) sc_l_names.nd rfl (Or.inl rfl))
        (pss_cons (ps_set (i := 8) sc_l_names.nd rfl (Or.inl rfl) (pe_ix ix_str pe_str (pe_op op_mod (pe_callTy call_intI (by rfl) G.int (by decide +kernel) (pa_cons (pe_op op_add (pv 4) (pe_op op_mul (pe_op op_mul pe_int (pv 7)) (pe_callTy call_intB (by rfl) G.int (by decide +kernel) (pa_cons (pe_cmpR op_gt (pv 3) pe_int (nomark _)) pa_nil)))) pa_nil)) pe_int) (fun _ _ => rfl)))
        (pss_cons (ps_set (i := 9) sc_l_names.nd rfl (Or.inl rfl) (pe_ix ix_list (pv 2) (pe_op op_mod (pe_callTy call_intI (by rfl) G.int (by decide +kernel) (pa_cons (pe_op op_add (pv 5) (pe_op op_mul pe_int (pv 7))) pa_nil)) pe_int) (fun _ _ => rfl)))
        (pss_cons (ps_if (pt_cmpR op_eq (pv 3) pe_int (nomark _))
          (pss_one (ps_set (i := 9) sc_l_names.nd rfl (Or.inl rfl) (pe_ifExp (pt_cmpR op_lt (pv 7) pe_int (nomark _)) pe_str (pe_callTy call_strI (by rfl) G.str (by decide +kernel) (pa_cons (pe_op op_sub (pv 7) pe_int) pa_nil)))))
          pss_nil)
        (pss_one (ps_expr (pe_bm PySem.F.plainAttrs_list PySem.F.slot_list_append PySem.F.type_list_append mt_append (pv 6) (pa_cons (pe_op op_addS (pv 8) (pv 9)) pa_nil))))))))
      (pss_one (ps_ret (pv 6)))))))))), ?_⟩
    try dsimp only [cxOf]
    refine x_cut (fun σ H1 => ∃ (tp : Addr) (u1 u2 u3 u4 u5 u6 u7 : Option V), σ = [some (.ref b), some (.int many), some (.ref tp), u1, u2, u3, u4, u5, u6, u7] ∧ H tp = none ∧ Same H H1 ∧ H1 tp = some (.lst (tailsL.map fun t => V.str (SX.S t)))) ?_ ?_
    · walk_at "go"
      refine ⟨by show 1 ≤ sizeLine; decide, fun q0 hq0 => ?_⟩
      walk_at "go"
      refine w_lcR1 (by decide) (by decide) (by decide) (fun i acc => acc = (List.range i).map fun k => V.str (SX.S (TL.numL k))) rfl ?_ ?_
      · rintro i H' acc hi s' rfl hai R S hR _
        have hi : i < 10 := hi
        walk_at "go"
        refine ⟨rfl, ?_⟩
        walk_at "go"
        rw [Int.zero_add]
        walk_at "go"
        refine hR _ _ (Same.refl _) ?_
        rw [List.range_succ, List.map_append]
        rfl
      · rintro q1 H1 acc hq1 s1 h1 rfl
        have e0 := s1 _ _ (upd_same (H := H) (a := q0))
        refine x_cat e0 h1 (by rw [List.length_map, List.length_range]; show 1 + 10 ≤ sizeLine; decide) fun q2 hq2 => ?_
        walk_at "go"
        refine w_lcR1 (by decide) (by decide) (by decide) (fun i acc => acc = (List.range i).map fun k => V.str (SX.S (TL.numL (k / 10) ++ TL.numL (k % 10)))) rfl ?_ ?_
        · rintro i H' acc hi s' rfl hai R S hR _
          have hi : i < 100 := hi
          have e1 : ((i : Int) / 10) = ((i / 10 : Nat) : Int) := rfl
          have e2 : ((i : Int) % 10) = ((i % 10 : Nat) : Int) := rfl
          have l1 : (TL.numL (i / 10)).length ≤ 1 := TL.numL_len (by decide) (by omega)
          have l2 : (TL.numL (i % 10)).length ≤ 1 := TL.numL_len (by decide) (by omega)
          walk_at "go"
          refine ⟨rfl, ?_⟩
          walk_at "go"
          rw [Int.zero_add, e1]
          walk_at "go"
          rw [e2]
          walk_at "go"
          refine x_addS (by rw [SX.S_len, SX.S_len]; exact Nat.le_trans (show _ ≤ 2 by omega) (by decide)) ?_
          rw [SX.S_cat]
          refine hR _ _ (Same.refl _) ?_
          rw [List.range_succ, List.map_append]
          rfl
        · rintro q3 H2 acc hq3 s2 h2 rfl
          have e3 := s2 _ _ (upd_same (H := H1) (a := q2))
          refine x_cat e3 h2 (by rw [List.length_append, List.length_map, List.length_map, List.length_range, List.length_range]; show 1 + 10 + 100 ≤ sizeLine; decide) fun q4 hq4 => ?_
          walk_at "go"
          have s02 : Same H H2 := Same.trans (Same.trans (Same.trans (Same.new hq0) s1) (Same.new hq2)) s2
          refine ⟨q4, _, _, _, _, _, _, _, rfl, Same.free s02 hq4, Same.trans s02 (Same.new hq4), ?_⟩
          rw [upd_same]
          unfold tailsL
          rw [List.map_append, List.map_append, List.map_map, List.map_map]
          rfl
    · rintro σ H1 ⟨tp, u1, u2, u3, u4, u5, u6, u7, rfl, htp0, s1, htp⟩
      have ntb : tp ≠ b := fun e => hB.b_some (by rw [← e]; exact htp0)
      walk_at "go"
      refine ⟨b, l, 3, rfl, hB.same s1, by decide, by decide, fun look H2 hlook hB2 kp2 => ?_⟩
      walk_at "go"
      refine ⟨b, l, 26, rfl, hB2, by decide, by decide, fun first H3 hfirst hB3 kp3 => ?_⟩
      walk_at "go"
      refine ⟨b, l, 111, rfl, hB3, by decide, by decide, fun start H4 hstart hB4 kp4 => ?_⟩
      walk_at "go"
      refine ⟨Nat.zero_le _, fun r hr => ?_⟩
      have k14 : Kp b H1 H4 := Kp.trans kp2 (Kp.trans kp3 kp4)
      have htp4 := k14 _ _ ntb htp
      have nrb : r ≠ b := fun e => hB4.b_some (by rw [← e]; exact hr)
      have ntr : tp ≠ r := ne_of_none htp4 hr
      have hr0 : H r = none := Kp.free (Kp.trans (Kp.of s1) k14) nrb hr
      walk_at "go"
      refine w_forR1 (by omega) (by omega) (fun i σ H' => H' = upd H4 r (.lst (((List.range i).map fun k => SX.S (nameL look first start k)).map V.str)) ∧ ∃ u v t : Option V, σ = [some (.ref b), some (.int many), some (.ref tp), some (.int (look : Nat)), some (.int (first : Nat)), some (.int (start : Nat)), some (.ref r), u, v, t]) ⟨rfl, _, _, _, rfl⟩ ?_ ?_
      · rintro i σ H' hi ⟨rfl, u, v, t, rfl⟩
        have hi : i < 26 := by omega
        have eL : ("abcdefghijklmnopqrstuvwxyz" : Str) = SX.S ((List.range 26).map (97 + ·)) := by decide +kernel
        have eM : ((first : Int) + 5 * (0 + (i : Int)) * (if decide ((look : Int) > 0) = true then 1 else 0)) % 26 = (((first + 5 * i * (if 0 < look then 1 else 0)) % 26 : Nat) : Int) := by
          by_cases h : 0 < look
          · rw [if_pos h, if_pos (by rw [decide_eq_true_iff]; omega)]
            omega
          · rw [if_neg h, if_neg (by rw [decide_eq_true_iff]; omega)]
            omega
        have eT : ((start : Int) + 7 * (0 + (i : Int))) % 111 = (((start + 7 * i) % 111 : Nat) : Int) := by omega
        walk_at "go"
        refine x_intB ?_
        refine x_rI (Or.inl ⟨by omega, by omega⟩) ?_
        walk_at "go"
        rw [eL]
        refine x_ixS (c := 97 + (first + 5 * i * (if 0 < look then 1 else 0)) % 26) (by rw [List.length_map, List.length_range]; decide) (atI_of eM ?_) ?_
        · rw [List.getElem?_map, List.getElem?_range (by omega)]
          rfl
        · walk_at "go"
          refine x_ixL (v := .str (SX.S (tailsL.getD ((start + 7 * i) % 111) []))) (SqL.of (upd_old hr htp4)) (atI_of eT ?_) ?_
          · rw [List.getElem?_map, tails_at]
            rfl
          · walk_at "go"
            have app : ∀ tl : List Nat, tl.length ≤ 2 → nameL look first start i = (97 + (first + 5 * i * (if 0 < look then 1 else 0)) % 26) :: tl → ∀ (D : Ends) (u7 u8 u9 : Option V), D.nx = (fun σ H' => H' = upd H4 r (.lst (((List.range (i + 1)).map fun k => SX.S (nameL look first start k)).map V.str)) ∧ ∃ u v t : Option V, σ = [some (.ref b), some (.int many), some (.ref tp), some (.int (look : Nat)), some (.int (first : Nat)), some (.int (start : Nat)), some (.ref r), u, v, t]) →
                rAddS (.str ⟨#[97 + (first + 5 * i * (if 0 < look then 1 else 0)) % 26]⟩) (.str (SX.S tl)) (upd H4 r (.lst (((List.range i).map fun k => SX.S (nameL look first start k)).map V.str))) (fun x H1 => rAppend (.ref r) [x] H1 fun x H1 => D.nx [some (.ref b), some (.int many), some (.ref tp), some (.int (look : Nat)), some (.int (first : Nat)), some (.int (start : Nat)), some (.ref r), u7, u8, u9] H1) := by
              intro tl htl en D u7 u8 u9 hD
              have e1 : (⟨#[97 + (first + 5 * i * (if 0 < look then 1 else 0)) % 26]⟩ : Str) = SX.S [97 + (first + 5 * i * (if 0 < look then 1 else 0)) % 26] := rfl
              rw [e1]
              refine x_addS (by rw [SX.S_len, SX.S_len]; exact Nat.le_trans (show _ ≤ 3 by rw [List.length_singleton]; omega) (by decide)) ?_
              rw [SX.S_cat]
              refine x_append upd_same (by rw [List.length_map, List.length_map, List.length_range]; exact Nat.lt_of_lt_of_le hi (by decide)) ?_
              rw [upd_upd, hD]
              refine ⟨?_, _, _, _, rfl⟩
              rw [List.range_succ, List.map_append, List.map_append]
              have e2 : SX.S ([97 + (first + 5 * i * (if 0 < look then 1 else 0)) % 26] ++ tl) = SX.S (nameL look first start i) := by rw [en]; rfl
              rw [e2]
              rfl
            refine x_iteD (fun h2 => ?_) (fun h2 => ?_)
            · have h2 : look = 2 := by omega
              walk_at "go"
              refine x_iteDT (by omega) ?_
              walk_at "go"
              exact app [] (Nat.zero_le _) (by unfold nameL; rw [if_pos h2]) _ _ _ _ rfl
            · have h2 : ¬ look = 2 := by omega
              walk_at "go"
              exact app _ (tails_ok _ (List.mem_of_getElem? (tails_at _))).1 (by unfold nameL; rw [if_neg h2]) _ _ _ _ rfl
      · rintro σ H' ⟨rfl, u, v, t, rfl⟩
        walk_at "go"
        refine k r _ _ hr0 upd_same (by rw [List.length_map, List.length_range]; rfl) (names_nd _ _ _ _ hm) (fun n hn => ?_) (hB4.new hr) (Kp.trans (Kp.trans (Kp.of s1) k14) (Kp.of (Same.new hr)))
        obtain ⟨j, _, e⟩ := List.mem_map.mp hn
        rw [← e]
        exact nameL_ok _ _ _ _
def spWord (K : PySem.W.Frag) : Sp := fun vs H Q _ => ∃ (p : Addr) (ns : List Str) (hands : Nat), vs = [.ref p, .int hands] ∧ H p = some (.lst (ns.map V.str)) ∧ ns.length ≤ 1000 ∧ 2 * hands ≤ ns.length ∧ ∀ (q : Addr) (feet : List Str) H', H q = none → H' q = some (.lst (feet.map V.str)) → feet.Perm (ns ++ ns) → Same H H' → Q (.ref q) H'
theorem take2 {ns : List Str} {i : Nat} {a b : Str} (h1 : ns[2 * i]? = some a) (h2 : ns[2 * i + 1]? = some b) : ns.take (2 * (i + 1)) = ns.take (2 * i) ++ [a, b] := by
  have e : 2 * (i + 1) = 2 * i + 1 + 1 := by omega
  rw [e, take_snoc h2, take_snoc h1, List.append_assoc]
  rfl
theorem perm4 {fs t : List Str} {a b : Str} (h : fs.Perm (t ++ t)) : (fs ++ [a, b, a, b]).Perm ((t ++ [a, b]) ++ (t ++ [a, b])) := by
  refine (List.Perm.append_right [a, b, a, b] h).trans ?_
  have e1 : t ++ t ++ [a, b, a, b] = t ++ (t ++ [a, b] ++ [a, b]) := by simp
  have e2 : t ++ [a, b] ++ (t ++ [a, b]) = t ++ ([a, b] ++ (t ++ [a, b])) := by simp
  rw [e1, e2]
  exact List.Perm.append_left t List.perm_append_comm
theorem perm2 {fs t : List Str} {a : Str} (h : fs.Perm (t ++ t)) : (fs ++ [a, a]).Perm ((t ++ [a]) ++ (t ++ [a])) := by
  refine (List.Perm.append_right [a, a] h).trans ?_
  have e1 : t ++ t ++ [a, a] = t ++ (t ++ [a] ++ [a]) := by simp
  have e2 : t ++ [a] ++ (t ++ [a]) = t ++ ([a] ++ (t ++ [a])) := by simp
  rw [e1, e2]
  exact List.Perm.append_left t List.perm_append_comm
theorem ok_word (B : Bi K mg) (F : FnP K "_law_word" st_l_word f fd) : FnOk P w K mg base CX0 1 f fd ["names", "hands"] (spWord K) := by
  refine F.ok sc_l_word (fun vs H Q E h => ?_) (fun cdv A outer s H vs Q E hr h => ?_)
  · obtain ⟨p, ns, hands, rfl, _⟩ := h
    rfl
  · obtain ⟨p, ns, hands, rfl, hp, hl, hh, k⟩ := h
    have G := B
    refine ⟨_, PSs.nox ((pss_cons (ps_set (i := 2) sc_l_word.nd rfl (Or.inl rfl) (pe_lst pa_nil))
      (pss_cons (ps_for PassesOwn.never rfl (pi_range1 (by rfl) G.range (pa_cons (pv 1) pa_nil)) (pg_name (i := 3) sc_l_word.nd rfl (Or.inl rfl))
        (pss_one (ps_set (i := 2) sc_l_word.nd rfl (Or.inl rfl) (pe_op op_cat (pv 2) (pe_lst (pa_cons (pe_ix ix_list (pv 0) (pe_op op_mul pe_int (pv 3)) (fun _ _ => rfl)) (pa_cons (pe_ix ix_list (pv 0) (pe_op op_add (pe_op op_mul pe_int (pv 3)) pe_int) (fun _ _ => rfl)) (pa_cons (pe_ix ix_list (pv 0) (pe_op op_mul pe_int (pv 3)) (fun _ _ => rfl)) (pa_cons (pe_ix ix_list (pv 0) (pe_op op_add (pe_op op_mul pe_int (pv 3)) pe_int) (fun _ _ => rfl)) pa_nil)))))))))
      (pss_cons (ps_for PassesOwn.never rfl (pi_list (pe_slice sl_list (pv 0) (po_some (pe_op op_mul pe_int (pv 1))) po_none)) (pg_name (i := 4) sc_l_word.nd rfl (Or.inl rfl))
        (pss_one (ps_set (i := 2) sc_l_word.nd rfl (Or.inl rfl) (pe_op op_cat (pv 2) (pe_lst (pa_cons (pv 4) (pa_cons (pv 4) pa_nil)))))))
      (pss_one (ps_ret (pv 2))))))), ?_⟩
    try dsimp only [cxOf]
    walk_at "go"
    refine ⟨Nat.zero_le _, fun q0 hq0 => ?_⟩
    walk_at "go"
    refine w_forR1 (by omega) (by omega) (fun i σ H' => Same H H' ∧ ∃ (q : Addr) (fs : List Str) (u v : Option V), σ = [some (.ref p), some (.int hands), some (.ref q), u, v] ∧ H q = none ∧ H' q = some (.lst (fs.map V.str)) ∧ fs.Perm (ns.take (2 * i) ++ ns.take (2 * i)) ∧ fs.length = 4 * i) ⟨Same.new hq0, q0, [], none, none, rfl, hq0, upd_same, List.Perm.refl _, rfl⟩ ?_ ?_
    · rintro i σ H' hi ⟨s', q, fs, u, v, rfl, hq0, hq, hpm, hfl⟩
      have hi : i < hands := by omega
      have hp' := s' _ _ hp
      obtain ⟨a, ha⟩ : ∃ a, ns[2 * i]? = some a := ⟨ns[2 * i]'(by omega), List.getElem?_eq_getElem (by omega)⟩
      obtain ⟨c, hc⟩ : ∃ c, ns[2 * i + 1]? = some c := ⟨ns[2 * i + 1]'(by omega), List.getElem?_eq_getElem (by omega)⟩
      have a1 : atI (ns.map V.str) (2 * (0 + (i : Int))) = some (.str a) := atI_of (k := 2 * i) (by omega) (by rw [List.getElem?_map, ha]; rfl)
      have c1 : atI (ns.map V.str) (2 * (0 + (i : Int)) + 1) = some (.str c) := atI_of (k := 2 * i + 1) (by omega) (by rw [List.getElem?_map, hc]; rfl)
      walk_at "go"
      refine ⟨by show 4 ≤ sizeLine; decide, fun q2 hq2 => ?_⟩
      walk_at "go"
      refine x_cat (xs := fs.map V.str) (ys := [.str a, .str c, .str a, .str c]) (upd_old hq2 hq) upd_same (by rw [List.length_map, hfl]; exact Nat.le_trans (show _ ≤ 4004 by show 4 * i + 4 ≤ 4004; omega) (by decide)) fun q3 hq3 => ?_
      walk_at "go"
      have s3 := Same.trans s' (Same.trans (Same.new (o := .lst [.str a, .str c, .str a, .str c]) hq2) (Same.new (o := .lst (fs.map V.str ++ [.str a, .str c, .str a, .str c])) hq3))
      refine ⟨s3, q3, fs ++ [a, c, a, c], _, _, rfl, Same.free (Same.trans s' (Same.new hq2)) hq3, ?_, ?_, by rw [List.length_append, hfl]; rfl⟩
      · rw [upd_same, List.map_append]
        rfl
      · rw [take2 ha hc]
        exact perm4 hpm
    · rintro σ H' ⟨s', q, fs, u, v, rfl, hq0, hq, hpm, hfl⟩
      have hp' := s' _ _ hp
      have en : (hands : Int).toNat = hands := by omega
      rw [en] at hpm hfl
      walk_at "go"
      refine x_slL (SqL.of hp') fun q2 hq2 => ?_
      have ec : cutV (ns.map V.str) (some (2 * (hands : Int))) none = (ns.drop (2 * hands)).map V.str := by
        unfold cutV
        have e1 : HT.sIx (ns.map V.str).length 0 (some (2 * (hands : Int))) = 2 * hands := by
          rw [List.length_map]
          have e0 : ¬ (2 * (hands : Int) < 0) := by omega
          unfold HT.sIx
          simp only [if_neg e0]
          omega
        have e2 : HT.sIx (ns.map V.str).length (ns.map V.str).length none = ns.length := by
          rw [List.length_map]
          rfl
        rw [e1, e2, ← List.map_drop, List.take_of_length_le (by rw [List.length_map, List.length_drop]; exact Nat.le_refl _)]
      rw [ec]
      refine w_forL (xs := (ns.drop (2 * hands)).map V.str) (SqL.of upd_same) (fun j σ H2 => Same H' H2 ∧ H2 q2 = some (.lst ((ns.drop (2 * hands)).map V.str)) ∧ ∃ (q : Addr) (fs : List Str) (u v : Option V), σ = [some (.ref p), some (.int hands), some (.ref q), u, v] ∧ H q = none ∧ H2 q = some (.lst (fs.map V.str)) ∧ fs.Perm (ns.take (2 * hands + j) ++ ns.take (2 * hands + j)) ∧ fs.length ≤ 4000 + 2 * j)
        ⟨Same.new hq2, upd_same, q, fs, _, _, rfl, hq0, upd_old hq2 hq, hpm, by omega⟩ (fun j σ H2 _ ⟨_, h, _⟩ => SqL.of h) ?_ ?_
      · rintro j y σ H2 hj ⟨s2, hq2', q, fs, u, v, rfl, hq0, hq, hpm, hfl⟩
        obtain ⟨a, rfl, ha⟩ := str_at hj
        have hjl := (List.getElem?_eq_some_iff.mp ha).1
        rw [List.length_drop] at hjl
        rw [List.getElem?_drop] at ha
        walk_at "go"
        refine ⟨by show 2 ≤ sizeLine; decide, fun q3 hq3 => ?_⟩
        refine x_cat (xs := fs.map V.str) (ys := [.str a, .str a]) (upd_old hq3 hq) upd_same (by rw [List.length_map]; exact Nat.le_trans (show _ ≤ 6004 by show fs.length + 2 ≤ 6004; omega) (by decide)) fun q4 hq4 => ?_
        walk_at "go"
        refine ⟨Same.trans s2 (Same.trans (Same.new hq3) (Same.new hq4)), upd_old hq4 (upd_old hq3 hq2'), q4, fs ++ [a, a], _, _, rfl, Same.free (Same.trans s' (Same.trans s2 (Same.new hq3))) hq4, ?_, ?_, by rw [List.length_append]; show fs.length + 2 ≤ _; omega⟩
        · rw [upd_same, List.map_append]
          rfl
        · rw [← Nat.add_assoc, take_snoc ha]
          exact perm2 hpm
      · rintro σ H2 ⟨s2, hq2', q, fs, u, v, rfl, hq0, hq, hpm, hfl⟩
        walk_at "go"
        rw [List.take_of_length_le (by rw [List.length_map, List.length_drop]; omega)] at hpm
        exact k q fs H2 hq0 hq hpm (Same.trans s' s2)
/-! ### texts of moves; comparisons with [] -/
theorem isname_ok {x : Str} (h : IsName x) : PyData.canLay0 (.str x) = true := by
  obtain ⟨c, ds, rfl, h1, h2, h3, h4⟩ := h
  show PyData.strOk (SX.S (c :: ds)) = true
  unfold PyData.strOk
  rw [show (SX.S (c :: ds)).cps = (c :: ds).toArray from rfl, List.all_toArray]
  rw [List.all_eq_true]
  intro d hd
  refine decide_eq_true ?_
  rcases List.mem_cons.mp hd with e | hd
  · omega
  · have := h4 d hd
    omega
theorem canLay_strs : ∀ {l : List Str}, (∀ x ∈ l, IsName x) → PyData.canLayAll0 (l.map PyData.str) = true
  | [], _ => by simp only [List.map_nil, PyData.canLayAll0]
  | x :: l, h => by
    simp only [List.map_cons, PyData.canLayAll0, Bool.and_eq_true]
    exact ⟨isname_ok (h x (List.mem_cons_self ..)), canLay_strs fun y hy => h y (List.mem_cons_of_mem _ hy)⟩
theorem depth_strs : ∀ (l : List Str), PyData.depthAll (l.map PyData.str) ≤ 63
  | [] => by simp [PyData.depthAll]
  | x :: l => by
    have := depth_strs l
    simp only [List.map_cons, PyData.depthAll]
    have : PyData.depth (.str x) ≤ 63 := by simp [PyData.depth]
    omega
theorem shaped_strs {l : List Str} (h : ∀ x ∈ l, IsName x) : SeqAt.shaped (.list (l.map PyData.str)) = true := by
  unfold SeqAt.shaped
  have h1 : PyData.canLay0 (.list (l.map PyData.str)) = true := by
    simp only [PyData.canLay0]
    exact canLay_strs h
  have h2 := depth_strs l
  have h3 : PyData.depth (.list (l.map PyData.str)) ≤ 64 := by
    simp only [PyData.depth]
    omega
  rw [h1, Bool.true_and]
  exact decide_eq_true h3
theorem dp_strs {K : PySem.W.Frag} {H : Hp} : ∀ l : List Str, DpAll K H (l.map V.str) (l.map PyData.str)
  | [] => .nil
  | x :: l => .cons (.str x) (dp_strs l)
theorem eqv_nil (l : List Str) : PyData.eqv (.list (l.map PyData.str)) (.list []) = decide (l = []) := by
  cases l with
  | nil => simp [PyData.eqv, PyData.eqvAll]
  | cons x l => simp [PyData.eqv, PyData.eqvAll]
theorem x_eqNil {K : PySem.W.Frag} {H : Hp} {Q : VK} {p q : Addr} {l : List Str} (hp : SqL K H p (l.map V.str)) (hq : SqL K H q []) (h : ∀ x ∈ l, IsName x) (k : Q (.bl (decide (l = []))) H) : rEqD K (.ref p) (.ref q) H Q :=
  ⟨.list (l.map PyData.str), .list [], .lst hp (dp_strs l), .lst hq .nil, shaped_strs h, shaped_strs (l := []) (fun x hx => by cases hx), by rw [eqv_nil]; exact k⟩
theorem x_neNil {K : PySem.W.Frag} {H : Hp} {Q : VK} {p q : Addr} {l : List Str} (hp : SqL K H p (l.map V.str)) (hq : SqL K H q []) (h : ∀ x ∈ l, IsName x) (k : Q (.bl (!decide (l = []))) H) : rNeD K (.ref p) (.ref q) H Q :=
  ⟨.list (l.map PyData.str), .list [], .lst hp (dp_strs l), .lst hq .nil, shaped_strs h, shaped_strs (l := []) (fun x hx => by cases hx), by rw [eqv_nil]; exact k⟩
def slideL (p : Nat) (plus : Bool) : List Nat := [115, 108, 105, 100, 101, 32] ++ TL.numL p ++ [32] ++ [if plus = true then 43 else 45]
def slideT (p : Nat) (plus : Bool) : Str := SX.S (slideL p plus)
theorem slide_split (p : Nat) (plus : Bool) : Txt.split (slideT p plus) (SX.S [32]) = [SX.S [115, 108, 105, 100, 101], SX.S (TL.numL p), SX.S [if plus = true then 43 else 45]] := by
  unfold slideT
  rw [SX.split_S (by decide) (by decide)]
  have e : slideL p plus = TL.joinL [32] [[115, 108, 105, 100, 101], TL.numL p, [if plus = true then 43 else 45]] := by
    unfold slideL
    show _ = [115, 108, 105, 100, 101] ++ ([32] ++ (TL.numL p ++ ([32] ++ [if plus = true then 43 else 45])))
    simp
  rw [e, SX.spl_join (List.cons_ne_nil _ _)]
  · rfl
  · intro q hq
    rcases List.mem_cons.mp hq with e | hq
    · rw [e]; decide
    · rcases List.mem_cons.mp hq with e | hq
      · rw [e]; exact TL.numL_free (by omega)
      · rw [List.mem_singleton.mp hq]
        cases plus <;> decide
/-- a text that moves S to S' -/
inductive Cmd (S : Own) : Str → Own → Prop where
  | turn (n : Str) (z : Int) (r : List Str) (e : S.feet = n :: r) (g : aGet S.nums n = some z) : Cmd S "turn" (turnS S n z (r ++ [n]))
  | unturn (n : Str) (z : Int) (r : List Str) (e : S.feet = r ++ [n]) (g : aGet S.nums n = some z) : Cmd S "unturn" (turnS S n z (n :: r))
  | slide (p : Nat) (plus : Bool) (x y : Str) (nx ny : Int) (hx : S.feet[p]? = some x) (hy : S.feet[nb p plus]? = some y) (h1 : plus = false → 1 ≤ p) (hn : x ≠ y) (gx : aGet S.nums x = some nx) (gy : aGet S.nums y = some ny) : Cmd S (slideT p plus) (slideS S p plus x y nx ny)
theorem Cmd.step {S S' : Own} {t : Str} (h : Cmd S t S') : Step S S' := by
  cases h with
  | turn n z r e g => exact .turn n z r e g rfl
  | unturn n z r e g => exact .unturn n z r e g rfl
  | slide p plus x y nx ny hx hy h1 hn gx gy => exact .slide ⟨p, plus, x, y, nx, ny, hx, hy, h1, hn, gx, gy, rfl⟩
theorem flat_strs (l : List Str) : (l.map V.str).all flatV = true := by
  rw [List.all_eq_true]
  intro y hy
  obtain ⟨z, _, rfl⟩ := List.mem_map.mp hy
  rfl
theorem eqV_str (a b : Str) : eqV (.str a) (.str b) = decide (a = b) := by
  show (a == b) = decide (a = b)
  by_cases e : a = b
  · subst e; simp
  · rw [decide_eq_false e]
    simpa using e
theorem x_indexS {K : PySem.W.Frag} {H : Hp} {Q : VK} {p : Addr} {l : List Str} {x : Str} (s : SqL K H p (l.map V.str)) (hx : x ∈ l) (h : Q (.int (ix l x : Nat)) H) : rIndex K (.ref p) [.str x] H Q := by
  obtain ⟨h1, h2⟩ := ix_spec hx
  refine x_index (z := .str x) s rfl (flat_strs l) (by rw [List.getElem?_map, h1]; rfl) (by rw [eqV_str, decide_eq_true rfl]) (fun m z hm hz => ?_) h
  obtain ⟨y, rfl, hy⟩ := str_at hz
  rw [eqV_str]
  exact decide_eq_false fun e => h2 m hm (by rw [hy, e])
theorem x_indexFS {K : PySem.W.Frag} {H : Hp} {Q : VK} {p : Addr} {l : List Str} {x : Str} {i : Nat} (s : SqL K H p (l.map V.str)) (hx : x ∈ l.drop i) (h : Q (.int ((i + ix (l.drop i) x : Nat) : Int)) H) : rIndexFrom K (.ref p) [.str x, .int (i : Nat)] H Q := by
  obtain ⟨h1, h2⟩ := ix_spec hx
  rw [List.getElem?_drop] at h1
  refine x_indexF (z := .str x) s rfl (flat_strs l) (Nat.le_add_right _ _) (by rw [List.getElem?_map, h1]; rfl) (by rw [eqV_str, decide_eq_true rfl]) (fun m z hi hm hz => ?_) h
  obtain ⟨y, rfl, hy⟩ := str_at hz
  rw [eqV_str]
  refine decide_eq_false fun e => ?_
  obtain ⟨m', rfl⟩ : ∃ m', m = i + m' := ⟨m - i, by omega⟩
  exact h2 m' (by omega) (by rw [List.getElem?_drop, hy, e])
theorem cut_to {l : List Str} {k : Nat} {i : Int} (e : i = (k : Nat)) : cutV (l.map V.str) none (some i) = (l.take k).map V.str := by
  subst e
  unfold cutV
  rw [HT.sIx_nat, List.length_map]
  show ((l.map V.str).drop 0).take (min k l.length - 0) = _
  rw [List.drop_zero, Nat.sub_zero, ← List.map_take]
  congr 1
  rcases Nat.le_total k l.length with h | h
  · rw [Nat.min_eq_left h]
  · rw [Nat.min_eq_right h, List.take_of_length_le (Nat.le_refl _), List.take_of_length_le h]
theorem cut_from {l : List Str} {k : Nat} {i : Int} (e : i = (k : Nat)) : cutV (l.map V.str) (some i) none = (l.drop k).map V.str := by
  subst e
  unfold cutV
  rw [HT.sIx_nat, List.length_map]
  show ((l.map V.str).drop (min k l.length)).take (l.length - min k l.length) = _
  rw [List.take_of_length_le (by rw [List.length_drop, List.length_map]; exact Nat.le_refl _), ← List.map_drop]
  congr 1
  rcases Nat.le_total k l.length with h | h
  · rw [Nat.min_eq_left h]
  · rw [Nat.min_eq_right h, List.drop_of_length_le (Nat.le_refl _), List.drop_of_length_le h]
/-- y's other place is there -/
theorem far_ok {l : List Str} {y : Str} {a : Nat} (h2 : l.count y = 2) (ha : l[a]? = some y) (he : ix l y = a) : y ∈ l.drop (a + 1) := by
  have hp := List.getElem?_eq_some_iff.mp ha
  have e1 : l = l.take a ++ y :: l.drop (a + 1) := by
    have := List.take_append_drop a l
    rw [List.drop_eq_getElem_cons hp.1, hp.2] at this
    exact this.symm
  have hnot : y ∉ l.take a := by
    intro hm
    obtain ⟨j, hj⟩ := List.getElem?_of_mem hm
    rw [List.getElem?_take] at hj
    split at hj
    · rename_i hja
      have hyl : y ∈ l := List.mem_of_getElem? ha
      exact (ix_spec hyl).2 j (by omega) hj
    · cases hj
  rw [e1, List.count_append, List.count_cons_self, List.count_eq_zero_of_not_mem hnot] at h2
  exact List.count_pos_iff.mp (by omega)
theorem count_left {S : Own} {p : Nat} {x y : Str} (hw : IsWord S.feet) (hx : S.feet[p]? = some x) (hy : y ∈ S.feet) (hn : x ≠ y) : (sl_left S p).count y = 2 := by
  have hp := List.getElem?_eq_some_iff.mp hx
  have e1 : S.feet = S.feet.take p ++ x :: S.feet.drop (p + 1) := by
    have := List.take_append_drop p S.feet
    rw [List.drop_eq_getElem_cons hp.1, hp.2] at this
    exact this.symm
  have h2 := hw.two y hy
  rw [e1, List.count_append, List.count_cons_of_ne hn] at h2
  unfold sl_left
  rw [List.count_append]
  exact h2
theorem left_at {S : Own} {p : Nat} {plus : Bool} {x y : Str} (hx : S.feet[p]? = some x) (hy : S.feet[nb p plus]? = some y) (h1 : plus = false → 1 ≤ p) : (sl_left S p)[sl_at p plus]? = some y := by
  have hp := (List.getElem?_eq_some_iff.mp hx).1
  unfold sl_left sl_at nb at *
  cases plus with
  | true =>
    simp only [if_true] at hy ⊢
    rw [List.getElem?_append_right (by rw [List.length_take]; omega), List.length_take, List.getElem?_drop]
    rw [show p + 1 + (p - min p S.feet.length) = p + 1 by omega]
    exact hy
  | false =>
    have := h1 rfl
    simp only [Bool.false_eq_true, if_false] at hy ⊢
    rw [List.getElem?_append_left (by rw [List.length_take]; omega), List.getElem?_take, if_pos (by omega)]
    exact hy
theorem spot_le {S : Own} {p : Nat} {plus : Bool} {x y : Str} (hw : IsWord S.feet) (hx : S.feet[p]? = some x) (hy : S.feet[nb p plus]? = some y) (h1 : plus = false → 1 ≤ p) (hn : x ≠ y) : farOf (sl_left S p) y (sl_at p plus) < (sl_left S p).length := by
  have hc := count_left hw hx (List.mem_of_getElem? hy) hn
  have ha := left_at hx hy h1
  have hm : y ∈ sl_left S p := List.mem_of_getElem? ha
  unfold farOf
  split
  · rename_i he
    have := (ix_spec (far_ok hc ha he)).1
    rw [List.getElem?_drop] at this
    exact (List.getElem?_eq_some_iff.mp this).1
  · exact (List.getElem?_eq_some_iff.mp (ix_spec hm).1).1
theorem slideT_ne (p : Nat) (plus : Bool) : slideT p plus ≠ "turn" ∧ slideT p plus ≠ "unturn" ∧ slideT p plus ≠ "" := by
  have e1 : ("turn" : Str) = SX.S [116, 117, 114, 110] := by decide +kernel
  have e2 : ("unturn" : Str) = SX.S [117, 110, 116, 117, 114, 110] := by decide +kernel
  have e3 : ("" : Str) = SX.S [] := by decide +kernel
  have key : ∀ l : List Nat, slideT p plus = SX.S l → l.head? = some 115 := fun l h => by
    have := SX.S_inj h
    rw [← this]
    rfl
  refine ⟨fun h => ?_, fun h => ?_, fun h => ?_⟩
  · rw [e1] at h; exact absurd (key _ h) (by decide)
  · rw [e2] at h; exact absurd (key _ h) (by decide)
  · rw [e3] at h; exact absurd (key _ h) (by decide)
theorem slideT_len {p : Nat} {plus : Bool} (h : p < 1000000) : (slideT p plus).length ≤ 20 := by
  unfold slideT slideL
  have := TL.numL_len (n := p) (k := 6) (by decide) h
  rw [SX.S_len, List.length_append, List.length_append, List.length_append]
  show 6 + (TL.numL p).length + 1 + 1 ≤ 20
  omega
theorem num_int {p : Nat} (h : p < 1000000) : PySem.intText? (SX.S (TL.numL p)) = some (p : Int) := by
  have hl := TL.numL_len (n := p) (k := 6) (by decide) h
  rw [← SX.num_S]
  exact TL.int_num (by omega)
def spSlide : Sp := fun vs H Q _ => ∃ (o fa na : Addr) (S : Own) (p : Nat) (plus : Bool) (x y : Str) (nx ny : Int), vs = [.ref o, .int p, .int (sgS plus)] ∧ OwnAt H o fa na S ∧ IsWord S.feet ∧ S.feet.length ≤ 1000 ∧ S.nums.length ≤ 1000 ∧ S.arm ≤ 1000 ∧ S.mod ≤ 1000 ∧ S.feet[p]? = some x ∧ S.feet[nb p plus]? = some y ∧ (plus = false → 1 ≤ p) ∧ x ≠ y ∧ aGet S.nums x = some nx ∧ aGet S.nums y = some ny ∧
  ∀ fa' H', Kq o na H H' → OwnAt H' o fa' na (slideS S p plus x y nx ny) → Q (.bl true) H'
theorem ok_slide (B : Bi K mg) (c_l_red : C8.Cal P w K mg base 1 "_law_red" spRed []) (F : FnP K "_law_slide" st_l_slide f fd) : FnOk P w K mg base CX0 2 f fd ["own", "p", "s"] spSlide := by
  refine F.ok sc_l_slide (fun vs H Q E h => ?_) (fun cdv A outer s H vs Q E hr h => ?_)
  · obtain ⟨o, fa, na, S, p, plus, x, y, nx, ny, rfl, _⟩ := h
    rfl
  · obtain ⟨o, fa, na, S, p, plus, x, y, nx, ny, rfl, hO, hW, hl, hnl, harm, hmod, hx, hy, h1, hn, gx, gy, k⟩ := h
    have G := B
    obtain ⟨no_fa, no_na, nfa_na⟩ := hO.of
    have hO1 := hO.o_
    have hO2 := hO.f_
    have hO3 := hO.n_
    refine ⟨_, PSs.nox ((pss_cons (ps_asg (pv 0) (pg_unl rfl (pgs_cons (pg_name (i := 3) sc_l_slide.nd rfl (Or.inl rfl)) (pgs_cons (pg_name (i := 4) sc_l_slide.nd rfl (Or.inl rfl)) (pgs_cons (pg_name (i := 5) sc_l_slide.nd rfl (Or.inl rfl)) (pgs_cons (pg_name (i := 6) sc_l_slide.nd rfl (Or.inl rfl)) pgs_nil))))))
      (pss_cons (ps_if (PW.pt (pw_or (pt_not (PW.pt (pw_and (pt_chain op_le op_lt pe_int (pv 1) (pe_callB callLenS (by rfl) G.len PySem.boot_len (pa_cons (pv 5) pa_nil))) (pw_and1 (pt_chain op_le op_lt pe_int (pe_op op_add (pv 1) (pv 2)) (pe_callB callLenS (by rfl) G.len PySem.boot_len (pa_cons (pv 5) pa_nil))))))) (pw_or1 (pt_cmpR op_eq (pe_ix ix_list (pv 5) (pv 1) (fun _ _ => rfl)) (pe_ix ix_list (pv 5) (pe_op op_add (pv 1) (pv 2)) (fun _ _ => rfl)) (nomark _)))))
        (pss_one (ps_ret pe_bl))
        pss_nil)
      (pss_cons (ps_set (i := 7) sc_l_slide.nd rfl (Or.inl rfl) (pe_ix ix_list (pv 5) (pv 1) (fun _ _ => rfl)))
      (pss_cons (ps_set (i := 8) sc_l_slide.nd rfl (Or.inl rfl) (pe_ix ix_list (pv 5) (pe_op op_add (pv 1) (pv 2)) (fun _ _ => rfl)))
      (C8.pss_cut (ps_set (i := 9) sc_l_slide.nd rfl (Or.inl rfl) (pe_ifExp (pt_cmpR op_lt (pe_bm PySem.F.plainAttrs_list PySem.F.slot_list_index PySem.F.type_list_index mt_index (pv 5) (pa_cons (pv 7) pa_nil)) (pv 1) (nomark _)) (pe_un un_neg pe_int) pe_int))
      (C8.pss_cut (ps_set (i := 10) sc_l_slide.nd rfl (Or.inl rfl) (pe_ifExp (pt_cmpR op_eq (pe_bm PySem.F.plainAttrs_list PySem.F.slot_list_index PySem.F.type_list_index mt_index (pv 5) (pa_cons (pv 8) pa_nil)) (pe_op op_add (pv 1) (pv 2)) (nomark _)) (pe_un un_neg pe_int) pe_int))
      (pss_cons (ps_set (i := 11) sc_l_slide.nd rfl (Or.inl rfl) (pe_op op_cat (pe_slice sl_list (pv 5) po_none (po_some (pv 1))) (pe_slice sl_list (pv 5) (po_some (pe_op op_add (pv 1) pe_int)) po_none)))
      (C8.pss_cut (ps_set (i := 12) sc_l_slide.nd rfl (Or.inl rfl) (pe_ifExp (pt_cmpR op_eq (pv 2) pe_int (nomark _)) (pv 1) (pe_op op_sub (pv 1) pe_int)))
      (C8.pss_cut (ps_set (i := 13) sc_l_slide.nd rfl (Or.inl rfl) (pe_ifExp (pt_cmpR op_ne (pe_bm PySem.F.plainAttrs_list PySem.F.slot_list_index PySem.F.type_list_index mt_index (pv 11) (pa_cons (pv 8) pa_nil)) (pv 12) (nomark _)) (pe_bm PySem.F.plainAttrs_list PySem.F.slot_list_index PySem.F.type_list_index mt_index (pv 11) (pa_cons (pv 8) pa_nil)) (pe_bm PySem.F.plainAttrs_list PySem.F.slot_list_index PySem.F.type_list_index mt_indexFrom (pv 11) (pa_cons (pv 8) (pa_cons (pe_op op_add (pv 12) pe_int) pa_nil)))))
      (C8.pss_cut (ps_set (i := 14) sc_l_slide.nd rfl (Or.inl rfl) (pe_ifExp (pt_cmpR op_eq (pv 2) pe_int (nomark _)) (pe_op op_add (pv 13) pe_int) (pv 13)))
      (pss_cons (ps_expr (pe_bm PySem.F.plainAttrs_list PySem.F.slot_list_insert PySem.F.type_list_insert mt_insertR (pv 11) (pa_cons (pv 14) (pa_cons (pv 7) pa_nil))))
      (C8.pss_cut (ps_set (i := 15) sc_l_slide.nd rfl (Or.inl rfl) (pe_ifExp (pt_cmpR op_lt (pe_bm PySem.F.plainAttrs_list PySem.F.slot_list_index PySem.F.type_list_index mt_index (pv 11) (pa_cons (pv 7) pa_nil)) (pv 14) (nomark _)) (pe_un un_neg pe_int) pe_int))
      (pss_cons (ps_set (i := 16) sc_l_slide.nd rfl (Or.inl rfl) (pe_op op_add (pe_op op_sub (pe_op op_mul (pe_un un_neg (pv 9)) (pe_dget (hu_of hr) (pv 6) (pv 7) (fun _ _ => rfl))) (pe_op op_mul (pv 10) (pe_dget (hu_of hr) (pv 6) (pv 8) (fun _ _ => rfl)))) (pe_op op_mul (pv 3) (pe_op op_fdiv (pe_op op_sub (pe_op op_add (pe_op op_add (pv 9) (pv 2)) (pv 10)) (pv 15)) pe_int))))
      (pss_cons (ps_dput (hu_of hr) (pv 6) (pv 7) (C8.pe_c c_l_red hr (by decide) rfl (pa_cons (pv 4) (pa_cons (pe_op op_mul (pe_un un_neg (pv 15)) (pv 16)) pa_nil))) rfl)
      (pss_cons (ps_asg (pv 11) (pg_sub (pv 0) pe_int set_list))
      (pss_one (ps_ret pe_bl)))))))))))))))))), ?_⟩
    try dsimp only [cxOf]
    have hpl := (List.getElem?_eq_some_iff.mp hx).1
    have hql := (List.getElem?_eq_some_iff.mp hy).1
    have eq : (p : Int) + sgS plus = (nb p plus : Nat) := by
      unfold sgS nb
      cases plus with
      | true => rfl
      | false => have := h1 rfl; simp; omega
    have ax : atI (S.feet.map V.str) (p : Int) = some (.str x) := atI_of rfl (by rw [List.getElem?_map, hx]; rfl)
    have ay : atI (S.feet.map V.str) ((p : Int) + sgS plus) = some (.str y) := atI_of eq (by rw [List.getElem?_map, hy]; rfl)
    have hxm : x ∈ S.feet := List.mem_of_getElem? hx
    have hym : y ∈ S.feet := List.mem_of_getElem? hy
    have c1 : decide ((0 : Int) ≤ (p : Int)) = true := decide_eq_true (by omega)
    have c2 : decide ((p : Int) < ((S.feet.map V.str).length : Nat)) = true := decide_eq_true (by rw [List.length_map]; omega)
    have c3 : decide ((0 : Int) ≤ (p : Int) + sgS plus) = true := decide_eq_true (by rw [eq]; omega)
    have c4 : decide ((p : Int) + sgS plus < ((S.feet.map V.str).length : Nat)) = true := decide_eq_true (by rw [eq, List.length_map]; omega)
    walk_at "go"
    rw [c1]
    walk_at "go"
    rw [c2]
    walk_at "go"
    rw [c3]
    walk_at "go"
    rw [c4]
    walk_at "go"
    refine x_iteDF hn ?_
    walk_at "go"
    refine x_cut (fun σ H' => H' = H ∧ σ = [some (.ref o), some (.int p), some (.int (sgS plus)), some (.int S.arm), some (.int S.mod), some (.ref fa), some (.ref na), some (.str x), some (.str y), some (.int (sl_before S p x)), none, none, none, none, none, none, none]) ?_ ?_
    · walk_at "go"
      refine x_indexS (SqL.of hO2) hxm ?_
      walk_at "go"
      refine x_iteD (fun h => ?_) (fun h => ?_)
      · have e : sl_before S p x = -1 := by
          unfold sl_before sgnB
          rw [if_pos (decide_eq_true (by omega))]
        walk_at "go"
        rw [e]
        exact ⟨rfl, rfl⟩
      · have e : sl_before S p x = 1 := by
          unfold sl_before sgnB
          rw [if_neg (by rw [decide_eq_true_iff]; omega)]
        walk_at "go"
        rw [e]
        exact ⟨rfl, rfl⟩
    rintro σ H' ⟨rfl, rfl⟩
    refine x_cut (fun σ H'' => H'' = H' ∧ σ = [some (.ref o), some (.int p), some (.int (sgS plus)), some (.int S.arm), some (.int S.mod), some (.ref fa), some (.ref na), some (.str x), some (.str y), some (.int (sl_before S p x)), some (.int (sl_along S p plus y)), none, none, none, none, none, none]) ?_ ?_
    · walk_at "go"
      refine x_indexS (SqL.of hO2) hym ?_
      walk_at "go"
      rw [eq]
      refine x_iteD (fun h => ?_) (fun h => ?_)
      · have e : sl_along S p plus y = -1 := by
          unfold sl_along sgnB
          rw [if_pos (decide_eq_true (by omega))]
        walk_at "go"
        rw [e]
        exact ⟨rfl, rfl⟩
      · have e : sl_along S p plus y = 1 := by
          unfold sl_along sgnB
          rw [if_neg (by rw [decide_eq_true_iff]; omega)]
        walk_at "go"
        rw [e]
        exact ⟨rfl, rfl⟩
    rintro σ H'' ⟨rfl, rfl⟩
    walk_at "go"
    refine x_slL (SqL.of hO2) fun q1 hq1 => ?_
    rw [cut_to rfl]
    walk_at "go"
    refine x_slL (SqL.of (upd_old hq1 hO2)) fun q2 hq2 => ?_
    rw [cut_from (k := p + 1) (by omega)]
    refine x_cat (xs := (S.feet.take p).map V.str) (ys := (S.feet.drop (p + 1)).map V.str) (upd_old hq2 upd_same) upd_same (by rw [List.length_map, List.length_map, List.length_take, List.length_drop]; exact Nat.le_trans (show _ ≤ 2000 by omega) (by decide)) fun q3 hq3 => ?_
    have el : (S.feet.take p).map V.str ++ (S.feet.drop (p + 1)).map V.str = (sl_left S p).map V.str := by
      unfold sl_left
      rw [List.map_append]
    rw [el]
    walk_at "go"
    have s3 := Same.trans (Same.trans (Same.new (o := .lst ((S.feet.take p).map V.str)) hq1) (Same.new (o := .lst ((S.feet.drop (p + 1)).map V.str)) hq2)) (Same.new (o := .lst ((sl_left S p).map V.str)) hq3)
    have hq30 := Same.free (Same.trans (Same.new (o := .lst ((S.feet.take p).map V.str)) hq1) (Same.new (o := .lst ((S.feet.drop (p + 1)).map V.str)) hq2)) hq3
    have hL3 : (upd (upd (upd H'' q1 (.lst ((S.feet.take p).map V.str))) q2 (.lst ((S.feet.drop (p + 1)).map V.str))) q3 (.lst ((sl_left S p).map V.str))) q3 = some (.lst ((sl_left S p).map V.str)) := upd_same
    revert s3 hL3
    generalize (upd (upd (upd H'' q1 (.lst ((S.feet.take p).map V.str))) q2 (.lst ((S.feet.drop (p + 1)).map V.str))) q3 (.lst ((sl_left S p).map V.str))) = H3
    intro s3 hL3
    have hlen : (sl_left S p).length + 1 = S.feet.length := by
      unfold sl_left
      rw [List.length_append, List.length_take, List.length_drop]
      omega
    have hat := left_at hx hy h1
    have hcnt := count_left hW hx hym hn
    have hyl : y ∈ sl_left S p := List.mem_of_getElem? hat
    have hfar := spot_le hW hx hy h1 hn
    refine x_cut (fun σ H' => H' = H3 ∧ σ = [some (.ref o), some (.int p), some (.int (sgS plus)), some (.int S.arm), some (.int S.mod), some (.ref fa), some (.ref na), some (.str x), some (.str y), some (.int (sl_before S p x)), some (.int (sl_along S p plus y)), some (.ref q3), some (.int (sl_at p plus : Nat)), none, none, none, none]) ?_ ?_
    · walk_at "go"
      unfold sl_at sgS
      cases plus with
      | true =>
        refine x_iteDT rfl ?_
        walk_at "go"
        exact ⟨rfl, rfl⟩
      | false =>
        have := h1 rfl
        refine x_iteDF (by decide) ?_
        walk_at "go"
        have e : (p : Int) - 1 = ((p - 1 : Nat) : Int) := by omega
        rw [e]
        exact ⟨rfl, rfl⟩
    rintro σ H' ⟨rfl, rfl⟩
    refine x_cut (fun σ H'' => H'' = H' ∧ σ = [some (.ref o), some (.int p), some (.int (sgS plus)), some (.int S.arm), some (.int S.mod), some (.ref fa), some (.ref na), some (.str x), some (.str y), some (.int (sl_before S p x)), some (.int (sl_along S p plus y)), some (.ref q3), some (.int (sl_at p plus : Nat)), some (.int (farOf (sl_left S p) y (sl_at p plus) : Nat)), none, none, none]) ?_ ?_
    · walk_at "go"
      refine x_indexS (SqL.of hL3) hyl ?_
      walk_at "go"
      refine x_iteN (fun h => ?_) (fun h => ?_)
      · have e : farOf (sl_left S p) y (sl_at p plus) = ix (sl_left S p) y := by
          unfold farOf
          rw [if_neg (by omega)]
        walk_at "go"
        refine x_indexS (SqL.of hL3) hyl ?_
        rw [e]
        exact ⟨rfl, rfl⟩
      · have h : ix (sl_left S p) y = sl_at p plus := by omega
        have e : farOf (sl_left S p) y (sl_at p plus) = sl_at p plus + 1 + ix ((sl_left S p).drop (sl_at p plus + 1)) y := by
          unfold farOf
          rw [if_pos h]
        walk_at "go"
        have e1 : ((sl_at p plus : Nat) : Int) + 1 = ((sl_at p plus + 1 : Nat) : Int) := by omega
        rw [e1]
        refine x_indexFS (SqL.of hL3) (far_ok hcnt hat h) ?_
        rw [e]
        exact ⟨rfl, rfl⟩
    rintro σ H'' ⟨rfl, rfl⟩
    refine x_cut (fun σ H' => H' = H'' ∧ σ = [some (.ref o), some (.int p), some (.int (sgS plus)), some (.int S.arm), some (.int S.mod), some (.ref fa), some (.ref na), some (.str x), some (.str y), some (.int (sl_before S p x)), some (.int (sl_along S p plus y)), some (.ref q3), some (.int (sl_at p plus : Nat)), some (.int (farOf (sl_left S p) y (sl_at p plus) : Nat)), some (.int (sl_spot S p plus y : Nat)), none, none]) ?_ ?_
    · walk_at "go"
      unfold sl_spot sgS
      cases plus with
      | true =>
        refine x_iteDT rfl ?_
        walk_at "go"
        exact ⟨rfl, rfl⟩
      | false =>
        refine x_iteDF (by decide) ?_
        walk_at "go"
        exact ⟨rfl, rfl⟩
    rintro σ H3 ⟨rfl, rfl⟩
    have hspot : sl_spot S p plus y ≤ (sl_left S p).length := by
      unfold sl_spot
      split <;> omega
    walk_at "go"
    refine x_insert (k := sl_spot S p plus y) (xs := (sl_left S p).map V.str) hL3 (by rw [List.length_map]; exact Nat.lt_of_le_of_lt (show _ ≤ 1000 by omega) (by decide)) (by omega) ?_
    have ei : ((sl_left S p).map V.str).take (sl_spot S p plus y) ++ V.str x :: ((sl_left S p).map V.str).drop (sl_spot S p plus y) = (sl_feet S p plus x y).map V.str := by
      unfold sl_feet ins
      rw [List.map_append, List.map_cons, List.map_take, List.map_drop]
    rw [ei]
    have hxf : x ∈ sl_feet S p plus x y := by
      unfold sl_feet ins
      exact List.mem_append_right _ (List.mem_cons_self ..)
    walk_at "go"
    refine x_cut (fun σ H' => H' = upd H3 q3 (.lst ((sl_feet S p plus x y).map V.str)) ∧ σ = [some (.ref o), some (.int p), some (.int (sgS plus)), some (.int S.arm), some (.int S.mod), some (.ref fa), some (.ref na), some (.str x), some (.str y), some (.int (sl_before S p x)), some (.int (sl_along S p plus y)), some (.ref q3), some (.int (sl_at p plus : Nat)), some (.int (farOf (sl_left S p) y (sl_at p plus) : Nat)), some (.int (sl_spot S p plus y : Nat)), some (.int (sl_behind S p plus x y)), none]) ?_ ?_
    · walk_at "go"
      refine x_indexS (SqL.of upd_same) hxf ?_
      walk_at "go"
      refine x_iteD (fun h => ?_) (fun h => ?_)
      · have e : sl_behind S p plus x y = -1 := by
          unfold sl_behind sgnB
          rw [if_pos (decide_eq_true (by omega))]
        walk_at "go"
        rw [e]
        exact ⟨rfl, rfl⟩
      · have e : sl_behind S p plus x y = 1 := by
          unfold sl_behind sgnB
          rw [if_neg (by rw [decide_eq_true_iff]; omega)]
        walk_at "go"
        rw [e]
        exact ⟨rfl, rfl⟩
    rintro σ H' ⟨rfl, rfl⟩
    have hq3o : o ≠ q3 := ne_of_none hO1 hq30
    have hq3n : na ≠ q3 := ne_of_none hO3 hq30
    have hn4 : (upd H3 q3 (.lst ((sl_feet S p plus x y).map V.str))) na = some (.dK (dD V.int S.nums)) := by rw [upd_ne hq3n]; exact s3 _ _ hO3
    have ho4 : (upd H3 q3 (.lst ((sl_feet S p plus x y).map V.str))) o = some (.lst [.int S.arm, .int S.mod, .ref fa, .ref na]) := by rw [upd_ne hq3o]; exact s3 _ _ hO1
    have sb : sl_before S p x = 1 ∨ sl_before S p x = -1 := sgnB_or _
    have sa : sl_along S p plus y = 1 ∨ sl_along S p plus y = -1 := sgnB_or _
    have sd : sl_behind S p plus x y = 1 ∨ sl_behind S p plus x y = -1 := sgnB_or _
    walk_at "go"
    refine x_dgetS (v := .int nx) (.inl hn4) (by rw [valV_dD, gx]; rfl) ?_
    walk_at "go"
    refine x_dgetS (v := .int ny) (.inl hn4) (by rw [valV_dD, gy]; rfl) ?_
    walk_at "go"
    refine ⟨S.mod, _, rfl, hmod, ?_⟩
    walk_at "go"
    refine x_dputS hn4 (by rw [dD_len]; exact Nat.lt_of_le_of_lt hnl (by decide)) ?_
    rw [putK_dD]
    have hno4 : o ≠ na := no_na
    walk_at "go"
    refine k q3 _ ?_ ⟨upd_same, ?_, ?_⟩
    · refine Kq.upd1 (Kq.upd2 ?_)
      intro a u n1 n2 ha
      rw [upd_ne (ne_of_none ha hq30)]
      exact s3 _ _ ha
    · rw [upd_ne (Ne.symm hq3o), upd_ne (Ne.symm hq3n), upd_same]
      rfl
    · rw [upd_ne (Ne.symm hno4), upd_same]
      rfl
theorem atI_last (l : List V) (v : V) : atI (l ++ [v]) (-1) = some v := by
  unfold atI ixN
  rw [if_neg (by decide), List.length_append, List.length_singleton, if_pos (by omega)]
  show (l ++ [v])[((-1 : Int) + ((l.length + 1 : Nat) : Int)).toNat]? = some v
  rw [show ((-1 : Int) + ((l.length + 1 : Nat) : Int)).toNat = l.length by omega, List.getElem?_append_right (Nat.le_refl _), Nat.sub_self]
  rfl
theorem cut_last {l r : List Str} {n : Str} (e : l = r ++ [n]) : cutV (l.map V.str) (some (-1)) none = [V.str n] := by
  subst e
  unfold cutV
  have e1 : HT.sIx ((r ++ [n]).map V.str).length 0 (some (-1)) = r.length := by
    rw [List.length_map, List.length_append, List.length_singleton]
    show (if (-1 : Int) < 0 then ((-1 : Int) + ((r.length + 1 : Nat) : Int)).toNat else min (-1 : Int).toNat (r.length + 1)) = r.length
    rw [if_pos (by decide)]
    omega
  rw [e1, List.map_append, List.drop_left' (by rw [List.length_map])]
  show List.take (_ - _) [V.str n] = _
  rw [List.take_of_length_le]
  show 1 ≤ (List.map V.str r ++ List.map V.str [n]).length - r.length
  rw [List.length_append, List.length_map, List.length_map, List.length_singleton]
  omega
theorem cut_init {l r : List Str} {n : Str} (e : l = r ++ [n]) : cutV (l.map V.str) none (some (-1)) = r.map V.str := by
  subst e
  unfold cutV
  have e1 : HT.sIx ((r ++ [n]).map V.str).length ((r ++ [n]).map V.str).length (some (-1)) = r.length := by
    rw [List.length_map, List.length_append, List.length_singleton]
    show (if (-1 : Int) < 0 then ((-1 : Int) + ((r.length + 1 : Nat) : Int)).toNat else min (-1 : Int).toNat (r.length + 1)) = r.length
    rw [if_pos (by decide)]
    omega
  rw [e1]
  show ((List.map V.str (r ++ [n])).drop 0).take (r.length - 0) = _
  rw [List.drop_zero, Nat.sub_zero, List.map_append, List.take_left' (by rw [List.length_map])]
theorem dec_of {p : Prop} [Decidable p] (h : p) : decide p = true := decide_eq_true h
def spDo (K : PySem.W.Frag) : Sp := fun vs H Q _ => ∃ (o fa na : Addr) (S S' : Own) (t : Str), vs = [.ref o, .str t] ∧ OwnAt H o fa na S ∧ S.Ok ∧ Cmd S t S' ∧ ∀ fa' H', Kq o na H H' → OwnAt H' o fa' na S' → Q (.bl true) H'
theorem ok_do (B : Bi K mg) (c_l_red : C8.Cal P w K mg base 1 "_law_red" spRed []) (c_l_slide : C8.Cal P w K mg base 2 "_law_slide" spSlide []) (F : FnP K "_law_do" st_l_do f fd) : FnOk P w K mg base CX0 3 f fd ["own", "text"] (spDo K) := by
  refine F.ok sc_l_do (fun vs H Q E h => ?_) (fun cdv A outer s H vs Q E hr h => ?_)
  · obtain ⟨o, fa, na, S, S', t, rfl, _⟩ := h
    rfl
  · obtain ⟨o, fa, na, S, S', t, rfl, hO, hK, hC, k⟩ := h
    have G := B
    obtain ⟨no_fa, no_na, nfa_na⟩ := hO.of
    have hO1 := hO.o_
    have hO2 := hO.f_
    have hO3 := hO.n_
    have hlen := hK.ln
    have hnl := hK.nl
    refine ⟨_, PSs.nox ((pss_cons (ps_set (i := 2) sc_l_do.nd rfl (Or.inl rfl) (pe_ix ix_list (pv 0) pe_int (fun _ _ => rfl)))
      (pss_cons (ps_set (i := 3) sc_l_do.nd rfl (Or.inl rfl) (pe_ix ix_list (pv 0) pe_int (fun _ _ => rfl)))
      (pss_cons (ps_if (pt_not (pt_val (pe_callB call_isi (by rfl) G.isinstance (by decide +kernel) (pa_cons (pv 1) (pa_cons (pe_bltn (v := .ty "str") (u := .type "str") (by rfl) G.str (by decide +kernel) rfl) pa_nil)))))
        (pss_one (ps_ret pe_bl))
        pss_nil)
      (pss_cons (ps_if (PW.pt (pw_or (pt_cmpR op_eq (pv 1) pe_str (nomark _)) (pw_or1 (pt_cmpR op_eq (pv 1) pe_str (nomark _)))))
        (pss_cons (ps_if (pt_cmpR (op_eqD hr.units) (pv 2) (pe_lst pa_nil) (nomark _))
          (pss_one (ps_ret pe_bl))
          pss_nil)
        (pss_cons (ps_set (i := 4) sc_l_do.nd rfl (Or.inl rfl) (pe_ifExp (pt_cmpR op_eq (pv 1) pe_str (nomark _)) (pe_ix ix_list (pv 2) pe_int (fun _ _ => rfl)) (pe_ix ix_list (pv 2) (pe_un un_neg pe_int) (fun _ _ => rfl))))
        (pss_cons (ps_asg (pe_ifExp (pt_cmpR op_eq (pv 1) pe_str (nomark _)) (pe_op op_cat (pe_slice sl_list (pv 2) (po_some pe_int) po_none) (pe_slice sl_list (pv 2) po_none (po_some pe_int))) (pe_op op_cat (pe_slice sl_list (pv 2) (po_some (pe_un un_neg pe_int)) po_none) (pe_slice sl_list (pv 2) po_none (po_some (pe_un un_neg pe_int))))) (pg_sub (pv 0) pe_int set_list))
        (pss_cons (ps_dput (hu_of hr) (pv 3) (pv 4) (C8.pe_c c_l_red hr (by decide) rfl (pa_cons (pe_ix ix_list (pv 0) pe_int (fun _ _ => rfl)) (pa_cons (pe_op op_sub (pe_op op_mul pe_int (pe_ix ix_list (pv 0) pe_int (fun _ _ => rfl))) (pe_dget (hu_of hr) (pv 3) (pv 4) (fun _ _ => rfl))) pa_nil))) rfl)
        (pss_one (ps_ret pe_bl))))))
        pss_nil)
      (pss_cons (ps_set (i := 5) sc_l_do.nd rfl (Or.inl rfl) (pe_splitR (pv 1) pe_str))
      (pss_cons (ps_if (PW.pt (pw_or (pt_cmpR op_ne (pe_callB callLenS (by rfl) G.len PySem.boot_len (pa_cons (pv 5) pa_nil)) pe_int (nomark _)) (pw_or (pt_cmpR op_ne (pe_ix ix_list (pv 5) pe_int (fun _ _ => rfl)) pe_str (nomark _)) (pw_or (pt_cmpR op_notIn_seq (pe_ix ix_list (pv 5) pe_int (fun _ _ => rfl)) (pe_lst (pa_cons pe_str (pa_cons pe_str pa_nil))) (by rfl)) (pw_or1 (pt_not (pt_chain op_lt op_lt pe_int (pe_callB call_lenSt (by rfl) G.len PySem.boot_len (pa_cons (pe_ix ix_list (pv 5) pe_int (fun _ _ => rfl)) pa_nil)) pe_int)))))))
        (pss_one (ps_ret pe_bl))
        pss_nil)
      (pss_cons (ps_if (PW.pt (pw_or (pt_cmpR (op_neD hr.units) (pe_lc (own := [("sign", 6)]) rfl sc_l_do.nd (pi_str (pe_ix ix_list (pv 5) pe_int (fun _ _ => rfl))) (blkOk_by (own := [("sign", 6)]) (N := ["own", "text", "feet", "nums", "name", "items", "sign"]) (sc := defScope st_l_do) (by decide +kernel)) (fun _ _ _ _ _ => (pg_name (i := 6) sc_l_do.nd rfl (Or.inl rfl))) (fun _ _ _ _ _ => (pts_one (pt_cmpR op_niSg (pv 6) pe_str rfl))) (fun _ _ _ _ _ => (pv 6))) (pe_lst pa_nil) (nomark _)) (pw_or1 (pt_cmpR op_ne (pe_callTy call_strI (by rfl) G.str (by decide +kernel) (pa_cons (pe_callTy call_intS (by rfl) G.int (by decide +kernel) (pa_cons (pe_ix ix_list (pv 5) pe_int (fun _ _ => rfl)) pa_nil)) pa_nil)) (pe_ix ix_list (pv 5) pe_int (fun _ _ => rfl)) (nomark _)))))
        (pss_one (ps_ret pe_bl))
        pss_nil)
      (pss_one (ps_ret (C8.pe_c c_l_slide hr (by decide) rfl (pa_cons (pv 0) (pa_cons (pe_callTy call_intS (by rfl) G.int (by decide +kernel) (pa_cons (pe_ix ix_list (pv 5) pe_int (fun _ _ => rfl)) pa_nil)) (pa_cons (pe_ifExp (pt_cmpR op_eq (pe_ix ix_list (pv 5) pe_int (fun _ _ => rfl)) pe_str (nomark _)) pe_int (pe_un un_neg pe_int)) pa_nil)))))))))))))), ?_⟩
    try dsimp only [cxOf]
    walk_at "go"
    cases hC with
    | turn n z r e g =>
      refine x_iteDT rfl ?_
      walk_at "go"
      refine ⟨Nat.zero_le _, fun q0 hq0 => ?_⟩
      walk_at "go"
      refine x_eqNil (l := S.feet) (SqL.of (upd_old hq0 hO2)) (SqL.of upd_same) hK.wd.nm ?_
      walk_at "go"
      refine x_iteDF (by rw [e]; intro z; cases z) ?_
      walk_at "go"
      refine x_iteDT rfl ?_
      have s0 : Same H (upd H q0 (.lst [])) := Same.new hq0
      have hO1' := s0 _ _ hO1
      have hO2' := s0 _ _ hO2
      have hO3' := s0 _ _ hO3
      revert s0 hO1' hO2' hO3'
      generalize upd H q0 (.lst []) = H0
      intro s0 hO1' hO2' hO3'
      have a0 : atI (S.feet.map V.str) 0 = some (.str n) := atI_of (k := 0) rfl (by rw [e]; rfl)
      walk_at "go"
      refine x_iteDT rfl ?_
      walk_at "go"
      refine x_slL (SqL.of hO2') fun q1 hq1 => ?_
      rw [cut_from (i := 1) (k := 1) rfl]
      walk_at "go"
      refine x_slL (SqL.of (upd_old hq1 hO2')) fun q2 hq2 => ?_
      rw [cut_to (i := 1) (k := 1) rfl]
      refine x_cat (xs := (S.feet.drop 1).map V.str) (ys := (S.feet.take 1).map V.str) (upd_old hq2 upd_same) upd_same (by rw [List.length_map, List.length_map, List.length_take, List.length_drop]; exact Nat.le_trans (show _ ≤ 800 by omega) (by decide)) fun q3 hq3 => ?_
      have s3 : Same H (upd (upd (upd H0 q1 (.lst ((S.feet.drop 1).map V.str))) q2 (.lst ((S.feet.take 1).map V.str))) q3 (.lst ((S.feet.drop 1).map V.str ++ (S.feet.take 1).map V.str))) := Same.trans s0 (Same.trans (Same.trans (Same.new hq1) (Same.new hq2)) (Same.new hq3))
      have hq30 : H q3 = none := Same.free (Same.trans s0 (Same.trans (Same.new (o := .lst ((S.feet.drop 1).map V.str)) hq1) (Same.new (o := .lst ((S.feet.take 1).map V.str)) hq2))) hq3
      have hL3 : (upd (upd (upd H0 q1 (.lst ((S.feet.drop 1).map V.str))) q2 (.lst ((S.feet.take 1).map V.str))) q3 (.lst ((S.feet.drop 1).map V.str ++ (S.feet.take 1).map V.str))) q3 = some (.lst ((r ++ [n]).map V.str)) := by
        rw [upd_same, e, List.map_append]
        rfl
      revert s3 hL3
      generalize (upd (upd (upd H0 q1 (.lst ((S.feet.drop 1).map V.str))) q2 (.lst ((S.feet.take 1).map V.str))) q3 (.lst ((S.feet.drop 1).map V.str ++ (S.feet.take 1).map V.str))) = H3
      intro s3 hL3
      have hq3o : o ≠ q3 := ne_of_none hO1 hq30
      have hq3n : na ≠ q3 := ne_of_none hO3 hq30
      walk_at "go"
      have hO1s : upd H3 o (.lst ([V.int S.arm, V.int S.mod, .ref fa, .ref na].set 2 (.ref q3))) o = some (.lst [.int S.arm, .int S.mod, .ref q3, .ref na]) := by rw [upd_same]; rfl
      have hO3s : upd H3 o (.lst ([V.int S.arm, V.int S.mod, .ref fa, .ref na].set 2 (.ref q3))) na = some (.dK (dD V.int S.nums)) := by rw [upd_ne (Ne.symm no_na)]; exact s3 _ _ hO3
      walk_at "go"
      refine x_dgetS (v := .int z) (.inl hO3s) (by rw [valV_dD, g]; rfl) ?_
      walk_at "go"
      refine ⟨S.mod, _, rfl, Nat.le_trans hK.m2 (by decide), ?_⟩
      walk_at "go"
      refine x_dputS hO3s (by rw [dD_len]; exact Nat.lt_of_le_of_lt hnl (by decide)) ?_
      rw [putK_dD]
      walk_at "go"
      refine k q3 _ (Kq.upd2 (Kq.upd1 (Kq.of s3))) ⟨?_, ?_, upd_same⟩
      · rw [upd_ne no_na]
        exact hO1s
      · rw [upd_ne (Ne.symm hq3n), upd_ne (Ne.symm hq3o)]
        exact hL3
    | unturn n z r e g =>
      refine x_iteDF (by decide +kernel) ?_
      walk_at "go"
      refine x_iteDT rfl ?_
      walk_at "go"
      refine ⟨Nat.zero_le _, fun q0 hq0 => ?_⟩
      walk_at "go"
      refine x_eqNil (l := S.feet) (SqL.of (upd_old hq0 hO2)) (SqL.of upd_same) hK.wd.nm ?_
      walk_at "go"
      refine x_iteDF (by rw [e]; intro z; exact absurd z (by simp)) ?_
      walk_at "go"
      refine x_iteDF (by decide +kernel) ?_
      have s0 : Same H (upd H q0 (.lst [])) := Same.new hq0
      have hO1' := s0 _ _ hO1
      have hO2' := s0 _ _ hO2
      have hO3' := s0 _ _ hO3
      revert s0 hO1' hO2' hO3'
      generalize upd H q0 (.lst []) = H0
      intro s0 hO1' hO2' hO3'
      have a0 : atI (S.feet.map V.str) (-1) = some (.str n) := by
        rw [e, List.map_append]
        exact atI_last _ _
      walk_at "go"
      refine x_iteDF (by decide +kernel) ?_
      walk_at "go"
      refine x_slL (SqL.of hO2') fun q1 hq1 => ?_
      rw [cut_last e]
      walk_at "go"
      refine x_slL (SqL.of (upd_old hq1 hO2')) fun q2 hq2 => ?_
      rw [cut_init e]
      refine x_cat (xs := [V.str n]) (ys := r.map V.str) (upd_old hq2 upd_same) upd_same (by rw [List.length_map]; have := congrArg List.length e; rw [List.length_append, List.length_singleton] at this; exact Nat.le_trans (show _ ≤ 800 by show 1 + r.length ≤ 800; omega) (by decide)) fun q3 hq3 => ?_
      have s3 : Same H (upd (upd (upd H0 q1 (.lst ([V.str n]))) q2 (.lst (r.map V.str))) q3 (.lst ([V.str n] ++ r.map V.str))) := Same.trans s0 (Same.trans (Same.trans (Same.new hq1) (Same.new hq2)) (Same.new hq3))
      have hq30 : H q3 = none := Same.free (Same.trans s0 (Same.trans (Same.new (o := .lst ([V.str n])) hq1) (Same.new (o := .lst (r.map V.str)) hq2))) hq3
      have hL3 : (upd (upd (upd H0 q1 (.lst ([V.str n]))) q2 (.lst (r.map V.str))) q3 (.lst ([V.str n] ++ r.map V.str))) q3 = some (.lst ((n :: r).map V.str)) := by
        rw [upd_same]
        rfl
      revert s3 hL3
      generalize (upd (upd (upd H0 q1 (.lst ([V.str n]))) q2 (.lst (r.map V.str))) q3 (.lst ([V.str n] ++ r.map V.str))) = H3
      intro s3 hL3
      have hq3o : o ≠ q3 := ne_of_none hO1 hq30
      have hq3n : na ≠ q3 := ne_of_none hO3 hq30
      walk_at "go"
      have hO1s : upd H3 o (.lst ([V.int S.arm, V.int S.mod, .ref fa, .ref na].set 2 (.ref q3))) o = some (.lst [.int S.arm, .int S.mod, .ref q3, .ref na]) := by rw [upd_same]; rfl
      have hO3s : upd H3 o (.lst ([V.int S.arm, V.int S.mod, .ref fa, .ref na].set 2 (.ref q3))) na = some (.dK (dD V.int S.nums)) := by rw [upd_ne (Ne.symm no_na)]; exact s3 _ _ hO3
      walk_at "go"
      refine x_dgetS (v := .int z) (.inl hO3s) (by rw [valV_dD, g]; rfl) ?_
      walk_at "go"
      refine ⟨S.mod, _, rfl, Nat.le_trans hK.m2 (by decide), ?_⟩
      walk_at "go"
      refine x_dputS hO3s (by rw [dD_len]; exact Nat.lt_of_le_of_lt hnl (by decide)) ?_
      rw [putK_dD]
      walk_at "go"
      refine k q3 _ (Kq.upd2 (Kq.upd1 (Kq.of s3))) ⟨?_, ?_, upd_same⟩
      · rw [upd_ne no_na]
        exact hO1s
      · rw [upd_ne (Ne.symm hq3n), upd_ne (Ne.symm hq3o)]
        exact hL3
    | slide p plus x y nx ny hx hy h1 hn gx gy =>
      obtain ⟨t1, t2, _⟩ := slideT_ne p plus
      have hpl := (List.getElem?_eq_some_iff.mp hx).1
      have hp6 : p < 1000000 := by omega
      have hnl6 : (TL.numL p).length ≤ 6 := TL.numL_len (by decide) hp6
      have hnl1 : 1 ≤ (TL.numL p).length := by
        rcases Nat.eq_zero_or_pos (TL.numL p).length with e | e
        · exact absurd (List.eq_nil_of_length_eq_zero e) (TL.numL_ne p)
        · exact e
      have e32 : (" " : Str) = SX.S [32] := by decide +kernel
      have es : ("slide" : Str) = SX.S [115, 108, 105, 100, 101] := by decide +kernel
      refine x_iteDF t1 ?_
      walk_at "go"
      refine x_iteDF t2 ?_
      walk_at "go"
      rw [e32]
      refine x_split (by decide) (Nat.le_trans (Nat.add_le_add_right (slideT_len hp6) 2) (by decide)) fun it hit => ?_
      rw [slide_split]
      have sI : Same H (upd H it (.lst ([SX.S [115, 108, 105, 100, 101], SX.S (TL.numL p), SX.S [if plus = true then 43 else 45]].map V.str))) := Same.new hit
      have hI : (upd H it (.lst ([SX.S [115, 108, 105, 100, 101], SX.S (TL.numL p), SX.S [if plus = true then 43 else 45]].map V.str))) it = some (.lst [.str (SX.S [115, 108, 105, 100, 101]), .str (SX.S (TL.numL p)), .str (SX.S [if plus = true then 43 else 45])]) := upd_same
      revert sI hI
      generalize (upd H it (.lst ([SX.S [115, 108, 105, 100, 101], SX.S (TL.numL p), SX.S [if plus = true then 43 else 45]].map V.str))) = H1
      intro sI hI
      walk_at "go"
      refine x_iteNDF rfl ?_
      walk_at "go"
      refine x_iteNDF es.symm ?_
      walk_at "go"
      refine ⟨by show 2 ≤ sizeLine; decide, fun pm hpm => ?_⟩
      walk_at "go"
      refine ⟨pm, [.str "+", .str "-"], rfl, .inl (SqL.of upd_same), rfl, rfl, ?_⟩
      have ein : inV (.str (SX.S [if plus = true then 43 else 45])) [.str "+", .str "-"] = true := by
        cases plus <;> decide +kernel
      rw [ein, show (if true = true then !true else true) = false from rfl]
      have eD : ("0123456789" : Str).cps.toList = (List.range 10).map (48 + ·) := by decide +kernel
      have hdg := TL.numL_digits p
      walk_at "go"
      refine x_lenSt (by rw [SX.S_len]; exact Nat.le_trans hnl6 (by decide)) ?_
      rw [SX.S_len]
      walk_at "go"
      refine x_iteDT (by omega) ?_
      walk_at "go"
      refine x_iteNDF (by omega) ?_
      have hI2 : (upd H1 pm (.lst [V.str "+", V.str "-"])) it = some (.lst [.str (SX.S [115, 108, 105, 100, 101]), .str (SX.S (TL.numL p)), .str (SX.S [if plus = true then 43 else 45])]) := upd_old hpm hI
      have sI2 : Same H (upd H1 pm (.lst [V.str "+", V.str "-"])) := Same.trans sI (Same.new hpm)
      revert hI2 sI2
      generalize (upd H1 pm (.lst [V.str "+", V.str "-"])) = H2
      intro hI2 sI2
      walk_at "go"
      refine w_lcStr (Nat.lt_of_le_of_lt hnl6 (by decide)) (fun i acc => acc = []) rfl ?_ ?_
      · rintro i c H' acc hi s' rfl _ R S2 _ hS2
        walk_at "go"
        refine ⟨rfl, ?_⟩
        walk_at "go"
        have hc : c ∈ ("0123456789" : Str).cps.toList := by
          rw [eD]
          have := hdg c (List.mem_of_getElem? hi)
          exact List.mem_map.mpr ⟨c - 48, List.mem_range.mpr (by omega), by omega⟩
        rw [decide_eq_true hc]
        refine iteF ?_
        exact hS2 _ (Same.refl _) rfl
      · rintro q1 H3 acc hq1 s3 h3 rfl
        walk_at "go"
        refine ⟨Nat.zero_le _, fun q2 hq2 => ?_⟩
        refine x_neNil (l := []) (SqL.of (upd_old hq2 h3)) (SqL.of upd_same) (fun z hz => by cases hz) ?_
        walk_at "go"
        refine x_iteNDF rfl ?_
        have hI4 := upd_old (o := HO.lst []) hq2 (s3 _ _ hI2)
        have s4 : Same H (upd H3 q2 (.lst [])) := Same.trans sI2 (Same.trans s3 (Same.new hq2))
        revert hI4 s4
        generalize upd H3 q2 (.lst []) = H4
        intro hI4 s4
        have r1 : atI [V.str (SX.S [115, 108, 105, 100, 101]), .str (SX.S (TL.numL p)), .str (SX.S [if plus = true then 43 else 45])] 1 = some (.str (SX.S (TL.numL p))) := rfl
        walk_at "go"
        refine x_intS (num_int hp6) (by rw [SX.S_len]; exact Nat.le_trans hnl6 (by decide)) ?_
        walk_at "go"
        refine x_iteNDF rfl ?_
        walk_at "go"
        refine x_intS (num_int hp6) (by rw [SX.S_len]; exact Nat.le_trans hnl6 (by decide)) ?_
        walk_at "go"
        have ep : ("+" : Str) = SX.S [43] := by decide +kernel
        rw [ep]
        have fin : ∀ (Q2 : VK), Q2 = Q → spSlide [.ref o, .int p, .int (sgS plus)] H4 Q2 C8.E0 := fun Q2 e2 => by
          subst e2
          exact ⟨o, fa, na, S, p, plus, x, y, nx, ny, rfl, hO.same s4, hK.wd, by omega, by omega, Nat.le_trans hK.a2 (by decide), Nat.le_trans hK.m2 (by decide), hx, hy, h1, hn, gx, gy, fun fa' H' kq hO' => k fa' H' (Kq.trans (Kq.of s4) kq) hO'⟩
        cases plus with
        | true =>
          refine x_iteDT rfl ?_
          walk_at "go"
          exact fin _ rfl
        | false =>
          refine x_iteDF (by decide +kernel) ?_
          walk_at "go"
          exact fin _ rfl
def spMove : Sp := fun vs H Q _ => ∃ (b l o fa na : Addr) (S : Own), vs = [.ref b, .ref o] ∧ BagAt H b l ∧ OwnAt H o fa na S ∧ S.Ok ∧ ∀ (t : Str) H', BagAt H' b l → Kp b H H' → ((S.feet = [] ∧ t = "") ∨ (S.feet ≠ [] ∧ t ≠ "" ∧ ∃ S', Cmd S t S')) → Q (.str t) H'
theorem has_num {S : Own} (k : S.Ok) {n : Str} (h : n ∈ S.feet) : ∃ z, aGet S.nums n = some z := by
  obtain ⟨z, hz, _⟩ := aGet_of_mem (k.fk n h)
  exact ⟨z, hz⟩
theorem bag_own {H : Hp} {b l o fa na : Addr} {S : Own} (hB : BagAt H b l) (hO : OwnAt H o fa na S) : o ≠ b ∧ fa ≠ b ∧ na ≠ b ∧ o ≠ l := by
  obtain ⟨ns, i, g, e, x, c, h1, h2, _⟩ := hB.ex
  refine ⟨ne_of_some hO.o_ h1 (by intro z; injection z with z; injection z with z _; cases z), ne_of_some hO.f_ h1 ?_, ne_of_some hO.n_ h1 (by intro z; cases z), ne_of_some hO.o_ h2 ?_⟩
  · intro z
    injection z with z
    cases e : S.feet with
    | nil => rw [e] at z; cases z
    | cons a l => rw [e] at z; cases z
  · intro z
    injection z with z
    match ns, z with
    | [], z => cases z
    | [_], z => cases z
    | [_, _], z => cases z
    | _ :: _ :: _ :: _, z => cases z
theorem ok_move (B : Bi K mg) (c_l_draw : C8.Cal P w K mg base 1 "_law_draw" spDraw []) (F : FnP K "_law_move" st_l_move f fd) : FnOk P w K mg base CX0 2 f fd ["bag", "own"] spMove := by
  refine F.ok sc_l_move (fun vs H Q E h => ?_) (fun cdv A outer s H vs Q E hr h => ?_)
  · obtain ⟨b, l, o, fa, na, S, rfl, _⟩ := h
    rfl
  · obtain ⟨b, l, o, fa, na, S, rfl, hB, hO, hK, k⟩ := h
    have G := B
    obtain ⟨no_fa, no_na, nfa_na⟩ := hO.of
    obtain ⟨nob, nfb, nnb, nol⟩ := bag_own hB hO
    have hO1 := hO.o_
    have hO2 := hO.f_
    have hlen := hK.ln
    refine ⟨_, PSs.nox ((pss_cons (ps_set (i := 2) sc_l_move.nd rfl (Or.inl rfl) (pe_ix ix_list (pv 1) pe_int (fun _ _ => rfl)))
      (pss_cons (ps_if (pt_cmpR (op_eqD hr.units) (pv 2) (pe_lst pa_nil) (nomark _))
        (pss_one (ps_ret pe_str))
        pss_nil)
      (pss_cons (ps_set (i := 3) sc_l_move.nd rfl (Or.inl rfl) (C8.pe_c c_l_draw hr (by decide) rfl (pa_cons (pv 0) (pa_cons (pe_op op_add (pe_callB callLenS (by rfl) G.len PySem.boot_len (pa_cons (pv 2) pa_nil)) pe_int) pa_nil))))
      (pss_cons (ps_set (i := 4) sc_l_move.nd rfl (Or.inl rfl) (C8.pe_c c_l_draw hr (by decide) rfl (pa_cons (pv 0) (pa_cons pe_int pa_nil))))
      (pss_cons (ps_for PassesOwn.never rfl (pi_range1 (by rfl) G.range (pa_cons pe_int pa_nil)) (pg_name (i := 5) sc_l_move.nd rfl (Or.inl rfl))
        (pss_cons (ps_set (i := 6) sc_l_move.nd rfl (Or.inl rfl) (pe_op op_sub (pe_op op_add (pv 3) (pe_op op_mul pe_int (pv 4))) pe_int))
        (pss_cons (ps_if (PW.pt (pw_and (pt_cmpR op_lt (pv 3) (pe_callB callLenS (by rfl) G.len PySem.boot_len (pa_cons (pv 2) pa_nil)) (nomark _)) (pw_and (pt_chain op_le op_lt pe_int (pv 6) (pe_callB callLenS (by rfl) G.len PySem.boot_len (pa_cons (pv 2) pa_nil))) (pw_and1 (pt_cmpR op_ne (pe_ix ix_list (pv 2) (pv 3) (fun _ _ => rfl)) (pe_ix ix_list (pv 2) (pv 6) (fun _ _ => rfl)) (nomark _))))))
          (pss_one (ps_ret (pe_op op_addS (pe_op op_addS (pe_op op_addS pe_str (pe_callTy call_strI (by rfl) G.str (by decide +kernel) (pa_cons (pv 3) pa_nil))) pe_str) (pe_ix ix_str pe_str (pv 4) (fun _ _ => rfl)))))
          pss_nil)
        (pss_one (ps_set (i := 4) sc_l_move.nd rfl (Or.inl rfl) (pe_op op_sub pe_int (pv 4)))))))
      (pss_one (ps_ret (pe_ix ix_list (pe_lst (pa_cons pe_str (pa_cons pe_str pa_nil))) (pv 4) (fun _ _ => rfl)))))))))), ?_⟩
    try dsimp only [cxOf]
    walk_at "go"
    refine ⟨Nat.zero_le _, fun q0 hq0 => ?_⟩
    walk_at "go"
    refine x_eqNil (l := S.feet) (SqL.of (upd_old hq0 hO2)) (SqL.of upd_same) hK.wd.nm ?_
    walk_at "go"
    have hB0 := hB.new (o := HO.lst []) hq0
    have s0 : Same H (upd H q0 (.lst [])) := Same.new hq0
    refine x_iteD (fun he => ?_) (fun he => ?_)
    · walk_at "go"
      exact k "" _ hB0 (Kp.of s0) (.inl ⟨he, rfl⟩)
    · revert hB0 s0
      generalize upd H q0 (.lst []) = H0
      intro hB0 s0
      have hO1' := s0 _ _ hO1
      have hO2' := s0 _ _ hO2
      walk_at "go"
      rw [List.length_map]
      refine ⟨b, l, (S.feet.length : Int) + 1, rfl, hB0, by omega, by omega, fun spot H1 hspot hB1 kp1 => ?_⟩
      walk_at "go"
      refine ⟨b, l, 2, rfl, hB1, by decide, by decide, fun pick0 H2 hpick hB2 kp2 => ?_⟩
      have kp2' : Kp b H H2 := Kp.trans (Kp.of s0) (Kp.trans kp1 kp2)
      have hO1'' := kp2' _ _ nob hO1
      have hO2'' := kp2' _ _ nfb hO2
      walk_at "go"
      refine w_forR1 (by decide) (by decide) (fun i σ H' => H' = H2 ∧ ∃ (pick : Nat) (u v : Option V), σ = [some (.ref b), some (.ref o), some (.ref fa), some (.int spot), some (.int (pick : Nat)), u, v] ∧ pick ≤ 1) ⟨rfl, pick0, none, none, rfl, by omega⟩ ?_ ?_
      · rintro i σ H' hi ⟨rfl, pick, u, v, rfl, hp1⟩
        have ep1 : (1 : Int) - (pick : Int) = ((1 - pick : Nat) : Int) := by omega
        walk_at "go"
        refine x_iteD (fun h1 => ?_) (fun h1 => ?_)
        · rw [List.length_map] at h1
          walk_at "go"
          refine x_iteD (fun h2 => ?_) (fun h2 => ?_)
          · walk_at "go"
            refine x_iteD (fun h3 => ?_) (fun h3 => ?_)
            · rw [List.length_map] at h3
              obtain ⟨near, hnear⟩ : ∃ near : Nat, (spot : Int) + 2 * (pick : Int) - 1 = (near : Nat) := ⟨((spot : Int) + 2 * (pick : Int) - 1).toNat, by omega⟩
              have hsp : spot < S.feet.length := by omega
              have hnr : near < S.feet.length := by omega
              have a1 : atI (S.feet.map V.str) (spot : Int) = some (.str (S.feet[spot]'hsp)) := atI_of rfl (by rw [List.getElem?_map, List.getElem?_eq_getElem hsp]; rfl)
              have a2 : atI (S.feet.map V.str) ((spot : Int) + 2 * (pick : Int) - 1) = some (.str (S.feet[near]'hnr)) := atI_of hnear (by rw [List.getElem?_map, List.getElem?_eq_getElem hnr]; rfl)
              walk_at "go"
              refine x_iteN (fun h4 => ?_) (fun h4 => ?_)
              · have em : ("-+" : Str) = SX.S [45, 43] := by decide +kernel
                have e6 : ("slide " : Str) = SX.S [115, 108, 105, 100, 101, 32] := by decide +kernel
                have e7 : (" " : Str) = SX.S [32] := by decide +kernel
                have hnl6 : (TL.numL spot).length ≤ 6 := TL.numL_len (by decide) (by omega)
                walk_at "go"
                rw [e6]
                refine x_addS (by rw [SX.S_len, SX.S_len]; exact Nat.le_trans (show _ ≤ 12 by show 6 + (TL.numL spot).length ≤ 12; omega) (by decide)) ?_
                rw [SX.S_cat]
                walk_at "go"
                rw [e7]
                refine x_addS (by rw [SX.S_len, SX.S_len, List.length_append]; exact Nat.le_trans (show _ ≤ 13 by show 6 + (TL.numL spot).length + 1 ≤ 13; omega) (by decide)) ?_
                rw [SX.S_cat]
                walk_at "go"
                rw [em]
                refine x_ixS (c := if decide (pick = 1) = true then 43 else 45) (by decide) (atI_of (k := pick) rfl ?_) ?_
                · rcases (show pick = 0 ∨ pick = 1 by omega) with e | e <;> subst e <;> rfl
                · have eq : (⟨#[if decide (pick = 1) = true then 43 else 45]⟩ : Str) = SX.S [if decide (pick = 1) = true then 43 else 45] := rfl
                  rw [eq]
                  refine x_addS (by rw [SX.S_len, SX.S_len, List.length_append, List.length_append]; exact Nat.le_trans (show _ ≤ 14 by show 6 + (TL.numL spot).length + 1 + 1 ≤ 14; omega) (by decide)) ?_
                  rw [SX.S_cat]
                  have et : SX.S ([115, 108, 105, 100, 101, 32] ++ TL.numL spot ++ [32] ++ [if decide (pick = 1) = true then 43 else 45]) = slideT spot (decide (pick = 1)) := rfl
                  rw [et]
                  have hq : nb spot (decide (pick = 1)) = near := by
                    unfold nb
                    rcases (show pick = 0 ∨ pick = 1 by omega) with e | e <;> subst e <;> simp <;> omega
                  obtain ⟨nx, gx⟩ := has_num hK (List.getElem_mem hsp)
                  obtain ⟨ny, gy⟩ := has_num hK (List.getElem_mem hnr)
                  refine k _ _ hB2 kp2' (.inr ⟨he, (slideT_ne _ _).2.2, _, Cmd.slide spot (decide (pick = 1)) _ _ nx ny (List.getElem?_eq_getElem hsp) (by rw [hq]; exact List.getElem?_eq_getElem hnr) (fun e => ?_) h4 gx gy⟩)
                  have := of_decide_eq_false e
                  omega
              · walk_at "go"
                rw [ep1]
                exact ⟨rfl, 1 - pick, _, _, rfl, by omega⟩
            · walk_at "go"
              rw [ep1]
              exact ⟨rfl, 1 - pick, _, _, rfl, by omega⟩
          · walk_at "go"
            rw [ep1]
            exact ⟨rfl, 1 - pick, _, _, rfl, by omega⟩
        · walk_at "go"
          rw [ep1]
          exact ⟨rfl, 1 - pick, _, _, rfl, by omega⟩
      · rintro σ H' ⟨rfl, pick, u, v, rfl, hp1⟩
        walk_at "go"
        refine ⟨by show 2 ≤ sizeLine; decide, fun q hq => ?_⟩
        walk_at "go"
        rcases (show pick = 0 ∨ pick = 1 by omega) with e | e
        · subst e
          refine x_ixL (v := .str "turn") (SqL.of upd_same) rfl ?_
          cases ef : S.feet with
          | nil => exact absurd ef he
          | cons n r =>
            obtain ⟨z, gz⟩ := has_num hK (n := n) (by rw [ef]; exact List.mem_cons_self ..)
            exact k _ _ (hB2.new hq) (Kp.trans kp2' (Kp.of (Same.new hq))) (.inr ⟨he, by decide +kernel, _, Cmd.turn n z r ef gz⟩)
        · subst e
          refine x_ixL (v := .str "unturn") (SqL.of upd_same) rfl ?_
          have ef := List.dropLast_concat_getLast he
          obtain ⟨z, gz⟩ := has_num hK (List.getLast_mem he)
          exact k _ _ (hB2.new hq) (Kp.trans kp2' (Kp.of (Same.new hq))) (.inr ⟨he, by decide +kernel, _, Cmd.unturn _ z _ ef.symm gz⟩)
def spTwin : Sp := fun vs H Q _ => ∃ (o fa na : Addr) (S : Own), vs = [.ref o] ∧ OwnAt H o fa na S ∧ ∀ o' fa' na' H', H o' = none → H fa' = none → H na' = none → Same H H' → OwnAt H' o' fa' na' S → Q (.ref o') H'
theorem ok_twin (B : Bi K mg) (F : FnP K "_law_twin" st_l_twin f fd) : FnOk P w K mg base CX0 1 f fd ["own"] spTwin := by
  refine F.ok sc_l_twin (fun vs H Q E h => ?_) (fun cdv A outer s H vs Q E hr h => ?_)
  · obtain ⟨o, fa, na, S, rfl, _⟩ := h
    rfl
  · obtain ⟨o, fa, na, S, rfl, hO, k⟩ := h
    have G := B
    have hO1 := hO.o_
    have hO2 := hO.f_
    have hO3 := hO.n_
    refine ⟨_, PSs.nox ((pss_one (ps_ret (pe_lst (pa_cons (pe_ix ix_list (pv 0) pe_int (fun _ _ => rfl)) (pa_cons (pe_ix ix_list (pv 0) pe_int (fun _ _ => rfl)) (pa_cons (pe_callTy callListS (by rfl) G.list (by decide +kernel) (pa_cons (pe_ix ix_list (pv 0) pe_int (fun _ _ => rfl)) pa_nil)) (pa_cons (pe_callTy call_dict_of (by rfl) G.dict (by decide +kernel) (pa_cons (pe_ix ix_list (pv 0) pe_int (fun _ _ => rfl)) pa_nil)) pa_nil)))))))), ?_⟩
    try dsimp only [cxOf]
    walk_at "go"
    refine x_listL (SqL.of hO2) fun p hp => ?_
    walk_at "go"
    intro q hq
    walk_at "go"
    refine ⟨by show 4 ≤ sizeLine; decide, fun t ht => ?_⟩
    have s1 : Same H (upd H p (.lst (S.feet.map V.str))) := Same.new hp
    have s2 := Same.trans s1 (Same.new (o := .dK (dD V.int S.nums)) hq)
    refine k t p q _ (Same.free s2 ht) hp (Same.free s1 hq) (Same.trans s2 (Same.new ht)) ⟨upd_same, ?_, ?_⟩
    · exact upd_old ht (upd_old hq upd_same)
    · exact upd_old ht upd_same
def absI (z : Int) : Int := if z < 0 then -z else z
theorem absI_nat (z : Int) : absI z = (z.natAbs : Int) := by
  unfold absI
  by_cases h : z < 0
  · rw [if_pos h]; omega
  · rw [if_neg h]; omega
theorem valsD (l : List (Str × Int)) : (dD V.int l).map (fun p => p.2) = (l.map fun p => p.2).map V.int := by
  unfold dD
  rw [List.map_map, List.map_map]
  rfl
def spShift : Sp := fun vs H Q _ => ∃ (b l o fa na : Addr) (S : Own), vs = [.ref b, .ref o] ∧ BagAt H b l ∧ OwnAt H o fa na S ∧ S.Ok ∧ ∀ (t : Str) (fa' na' : Addr) (S' : Own) H', BagAt H' b l → OwnAt H' o fa' na' S' → S'.Ok → (S' = S ∨ Step S S') → Kq b o H H' → Q (.str t) H'
theorem ok_shift (B : Bi K mg) (c_l_move : C8.Cal P w K mg base 2 "_law_move" spMove []) (c_l_twin : C8.Cal P w K mg base 1 "_law_twin" spTwin []) (c_l_do : C8.Cal P w K mg base 3 "_law_do" (spDo K) []) (F : FnP K "_law_shift" st_l_shift f fd) : FnOk P w K mg base CX0 4 f fd ["bag", "own"] spShift := by
  refine F.ok sc_l_shift (fun vs H Q E h => ?_) (fun cdv A outer s H vs Q E hr h => ?_)
  · obtain ⟨b, l, o, fa, na, S, rfl, _⟩ := h
    rfl
  · obtain ⟨b, l, o, fa, na, S, rfl, hB, hO, hK, k⟩ := h
    have G := B
    obtain ⟨nob, nfb, nnb, nol⟩ := bag_own hB hO
    obtain ⟨no_fa, no_na, nfa_na⟩ := hO.of
    have hO1 := hO.o_
    have hO3 := hO.n_
    have hnl := hK.nl
    refine ⟨_, PSs.nox ((C8.pss_cut (ps_set (i := 2) sc_l_shift.nd rfl (Or.inl rfl) (pe_callB (cr_max rfl) (by rfl) G.max (by decide +kernel) (pa_cons (pe_op op_cat (pe_lst (pa_cons pe_int pa_nil)) (pe_lc (own := [("num", 5)]) rfl sc_l_shift.nd (pi_list (pe_listVals rfl (pe_ix ix_list (pv 1) pe_int (fun _ _ => rfl)) (by rfl) G.list (by decide +kernel))) (blkOk_by (own := [("num", 5)]) (N := ["bag", "own", "top", "text", "tried", "num"]) (sc := defScope st_l_shift) (by decide +kernel)) (fun _ _ _ _ _ => (pg_name (i := 5) sc_l_shift.nd rfl (Or.inl rfl))) (fun _ _ _ _ _ => pts_nil) (fun _ _ _ _ _ => (pe_callB callAbs (by rfl) G.abs (by decide +kernel) (pa_cons (pv 5) pa_nil))))) pa_nil)))
      (pss_cons (ps_set (i := 3) sc_l_shift.nd rfl (Or.inl rfl) (C8.pe_c c_l_move hr (by decide) rfl (pa_cons (pv 0) (pa_cons (pv 1) pa_nil))))
      (pss_cons (ps_set (i := 4) sc_l_shift.nd rfl (Or.inl rfl) (C8.pe_c c_l_twin hr (by decide) rfl (pa_cons (pv 1) pa_nil)))
      (pss_cons (ps_if (PW.pt (pw_or (pt_cmpR op_eq (pv 3) pe_str (nomark _)) (pw_or (pt_not (pt_val (C8.pe_c c_l_do hr (by decide) rfl (pa_cons (pv 4) (pa_cons (pv 3) pa_nil))))) (pw_or1 (pt_cmpR op_gt (pe_callB (cr_max rfl) (by rfl) G.max (by decide +kernel) (pa_cons (pe_lc (own := [("num", 5)]) rfl sc_l_shift.nd (pi_list (pe_listVals rfl (pe_ix ix_list (pv 4) pe_int (fun _ _ => rfl)) (by rfl) G.list (by decide +kernel))) (blkOk_by (own := [("num", 5)]) (N := ["bag", "own", "top", "text", "tried", "num"]) (sc := defScope st_l_shift) (by decide +kernel)) (fun _ _ _ _ _ => (pg_name (i := 5) sc_l_shift.nd rfl (Or.inl rfl))) (fun _ _ _ _ _ => pts_nil) (fun _ _ _ _ _ => (pe_callB callAbs (by rfl) G.abs (by decide +kernel) (pa_cons (pv 5) pa_nil)))) pa_nil)) (pv 2) (nomark _))))))
        (pss_one (ps_ret pe_str))
        pss_nil)
      (pss_cons (ps_asg (pe_ix ix_list (pv 4) pe_int (fun _ _ => rfl)) (pg_sub (pv 1) pe_int set_list))
      (pss_cons (ps_asg (pe_ix ix_list (pv 4) pe_int (fun _ _ => rfl)) (pg_sub (pv 1) pe_int set_list))
      (pss_one (ps_ret (pv 3)))))))))), ?_⟩
    try dsimp only [cxOf]
    refine x_cut (fun σ H' => Same H H' ∧ ∃ (top : Int), σ = [some (.ref b), some (.ref o), some (.int top), none, none, none] ∧ top ≤ 1000) ?_ ?_
    · walk_at "go"
      refine ⟨by show 1 ≤ sizeLine; decide, fun p hp => ?_⟩
      have hO1p := upd_old (o := HO.lst [V.int 40]) hp hO1
      have hO3p := upd_old (o := HO.lst [V.int 40]) hp hO3
      walk_at "go"
      intro q hq
      rw [valsD]
      refine w_lcL (xs := (S.nums.map fun p => p.2).map V.int) (SqL.of upd_same) (by rw [List.length_map, List.length_map]; exact Nat.lt_of_le_of_lt hnl (by decide)) (fun i acc => acc = (((S.nums.map fun p => p.2).take i).map absI).map V.int) rfl ?_ ?_
      · rintro i x H' acc hi s' rfl hai R S2 hR _
        obtain ⟨z, rfl, hz⟩ := int_at hi
        walk_at "go"
        refine ⟨rfl, ?_⟩
        walk_at "go"
        refine hR _ _ (Same.refl _) ?_
        rw [take_snoc hz, List.map_append, List.map_append]
        rfl
      · rintro r H' acc hr s' hr' rfl
        rw [List.take_of_length_le (by simp)] at hr'
        have hp' := s' _ _ (upd_old (o := HO.lst ((S.nums.map fun p => p.2).map V.int)) hq (upd_same (H := H) (a := p) (o := HO.lst [V.int 40])))
        refine x_cat hp' hr' (by rw [List.length_map, List.length_map, List.length_map]; exact Nat.le_trans (show _ ≤ 401 by show 1 + S.nums.length ≤ 401; omega) (by decide)) fun t ht => ?_
        walk_at "go"
        refine x_max (ns := 40 :: (S.nums.map fun p => p.2).map absI) (SqL.of upd_same) (by rw [List.length_cons]; omega) fun m hm hmax => ?_
        walk_at "go"
        refine ⟨Same.trans (Same.trans (Same.new hp) (Same.new hq)) (Same.trans s' (Same.new ht)), m, rfl, ?_⟩
        rcases List.mem_cons.mp hm with e | hm
        · omega
        · obtain ⟨z, hz, e⟩ := List.mem_map.mp hm
          obtain ⟨pr, hpr, e2⟩ := List.mem_map.mp hz
          have := hK.bd pr hpr
          rw [← e, absI_nat, ← e2]
          omega
    · rintro σ H0 ⟨s0, top, rfl, htop⟩
      have hO0 := hO.same s0
      walk_at "go"
      refine ⟨b, l, o, fa, na, S, rfl, hB.same s0, hO0, hK, fun t H1 hB1 kp1 ht => ?_⟩
      have hO1' : OwnAt H1 o fa na S := ⟨kp1 _ _ nob hO0.o_, kp1 _ _ nfb hO0.f_, kp1 _ _ nnb hO0.n_⟩
      walk_at "go"
      refine ⟨o, fa, na, S, rfl, hO1', fun tr tf tn H2 htr htf htn s2 hT => ?_⟩
      have kp2 : Kp b H H2 := Kp.trans (Kp.of s0) (Kp.trans kp1 (Kp.of s2))
      have hB2 := hB1.same s2
      have hO2 := hO1'.same s2
      walk_at "go"
      rcases ht with ⟨he, rfl⟩ | ⟨he, hne, S', hC⟩
      · refine x_iteDT rfl ?_
        walk_at "go"
        exact k "" fa na S H2 hB2 hO2 hK (.inl rfl) (Kq.of1 kp2)
      · refine x_iteDF hne ?_
        walk_at "go"
        refine ⟨tr, tf, tn, S, S', t, rfl, hT, hK, hC, fun tf' H3 kq hT' => ?_⟩
        have hb1 : ∀ {x : Addr}, H1 x = none → b ≠ x := fun h e => hB1.b_some (by rw [e]; exact h)
        have hl1 : ∀ {x : Addr}, H1 x = none → l ≠ x := fun h e => hB1.l_some (by rw [e]; exact h)
        have hB3 := hB2.kq kq (hb1 htr) (hb1 htn) (hl1 htr) (hl1 htn)
        have kq1 : Same H1 H3 := fun a u ha => kq a u (ne_of_none ha htr) (ne_of_none ha htn) (s2 a u ha)
        have kp3 : Kp b H H3 := Kp.trans (Kp.trans (Kp.of s0) kp1) (Kp.of kq1)
        have hO3' := hO1'.same kq1
        have hT1 := hT'.o_
        have hT3 := hT'.n_
        have st := hC.step
        obtain ⟨en, ez, hnm, eput⟩ := st.put
        have hl' : S'.nums.length = S.nums.length := by rw [eput, len_put_in _ hnm]
        have hpos : 0 < S'.nums.length := by
          rw [hl']
          obtain ⟨pr, hpr, _⟩ := List.mem_map.mp hnm
          exact List.length_pos_of_mem hpr
        walk_at "go"
        intro q hq
        rw [valsD]
        refine w_lcL (xs := (S'.nums.map fun p => p.2).map V.int) (SqL.of upd_same) (by rw [List.length_map, List.length_map, hl']; exact Nat.lt_of_le_of_lt hnl (by decide)) (fun i acc => acc = (((S'.nums.map fun p => p.2).take i).map absI).map V.int) rfl ?_ ?_
        · rintro i x H' acc hi s' rfl hai R S2 hR _
          obtain ⟨z, rfl, hz⟩ := int_at hi
          walk_at "go"
          refine ⟨rfl, ?_⟩
          walk_at "go"
          refine hR _ _ (Same.refl _) ?_
          rw [take_snoc hz, List.map_append, List.map_append]
          rfl
        · rintro r H4 acc hr s' hr' rfl
          rw [List.take_of_length_le (by simp)] at hr'
          walk_at "go"
          refine x_max (ns := (S'.nums.map fun p => p.2).map absI) (SqL.of hr') (by rw [List.length_map, List.length_map]; exact hpos) fun m hm hmax => ?_
          have s4 : Same H3 H4 := Same.trans (Same.new hq) s'
          have hB4 := hB3.same s4
          have hO4 := hO3'.same s4
          have hT4 := hT'.same s4
          have hO41 := hO4.o_
          have hT41 := hT4.o_
          have kp4 : Kp b H H4 := Kp.trans kp3 (Kp.of s4)
          have notr : o ≠ tr := ne_of_none hO1'.o_ htr
          have notn : o ≠ tn := ne_of_none hO1'.o_ htn
          walk_at "go"
          refine x_iteD (fun hgt => ?_) (fun hle => ?_)
          · walk_at "go"
            exact k "" fa na S H4 hB4 hO4 hK (.inl rfl) (Kq.of1 kp4)
          · have hbd : ∀ p ∈ S'.nums, p.2.natAbs ≤ 1000 := fun p hp => by
              have := hmax (absI p.2) (List.mem_map_of_mem (List.mem_map_of_mem hp))
              rw [absI_nat] at this
              omega
            obtain ⟨ea, em⟩ := st.same
            have notf : o ≠ tf' := ne_of_some hO41 hT4.f_ (by
              intro z
              injection z with z
              cases e : S'.feet with
              | nil => rw [e] at z; cases z
              | cons a l => rw [e] at z; cases z)
            walk_at "go"
            rw [upd_upd]
            refine k t tf' tn S' _ (hB4.upd nob nol) ⟨by rw [upd_same, ea, em]; rfl, ?_, ?_⟩ (st.ok hK hbd) (.inr st) (Kq.upd2 (Kq.of1 kp4))
            · rw [upd_ne (Ne.symm notf)]
              exact hT4.f_
            · rw [upd_ne (Ne.symm notn)]
              exact hT4.n_
def spLSheet : Sp := fun vs H Q _ => ∃ (b l : Addr) (low most : Nat), vs = [.ref b, .int low, .int most] ∧ BagAt H b l ∧ low ≤ most ∧ most ≤ 26 ∧ ∀ (o fa na : Addr) (S : Own) H', H o = none → BagAt H' b l → OwnAt H' o fa na S → S.Ok → S.feet.length ≤ 2 * most → Kp b H H' → Q (.ref o) H'
def unS : V → Option Str
  | .str s => some s
  | _ => none
theorem unS_map : ∀ l : List Str, (l.map V.str).filterMap unS = l
  | [] => rfl
  | x :: l => by
    rw [List.map_cons, List.filterMap_cons_some (f := unS) (a := V.str x) (b := x) rfl, unS_map l]
theorem unS_back : ∀ {ys : List V}, (∀ v ∈ ys, ∃ s, v = V.str s) → (ys.filterMap unS).map V.str = ys
  | [], _ => rfl
  | y :: ys, h => by
    obtain ⟨s, rfl⟩ := h y (List.mem_cons_self ..)
    rw [List.filterMap_cons_some (f := unS) (a := V.str s) (b := s) rfl, List.map_cons, unS_back fun v hv => h v (List.mem_cons_of_mem _ hv)]
theorem perm_strs {ys : List V} {l : List Str} (h : ys.Perm (l.map V.str)) : ∃ m : List Str, ys = m.map V.str ∧ m.Perm l := by
  refine ⟨ys.filterMap unS, (unS_back fun v hv => ?_).symm, ?_⟩
  · obtain ⟨s, _, e⟩ := List.mem_map.mp (h.mem_iff.mp hv)
    exact ⟨s, e.symm⟩
  · have := h.filterMap unS
    rwa [unS_map] at this
theorem ok_lsheet (B : Bi K mg) (c_l_draw : C8.Cal P w K mg base 1 "_law_draw" spDraw []) (c_l_of : C8.Cal P w K mg base 2 "_law_of" spOf []) (c_l_arms : C8.Cal P w K mg base 2 "_law_arms" spArms []) (c_l_divisor : C8.Cal P w K mg base 1 "_law_divisor" (spLDiv K) []) (c_l_divisors : C8.Cal P w K mg base 1 "_law_divisors" spDivs [])
    (c_l_names : C8.Cal P w K mg base 2 "_law_names" spNames []) (c_l_mixed : C8.Cal P w K mg base 2 "_law_mixed" (spMixed K) []) (c_l_word : C8.Cal P w K mg base 1 "_law_word" (spWord K) []) (c_l_shift : C8.Cal P w K mg base 4 "_law_shift" spShift [])
    (F : FnP K "_law_sheet" st_l_sheet f fd) : FnOk P w K mg base CX0 5 f fd ["bag", "low", "most"] spLSheet := by
  refine F.ok sc_l_sheet (fun vs H Q E h => ?_) (fun cdv A outer s H vs Q E hr h => ?_)
  · obtain ⟨b, l, low, most, rfl, _⟩ := h
    rfl
  · obtain ⟨b, l, low, most, rfl, hB, hlm, hm, k⟩ := h
    have G := B
    refine ⟨_, PSs.nox ((pss_cons (ps_asg (C8.pe_c c_l_arms hr (by decide) rfl (pa_cons (pv 0) pa_nil)) (pg_unl rfl (pgs_cons (pg_name (i := 3) sc_l_sheet.nd rfl (Or.inl rfl)) (pgs_cons (pg_name (i := 4) sc_l_sheet.nd rfl (Or.inl rfl)) pgs_nil))))
      (pss_cons (ps_set (i := 5) sc_l_sheet.nd rfl (Or.inl rfl) (pe_op op_add (pv 1) (C8.pe_c c_l_draw hr (by decide) rfl (pa_cons (pv 0) (pa_cons (pe_op op_add (pe_op op_sub (pv 2) (pv 1)) pe_int) pa_nil)))))
      (C8.pss_cut (ps_set (i := 6) sc_l_sheet.nd rfl (Or.inl rfl) (pe_ifExp (pt_cmpR op_eq (C8.pe_c c_l_draw hr (by decide) rfl (pa_cons (pv 0) (pa_cons pe_int pa_nil))) pe_int (nomark _)) (C8.pe_c c_l_of hr (by decide) rfl (pa_cons (pv 0) (pa_cons (C8.pe_c c_l_divisors hr (by decide) rfl (pa_cons (C8.pe_c c_l_divisor hr (by decide) rfl (pa_cons (pe_lst (pa_cons (pv 3) (pa_cons (pv 4) pa_nil))) pa_nil)) pa_nil)) pa_nil))) pe_int))
      (C8.pss_cut (ps_set (i := 7) sc_l_sheet.nd rfl (Or.inl rfl) (pe_ifExp (pt_cmpR op_eq (C8.pe_c c_l_draw hr (by decide) rfl (pa_cons (pv 0) (pa_cons pe_int pa_nil))) pe_int (nomark _)) pe_int pe_int))
      (pss_cons (ps_set (i := 8) sc_l_sheet.nd rfl (Or.inl rfl) (C8.pe_c c_l_draw hr (by decide) rfl (pa_cons (pv 0) (pa_cons pe_int pa_nil))))
      (pss_cons (ps_set (i := 9) sc_l_sheet.nd rfl (Or.inl rfl) (C8.pe_c c_l_draw hr (by decide) rfl (pa_cons (pv 0) (pa_cons pe_int pa_nil))))
      (pss_cons (ps_set (i := 10) sc_l_sheet.nd rfl (Or.inl rfl) (C8.pe_c c_l_draw hr (by decide) rfl (pa_cons (pv 0) (pa_cons (pe_op op_add (pe_op op_fdiv (pv 5) pe_int) pe_int) pa_nil))))
      (pss_cons (ps_set (i := 11) sc_l_sheet.nd rfl (Or.inl rfl) (C8.pe_c c_l_names hr (by decide) rfl (pa_cons (pv 0) (pa_cons (pv 5) pa_nil))))
      (pss_cons (ps_set (i := 12) sc_l_sheet.nd rfl (Or.inl rfl) (pe_callB (call_maxTwo rfl) (by rfl) G.max (by decide +kernel) (pa_cons pe_int (pa_cons (pe_op op_fdiv (pv 7) (pv 6)) pa_nil))))
      (pss_cons (ps_set (i := 13) sc_l_sheet.nd rfl (Or.inl rfl) pe_dnewK)
      (pss_cons (ps_for PassesOwn.never rfl (pi_range1 (by rfl) G.range (pa_cons (pv 5) pa_nil)) (pg_name (i := 14) sc_l_sheet.nd rfl (Or.inl rfl))
        (pss_cons (ps_set (i := 15) sc_l_sheet.nd rfl (Or.inl rfl) (pe_op op_sub (C8.pe_c c_l_draw hr (by decide) rfl (pa_cons (pv 0) (pa_cons (pe_op op_add (pe_op op_mul pe_int (pv 12)) pe_int) pa_nil))) (pv 12)))
        (pss_one (ps_dput (hu_of hr) (pv 13) (pe_ix ix_list (pv 11) (pv 14) (fun _ _ => rfl)) (pe_op op_mul (pv 6) (pe_ifExp (PW.pt (pw_and (pt_cmpR op_eq (pe_op op_mul (pv 9) (pv 8)) pe_int (nomark _)) (pw_and1 (pt_cmpR op_ge (pv 14) (pe_op op_mul pe_int (pv 10)) (nomark _))))) (pe_op op_sub (pv 15) (pe_op op_mod (pe_callTy call_intI (by rfl) G.int (by decide +kernel) (pa_cons (pv 15) pa_nil)) pe_int)) (pv 15))) rfl))))
      (pss_cons (ps_if (pt_cmpR op_eq (pv 9) pe_int (nomark _))
        (pss_one (ps_ret (pe_lst (pa_cons (pv 3) (pa_cons (pv 4) (pa_cons (C8.pe_c c_l_mixed hr (by decide) rfl (pa_cons (pv 0) (pa_cons (pe_op op_cat (pv 11) (pv 11)) pa_nil))) (pa_cons (pv 13) pa_nil)))))))
        pss_nil)
      (pss_cons (ps_set (i := 16) sc_l_sheet.nd rfl (Or.inl rfl) (pe_lst (pa_cons (pv 3) (pa_cons (pv 4) (pa_cons (C8.pe_c c_l_word hr (by decide) rfl (pa_cons (pv 11) (pa_cons (pv 10) pa_nil))) (pa_cons (pv 13) pa_nil))))))
      (pss_cons (ps_for PassesOwn.never rfl (pi_range1 (by rfl) G.range (pa_cons (pe_op op_add pe_int (C8.pe_c c_l_draw hr (by decide) rfl (pa_cons (pv 0) (pa_cons pe_int pa_nil)))) pa_nil)) (pg_name (i := 14) sc_l_sheet.nd rfl (Or.inl rfl))
        (pss_one (ps_expr (C8.pe_c c_l_shift hr (by decide) rfl (pa_cons (pv 0) (pa_cons (pv 16) pa_nil))))))
      (pss_one (ps_ret (pv 16)))))))))))))))))), ?_⟩
    try dsimp only [cxOf]
    walk_at "go"
    refine ⟨b, l, rfl, hB, fun arm mod p0 H1 a1 a2 m1 m2 hp0 hB1 kp1 hpp => ?_⟩
    walk_at "go"
    refine ⟨b, l, (most : Int) - low + 1, rfl, hB1, by omega, by omega, fun rm H2 hrm hB2 kp2 => ?_⟩
    walk_at "go"
    have emany : (low : Int) + (rm : Int) = ((low + rm : Nat) : Int) := by omega
    rw [emany]
    have hmany : low + rm ≤ most := by omega
    generalize low + rm = many at hmany emany
    refine x_cut (fun σ H' => BagAt H' b l ∧ Kp b H H' ∧ ∃ unit : Nat, 1 ≤ unit ∧ unit ≤ 12 ∧ σ = [some (.ref b), some (.int low), some (.int most), some (.int arm), some (.int mod), some (.int many), some (.int unit), none, none, none, none, none, none, none, none, none, none]) ?_ ?_
    · walk_at "go"
      refine ⟨b, l, 3, rfl, hB2, by decide, by decide, fun r3 H3 hr3 hB3 kp3 => ?_⟩
      walk_at "go"
      refine x_iteD (fun h => ?_) (fun h => ?_)
      · walk_at "go"
        refine ⟨by show 2 ≤ sizeLine; decide, fun q hq => ?_⟩
        walk_at "go"
        refine ⟨q, [(arm : Int), (mod : Int)], rfl, SqL.of upd_same, fun z hz => ?_, ?_⟩
        · rcases List.mem_cons.mp hz with e | hz
          · rw [e, Int.natAbs_natCast]; omega
          · rw [List.mem_singleton.mp hz, Int.natAbs_natCast]; omega
        · have hg1 : gcdZ [(arm : Int), (mod : Int)] = Nat.gcd arm mod := by
            show Nat.gcd (Nat.gcd 0 (arm : Int).natAbs) (mod : Int).natAbs = _
            rw [Nat.gcd_zero_left, Int.natAbs_natCast, Int.natAbs_natCast]
          rw [hg1]
          have hg2 : 1 ≤ Nat.gcd arm mod := Nat.gcd_pos_of_pos_left _ a1
          have hg3 : Nat.gcd arm mod ≤ 12 := Nat.le_trans (Nat.gcd_le_left _ a1) a2
          walk_at "go"
          refine ⟨Nat.gcd arm mod, rfl, hg2, by omega, fun dp H4 hdp0 s4 ⟨ds, hds, d1, d2, d3⟩ => ?_⟩
          have hB4 := (hB3.new (o := HO.lst [V.int (arm : Int), V.int (mod : Int)]) hq).same s4
          have ndb : dp ≠ b := fun e => (hB3.new (o := HO.lst [V.int (arm : Int), V.int (mod : Int)]) hq).b_some (by rw [← e]; exact hdp0)
          walk_at "go"
          refine ⟨b, l, dp, ds.map fun d : Nat => V.int (d : Nat), rfl, hB4, ndb, hds, by rw [List.length_map]; exact List.length_pos_of_mem d1, by rw [List.length_map]; omega, fun j v H5 hj hB5 kp5 => ?_⟩
          obtain ⟨d, rfl, hd⟩ := nat_at hj
          have := d2 d (List.mem_of_getElem? hd)
          exact ⟨hB5, Kp.trans (Kp.trans kp1 (Kp.trans kp2 kp3)) (Kp.trans (Kp.of (Same.trans (Same.new hq) s4)) kp5), d, this.1, by omega, rfl⟩
      · walk_at "go"
        exact ⟨hB3, Kp.trans kp1 (Kp.trans kp2 kp3), 1, Nat.le_refl _, by decide, rfl⟩
    rintro σ H3 ⟨hB3, kp3, unit, u1, u2, rfl⟩
    refine x_cut (fun σ H' => BagAt H' b l ∧ Kp b H H' ∧ ∃ tp : Nat, tp ≤ 99 ∧ σ = [some (.ref b), some (.int low), some (.int most), some (.int arm), some (.int mod), some (.int many), some (.int unit), some (.int (tp : Nat)), none, none, none, none, none, none, none, none, none]) ?_ ?_
    · walk_at "go"
      refine ⟨b, l, 10, rfl, hB3, by decide, by decide, fun r4 H4 hr4 hB4 kp4 => ?_⟩
      walk_at "go"
      refine x_iteD (fun h => ?_) (fun h => ?_)
      · walk_at "go"
        exact ⟨hB4, Kp.trans kp3 kp4, 99, Nat.le_refl _, rfl⟩
      · walk_at "go"
        exact ⟨hB4, Kp.trans kp3 kp4, 9, by decide, rfl⟩
    rintro σ H4 ⟨hB4, kp4, tp, htp, rfl⟩
    walk_at "go"
    refine ⟨b, l, 2, rfl, hB4, by decide, by decide, fun even H5 heven hB5 kp5 => ?_⟩
    walk_at "go"
    refine ⟨b, l, 2, rfl, hB5, by decide, by decide, fun pick H6 hpick hB6 kp6 => ?_⟩
    walk_at "go"
    have eh : (many : Int) / 2 + 1 = ((many / 2 + 1 : Nat) : Int) := by omega
    rw [eh]
    refine ⟨b, l, ((many / 2 + 1 : Nat) : Int), rfl, hB6, by omega, by omega, fun hands H7 hhands hB7 kp7 => ?_⟩
    walk_at "go"
    refine ⟨b, l, many, rfl, hB7, by omega, fun np ns H8 hnp0 hnp hnl hnd hnm hB8 kp8 => ?_⟩
    have nnb : np ≠ b := fun e => hB7.b_some (by rw [← e]; exact hnp0)
    have kp48 : Kp b H H8 := Kp.trans kp4 (Kp.trans kp5 (Kp.trans kp6 (Kp.trans kp7 kp8)))
    walk_at "go"
    have eq : (tp : Int) / (unit : Int) = ((tp / unit : Nat) : Int) := rfl
    have ehi : (if ((tp : Int) / (unit : Int)) > 1 then ((tp : Int) / (unit : Int)) else 1) = ((max 1 (tp / unit) : Nat) : Int) := by
      rw [eq]
      split <;> omega
    rw [ehi]
    have hhu : unit * max 1 (tp / unit) ≤ 99 := by
      have := Nat.mul_div_le tp unit
      rcases Nat.le_total 1 (tp / unit) with h | h
      · rw [Nat.max_eq_right h]; omega
      · rw [Nat.max_eq_left h]; omega
    have hh1 : 1 ≤ max 1 (tp / unit) := Nat.le_max_left _ _
    have hh2 : max 1 (tp / unit) ≤ 99 := Nat.le_trans (Nat.le_mul_of_pos_left _ u1) hhu
    generalize max 1 (tp / unit) = high at hhu hh1 hh2 ehi
    walk_at "go"
    intro nd hnd0
    have ndb : nd ≠ b := fun e => hB8.b_some (by rw [← e]; exact hnd0)
    have ndl : nd ≠ l := fun e => hB8.l_some (by rw [← e]; exact hnd0)
    have nnd : np ≠ nd := ne_of_none hnp hnd0
    walk_at "go"
    refine w_forR1 (by omega) (by omega) (fun i σ H' => BagAt H' b l ∧ (∀ a u, a ≠ b → a ≠ nd → H8 a = some u → H' a = some u) ∧ ∃ (M : List (Str × Int)) (u v t : Option V), σ = [some (.ref b), some (.int low), some (.int most), some (.int arm), some (.int mod), some (.int many), some (.int unit), some (.int (tp : Nat)), some (.int (even : Nat)), some (.int (pick : Nat)), some (.int (hands : Nat)), some (.ref np), some (.int (high : Nat)), some (.ref nd), u, v, t] ∧
      H' nd = some (.dK (dD V.int M)) ∧ M.map (·.1) = ns.take i ∧ ∀ p ∈ M, p.2.natAbs ≤ 1000) ⟨hB8.new hnd0, fun a u n1 n2 h => upd_old hnd0 h, [], none, none, none, rfl, upd_same, rfl, fun p hp => by cases hp⟩ ?_ ?_
    · rintro i σ H' hi ⟨hB', kk, M, u, v, t, rfl, hM, hMk, hMb⟩
      have hi : i < many := by omega
      obtain ⟨n, hn⟩ : ∃ n, ns[i]? = some n := ⟨ns[i]'(by omega), List.getElem?_eq_getElem (by omega)⟩
      walk_at "go"
      refine ⟨b, l, 2 * (high : Int) + 1, rfl, hB', by omega, by omega, fun r H2 hr hB2 kp2 => ?_⟩
      have hM2 := kp2 _ _ ndb hM
      have hnp2 := kp2 _ _ nnb (kk _ _ nnb nnd hnp)
      have an : atI (ns.map V.str) (0 + (i : Int)) = some (.str n) := atI_of (k := i) (by omega) (by rw [List.getElem?_map, hn]; rfl)
      have fin : ∀ (z : Int), z.natAbs ≤ high + 1 → ∀ (D : Ends) (σ : L2.St), D.nx σ (upd H2 nd (.dK (putK (dD V.int M) (.inr n) (V.int ((unit : Int) * z))))) → rDPut D σ (.int ((unit : Int) * z)) (.ref nd) (.str n) H2 := fun z hz D σ hD => x_dputS hM2 (by rw [dD_len]; have := congrArg List.length hMk; rw [List.length_map] at this; exact Nat.lt_of_le_of_lt (show _ ≤ 26 by rw [this, List.length_take]; omega) (by decide)) hD
      have res : ∀ (z : Int), z.natAbs ≤ high + 1 → BagAt (upd H2 nd (.dK (putK (dD V.int M) (.inr n) (V.int ((unit : Int) * z))))) b l ∧ (∀ a u, a ≠ b → a ≠ nd → H8 a = some u → (upd H2 nd (.dK (putK (dD V.int M) (.inr n) (V.int ((unit : Int) * z))))) a = some u) ∧ ∃ (M' : List (Str × Int)), (upd H2 nd (.dK (putK (dD V.int M) (.inr n) (V.int ((unit : Int) * z))))) nd = some (.dK (dD V.int M')) ∧ M'.map (·.1) = ns.take (i + 1) ∧ ∀ p ∈ M', p.2.natAbs ≤ 1000 := fun z hz => by
        refine ⟨hB2.upd ndb ndl, fun a u n1 n2 h => ?_, aPut M n ((unit : Int) * z), ?_, ?_, fun p hp => ?_⟩
        · rw [upd_ne n2]
          exact kp2 _ _ n1 (kk _ _ n1 n2 h)
        · rw [upd_same, putK_dD]
        · rw [keys_put, hMk, if_neg, take_snoc hn]
          intro hm'
          obtain ⟨j, hj⟩ := List.getElem?_of_mem hm'
          rw [List.getElem?_take] at hj
          split at hj
          · rename_i hji
            have := nodup_inj hnd hj hn
            omega
          · cases hj
        · rcases mem_put hp with e | ⟨hp, _⟩
          · rw [e]
            show ((unit : Int) * z).natAbs ≤ 1000
            rw [Int.natAbs_mul, Int.natAbs_natCast]
            have h1 : unit * z.natAbs ≤ unit * (high + 1) := Nat.mul_le_mul_left _ hz
            have h2 : unit * (high + 1) = unit * high + unit := Nat.mul_succ ..
            omega
          · exact hMb p hp
      walk_at "go"
      refine x_iteD (fun h1 => ?_) (fun h1 => ?_)
      · walk_at "go"
        refine x_iteD (fun h2 => ?_) (fun h2 => ?_)
        · walk_at "go"
          have hz : ((r : Int) - (high : Int) - ((r : Int) - (high : Int)) % 2).natAbs ≤ high + 1 := by omega
          obtain ⟨e1, e2, M', e3, e4, e5⟩ := res _ hz
          exact fin _ hz _ _ ⟨e1, e2, M', _, _, _, rfl, e3, e4, e5⟩
        · walk_at "go"
          have hz : ((r : Int) - (high : Int)).natAbs ≤ high + 1 := by omega
          obtain ⟨e1, e2, M', e3, e4, e5⟩ := res _ hz
          exact fin _ hz _ _ ⟨e1, e2, M', _, _, _, rfl, e3, e4, e5⟩
      · walk_at "go"
        have hz : ((r : Int) - (high : Int)).natAbs ≤ high + 1 := by omega
        obtain ⟨e1, e2, M', e3, e4, e5⟩ := res _ hz
        exact fin _ hz _ _ ⟨e1, e2, M', _, _, _, rfl, e3, e4, e5⟩
    · rintro σ H' ⟨hB', kk, M, u, v, t, rfl, hM, hMk, hMb⟩
      have en : (many : Int).toNat = many := by omega
      rw [en, List.take_of_length_le (by omega)] at hMk
      have hnp' := kk _ _ nnb nnd hnp
      have kpH : Kp b H H' := fun a u n h => kk a u n (ne_of_none (kp48 a u n h) hnd0) (kp48 a u n h)
      have hMl : M.length = many := by
        have := congrArg List.length hMk
        rw [List.length_map] at this
        omega
      have okS : ∀ feet : List Str, feet.Perm (ns ++ ns) → (Own.mk arm mod feet M).Ok := fun feet hp => by
        refine ⟨a1, a2, m1, m2, word_twice hp hnd hnm, ?_, by rw [hMk]; exact hnd, fun p hpm => ?_, fun n hn => ?_, hMb, by show M.length ≤ 400; omega⟩
        · show feet.length ≤ 400
          rw [hp.length_eq, List.length_append]
          omega
        · refine hp.mem_iff.mpr (List.mem_append_left _ ?_)
          rw [← hMk]
          exact List.mem_map_of_mem hpm
        · rw [hMk]
          rcases List.mem_append.mp (hp.mem_iff.mp hn) with q | q <;> exact q
      walk_at "go"
      refine x_iteD (fun hp0 => ?_) (fun hp0 => ?_)
      · walk_at "go"
        refine x_cat (xs := ns.map V.str) (ys := ns.map V.str) hnp' hnp' (by rw [List.length_map]; exact Nat.le_trans (show _ ≤ 52 by omega) (by decide)) fun q hq => ?_
        walk_at "go"
        have nqb : q ≠ b := fun e => hB'.b_some (by rw [← e]; exact hq)
        refine ⟨b, l, q, ns.map V.str ++ ns.map V.str, rfl, hB'.new hq, nqb, upd_same, by rw [List.length_append, List.length_map]; omega, fun r ys H2 hr hys hpm hB2 kp2 => ?_⟩
        rw [← List.map_append] at hpm
        obtain ⟨feet, rfl, hfp⟩ := perm_strs hpm
        walk_at "go"
        refine ⟨by show 4 ≤ sizeLine; decide, fun o ho => ?_⟩
        have hM2 := kp2 _ _ ndb (upd_old hq hM)
        have kpH2 : Kp b H H2 := Kp.trans kpH (Kp.trans (Kp.of (Same.new hq)) kp2)
        have nob : o ≠ b := fun e => hB2.b_some (by rw [← e]; exact ho)
        refine k o r nd ⟨arm, mod, feet, M⟩ _ (Kp.free kpH2 nob ho) (hB2.new ho) ⟨upd_same, upd_old ho hys, upd_old ho hM2⟩ (okS feet hfp) ?_ (Kp.trans kpH2 (Kp.of (Same.new ho)))
        show feet.length ≤ _
        rw [hfp.length_eq, List.length_append]
        omega
      · walk_at "go"
        refine ⟨np, ns, hands, rfl, hnp', by omega, by omega, fun q feet H2 hq0 hq hfp s2 => ?_⟩
        have hM2 := s2 _ _ hM
        have hB2 := hB'.same s2
        walk_at "go"
        refine ⟨by show 4 ≤ sizeLine; decide, fun o ho => ?_⟩
        have nob : o ≠ b := fun e => hB2.b_some (by rw [← e]; exact ho)
        have kpH2 : Kp b H H2 := Kp.trans kpH (Kp.of s2)
        have ho0 := Kp.free kpH2 nob ho
        have hfl : feet.length ≤ 2 * most := by
          rw [hfp.length_eq, List.length_append]
          omega
        have hO0 : OwnAt (upd H2 o (.lst [.int arm, .int mod, .ref q, .ref nd])) o q nd ⟨arm, mod, feet, M⟩ := ⟨upd_same, upd_old ho hq, upd_old ho hM2⟩
        have hB3 := hB2.new (o := HO.lst [V.int arm, .int mod, .ref q, .ref nd]) ho
        have kp3 : Kp b H (upd H2 o (.lst [.int arm, .int mod, .ref q, .ref nd])) := Kp.trans kpH2 (Kp.of (Same.new ho))
        revert hO0 hB3 kp3
        generalize upd H2 o (.lst [.int arm, .int mod, .ref q, .ref nd]) = H3
        intro hO0 hB3 kp3
        walk_at "go"
        refine ⟨b, l, 30, rfl, hB3, by decide, by decide, fun rt H4 hrt hB4 kp4 => ?_⟩
        obtain ⟨_, nqb, nndb, _⟩ := bag_own hB3 hO0
        have hO4 : OwnAt H4 o q nd ⟨arm, mod, feet, M⟩ := ⟨kp4 _ _ nob hO0.o_, kp4 _ _ nqb hO0.f_, kp4 _ _ nndb hO0.n_⟩
        walk_at "go"
        refine w_forR1 (by omega) (by omega) (fun i σ H' => BagAt H' b l ∧ Kp b H H' ∧ ∃ (fa na : Addr) (S : Own) (u v : Option V), OwnAt H' o fa na S ∧ S.Ok ∧ S.feet.length ≤ 2 * most ∧ σ = [some (.ref b), some (.int low), some (.int most), some (.int arm), some (.int mod), some (.int many), some (.int unit), some (.int (tp : Nat)), some (.int (even : Nat)), some (.int (pick : Nat)), some (.int (hands : Nat)), some (.ref np), some (.int (high : Nat)), some (.ref nd), u, v, some (.ref o)])
          ⟨hB4, Kp.trans kp3 kp4, q, nd, _, _, _, hO4, okS feet hfp, hfl, rfl⟩ ?_ ?_
        · rintro i σ H5 hi ⟨hB5, kp5, fa, na, S, u, v, hO5, hK5, hl5, rfl⟩
          walk_at "go"
          refine ⟨b, l, o, fa, na, S, rfl, hB5, hO5, hK5, fun t' fa' na' S' H6 hB6 hO6 hK6 hst kq6 => ?_⟩
          walk_at "go"
          refine ⟨hB6, Kq.new2 kq6 kp5 ho0, fa', na', S', _, _, hO6, hK6, ?_, rfl⟩
          rcases hst with e | st
          · rw [e]; exact hl5
          · rw [← st.perm.length_eq]; exact hl5
        · rintro σ H5 ⟨hB5, kp5, fa, na, S, u, v, hO5, hK5, hl5, rfl⟩
          walk_at "go"
          exact k o fa na S H5 ho0 hB5 hO5 hK5 hl5 kp5
def spMade (K : PySem.W.Frag) : Sp := fun vs H Q _ => ∃ (o fa na : Addr) (S : Own), vs = [.ref o] ∧ OwnAt H o fa na S ∧ 1 ≤ S.arm ∧ S.arm ≤ 12 ∧ S.mod ≠ 1 ∧ S.mod ≤ 24 ∧ IsWord S.feet ∧ S.feet.length ≤ 900 ∧ (∀ p ∈ S.nums, p.1 ∈ S.feet) ∧ ∀ (a : Addr) H', H a = none → Same H H' → SheetAt K H' a S.arm S.mod S.feet (toldOf S.mod (bandsOf S.feet) S.nums) → Q (.ref a) H'
theorem ok_made (B : Bi K mg) (mk_Book_2 : C8.Mak P w K mg base 2 "Book" (He.ga K "Book") (spBook K) []) (mk_Sheet_3 : C8.Mak P w K mg base 3 "Sheet" (He.ga K "Sheet") (spSheet K) []) (F : FnP K "_law_made" st_l_made f fd) : FnOk P w K mg base CX0 5 f fd ["own"] (spMade K) := by
  refine F.ok sc_l_made (fun vs H Q E h => ?_) (fun cdv A outer s H vs Q E hr h => ?_)
  · obtain ⟨o, fa, na, S, rfl, _⟩ := h
    rfl
  · obtain ⟨o, fa, na, S, rfl, hO, a1, a2, m1, m2, hW, hl, hkf, k⟩ := h
    have G := B
    have hO1 := hO.o_
    have hO2 := hO.f_
    have hO3 := hO.n_
    refine ⟨_, PSs.nox ((pss_one (ps_ret (C8.pe_mk mk_Sheet_3 hr (by decide) rfl (pa_cons (C8.pe_mk mk_Book_2 hr (by decide) rfl (pa_cons (pe_ix ix_list (pv 0) pe_int (fun _ _ => rfl)) (pa_cons (pe_ix ix_list (pv 0) pe_int (fun _ _ => rfl)) pa_nil))) (pa_cons (pe_callTy callListS (by rfl) G.list (by decide +kernel) (pa_cons (pe_ix ix_list (pv 0) pe_int (fun _ _ => rfl)) pa_nil)) (pa_cons (pe_callTy call_dict_of (by rfl) G.dict (by decide +kernel) (pa_cons (pe_ix ix_list (pv 0) pe_int (fun _ _ => rfl)) pa_nil)) pa_nil))))))), ?_⟩
    try dsimp only [cxOf]
    walk_at "go"
    intro x dx hx hdx ndx
    have hx1 : (upd H dx (.own x)) x = none := by rw [upd_ne (Ne.symm ndx)]; exact hx
    refine ⟨x, dx, S.arm, S.mod, rfl, upd_same, a1, a2, m1, m2, rfl, ?_⟩
    have s1 : Same H (upd (upd (upd H dx (.own x)) x (.ins (He.ga K "Book") dx [])) x (.ins (He.ga K "Book") dx [("arms", .int S.arm), ("modulus", .int S.mod)])) := by
      rw [upd_upd]
      exact Same.trans (Same.new hdx) (Same.new hx1)
    have hbk : BookAt K (upd (upd (upd H dx (.own x)) x (.ins (He.ga K "Book") dx [])) x (.ins (He.ga K "Book") dx [("arms", .int S.arm), ("modulus", .int S.mod)])) x S.arm S.mod := ⟨dx, upd_same⟩
    revert s1 hbk
    generalize (upd (upd (upd H dx (.own x)) x (.ins (He.ga K "Book") dx [])) x (.ins (He.ga K "Book") dx [("arms", .int S.arm), ("modulus", .int S.mod)])) = H1
    intro s1 hbk
    have hO11 := s1 _ _ hO1
    walk_at "go"
    refine x_listL (SqL.of (s1 _ _ hO2)) fun p hp => ?_
    have hO12 := upd_old (o := HO.lst (S.feet.map V.str)) hp hO11
    have hO32 := upd_old (o := HO.lst (S.feet.map V.str)) hp (s1 _ _ hO3)
    walk_at "go"
    intro q hq
    walk_at "go"
    intro y dy hy hdy ndy
    have s2 : Same H (upd (upd H1 p (.lst (S.feet.map V.str))) q (.dK (dD V.int S.nums))) := Same.trans s1 (Same.trans (Same.new hp) (Same.new hq))
    have hy1 : (upd (upd (upd H1 p (.lst (S.feet.map V.str))) q (.dK (dD V.int S.nums))) dy (.own y)) y = none := by rw [upd_ne (Ne.symm ndy)]; exact hy
    have s3 : Same (upd (upd H1 p (.lst (S.feet.map V.str))) q (.dK (dD V.int S.nums))) (upd (upd (upd (upd H1 p (.lst (S.feet.map V.str))) q (.dK (dD V.int S.nums))) dy (.own y)) y (.ins (He.ga K "Sheet") dy [])) := Same.trans (Same.new hdy) (Same.new hy1)
    have hy0 : H y = none := Same.free s2 hy
    refine ⟨y, dy, x, p, .ref q, S.arm, S.mod, S.feet, S.nums, rfl, upd_same, hbk.same (Same.trans (Same.trans (Same.new hp) (Same.new hq)) s3), m2, .inl (SqL.of (s3 _ _ (upd_old hq upd_same))), hW, by omega, .inr ⟨q, rfl, s3 _ _ upd_same⟩, hkf, fun H' kk hS => ⟨rfl, ?_⟩⟩
    exact k y H' hy0 (Kp.new kk (Same.trans s2 s3) hy0) hS
inductive Steps (S : Own) : Own → Prop where
  | refl : Steps S S
  | tail {S1 S2 : Own} (h : Steps S S1) (k : S1.Ok) (s : Step S1 S2) : Steps S S2
theorem Steps.part {S S' : Own} (h : Steps S S') : partN S' = partN S := by
  induction h with
  | refl => rfl
  | tail h k s ih => rw [s.part k, ih]
theorem Steps.len {S S' : Own} (h : Steps S S') : S'.feet.length = S.feet.length := by
  induction h with
  | refl => rfl
  | tail h k s ih => rw [← s.perm.length_eq, ih]
theorem Steps.am {S S' : Own} (h : Steps S S') : S'.arm = S.arm ∧ S'.mod = S.mod := by
  induction h with
  | refl => exact ⟨rfl, rfl⟩
  | tail h k s ih => exact ⟨s.same.1.trans ih.1, s.same.2.trans ih.2⟩
/-- other numbers for the same bands -/
structure Re (S : Own) (N : List (Str × Int)) : Prop where
  ky : N.map (·.1) = S.nums.map (·.1)
theorem Re.put {S : Own} {N : List (Str × Int)} (h : Re S N) {n : Str} (z : Int) (hn : n ∈ S.nums.map (·.1)) : Re S (aPut N n z) := ⟨by rw [keys_put, h.ky, if_pos hn]⟩
theorem Re.get {S : Own} {N : List (Str × Int)} (h : Re S N) {n : Str} (hn : n ∈ S.nums.map (·.1)) : ∃ z, aGet N n = some z ∧ (n, z) ∈ N := by
  obtain ⟨z, h1, h2⟩ := aGet_of_mem (l := N) (k := n) (by rw [h.ky]; exact hn)
  exact ⟨z, h1, h2⟩
theorem Re.len {S : Own} {N : List (Str × Int)} (h : Re S N) : N.length = S.nums.length := by
  have := congrArg List.length h.ky
  rwa [List.length_map, List.length_map] at this
theorem Re.share {S : Own} {N : List (Str × Int)} (h : Re S N) (k : S.Ok) : shareZ S.arm S.mod (toldOf S.mod (bandsOf S.feet) N) = shareZ S.arm S.mod N := by
  refine share_told (fun p hp => ?_) (fun n hn => by rw [h.ky]; exact k.fk n hn) (by rw [h.ky]; exact k.nd)
  have : p.1 ∈ S.nums.map (·.1) := by rw [← h.ky]; exact List.mem_map_of_mem hp
  obtain ⟨q, hq, e⟩ := List.mem_map.mp this
  have e' : q.1 = p.1 := e
  rw [← e']
  exact k.kf q hq
theorem Re.kf {S : Own} {N : List (Str × Int)} (h : Re S N) (k : S.Ok) : ∀ p ∈ N, p.1 ∈ S.feet := fun p hp => by
  have : p.1 ∈ S.nums.map (·.1) := by rw [← h.ky]; exact List.mem_map_of_mem hp
  obtain ⟨q, hq, e⟩ := List.mem_map.mp this
  have e' : q.1 = p.1 := e
  rw [← e']
  exact k.kf q hq
theorem share_add {arm mod : Nat} {N : List (Str × Int)} (nd : (N.map (·.1)).Nodup) {n : Str} {z c : Int} (g : aGet N n = some z) : shareZ arm mod (aPut N n (z + (mod : Int) * c)) = shareZ arm mod N := by
  unfold shareZ
  refine gcdZ_ext fun d => ?_
  rw [dvd_shareZ, dvd_shareZ]
  refine and_congr_right fun ha => and_congr_right fun hm => ?_
  rw [dvd_put, dvd_all nd g]
  refine and_congr_left fun _ => ?_
  rw [Int.add_comm, Int.dvd_add_right (Int.dvd_trans hm (Int.dvd_mul_right ..))]
def spMoved : Sp := fun vs H Q _ => ∃ (b l o fa na : Addr) (S : Own) (many : Nat), vs = [.ref b, .ref o, .int many] ∧ BagAt H b l ∧ OwnAt H o fa na S ∧ S.Ok ∧ 1 ≤ many ∧ many ≤ 1000 ∧ ∀ (t tf tn : Addr) (S' : Own) H', H t = none → BagAt H' b l → OwnAt H' t tf tn S' → S'.Ok → Steps S S' → Kp b H H' → Q (.ref t) H'
theorem ok_moved (B : Bi K mg) (c_l_draw : C8.Cal P w K mg base 1 "_law_draw" spDraw []) (c_l_twin : C8.Cal P w K mg base 1 "_law_twin" spTwin []) (c_l_shift : C8.Cal P w K mg base 4 "_law_shift" spShift []) (F : FnP K "_law_moved" st_l_moved f fd) : FnOk P w K mg base CX0 5 f fd ["bag", "own", "many"] spMoved := by
  refine F.ok sc_l_moved (fun vs H Q E h => ?_) (fun cdv A outer s H vs Q E hr h => ?_)
  · obtain ⟨b, l, o, fa, na, S, many, rfl, _⟩ := h
    rfl
  · obtain ⟨b, l, o, fa, na, S, many, rfl, hB, hO, hK, hm1, hm2, k⟩ := h
    have G := B
    refine ⟨_, PSs.nox ((pss_cons (ps_set (i := 3) sc_l_moved.nd rfl (Or.inl rfl) (C8.pe_c c_l_twin hr (by decide) rfl (pa_cons (pv 1) pa_nil)))
      (pss_cons (ps_for PassesOwn.never rfl (pi_range1 (by rfl) G.range (pa_cons (pe_op op_add pe_int (C8.pe_c c_l_draw hr (by decide) rfl (pa_cons (pv 0) (pa_cons (pv 2) pa_nil)))) pa_nil)) (pg_name (i := 4) sc_l_moved.nd rfl (Or.inl rfl))
        (pss_one (ps_expr (C8.pe_c c_l_shift hr (by decide) rfl (pa_cons (pv 0) (pa_cons (pv 3) pa_nil))))))
      (pss_one (ps_ret (pv 3)))))), ?_⟩
    try dsimp only [cxOf]
    walk_at "go"
    refine ⟨o, fa, na, S, rfl, hO, fun t tf tn H1 ht htf htn s1 hT => ?_⟩
    have hB1 := hB.same s1
    walk_at "go"
    refine ⟨b, l, many, rfl, hB1, by omega, by omega, fun r H2 hr2 hB2 kp2 => ?_⟩
    obtain ⟨ntb, ntfb, ntnb, ntl⟩ := bag_own hB1 hT
    have hT2 : OwnAt H2 t tf tn S := ⟨kp2 _ _ ntb hT.o_, kp2 _ _ ntfb hT.f_, kp2 _ _ ntnb hT.n_⟩
    walk_at "go"
    refine w_forR1 (by omega) (by omega) (fun i σ H' => BagAt H' b l ∧ Kp b H H' ∧ ∃ (fa na : Addr) (S' : Own) (u : Option V), OwnAt H' t fa na S' ∧ S'.Ok ∧ Steps S S' ∧ σ = [some (.ref b), some (.ref o), some (.int many), some (.ref t), u]) ⟨hB2, Kp.trans (Kp.of s1) kp2, tf, tn, S, none, hT2, hK, .refl, rfl⟩ ?_ ?_
    · rintro i σ H5 hi ⟨hB5, kp5, fa, na, S5, u, hO5, hK5, hst5, rfl⟩
      walk_at "go"
      refine ⟨b, l, t, fa, na, S5, rfl, hB5, hO5, hK5, fun t' fa' na' S' H6 hB6 hO6 hK6 hst kq6 => ?_⟩
      walk_at "go"
      refine ⟨hB6, Kq.new2 kq6 kp5 ht, fa', na', S', _, hO6, hK6, ?_, rfl⟩
      rcases hst with e | st
      · rw [e]; exact hst5
      · exact .tail hst5 hK5 st
    · rintro σ H5 ⟨hB5, kp5, fa, na, S5, u, hO5, hK5, hst5, rfl⟩
      walk_at "go"
      exact k t fa na S5 H5 ht hB5 hO5 hK5 hst5 kp5

/-! ### the law's words: moves keep the rank -/
theorem wd_of {w : List Str} (h : IsWord w) : Rk.Wd w (bandsOf w) := ⟨nodup_bandsOf w, fun a => (mem_bandsOf w a).symm, h.two⟩
def KerW (w : List Str) : Int := Rk.kerN (Rk.cr w) (bandsOf w)
/-- the rank of a word's crossings -/
def Rank (w : List Str) (R : Nat) : Prop := KerW w * 2 ^ R = 2 ^ (bandsOf w).length
theorem bands_perm {w w' : List Str} (h : w.Perm w') : (bandsOf w).Perm (bandsOf w') :=
  (List.perm_ext_iff_of_nodup (nodup_bandsOf w) (nodup_bandsOf w')).mpr fun a => by rw [mem_bandsOf, mem_bandsOf, h.mem_iff]
theorem Wd_perm {w w' B : List Str} (h : Rk.Wd w B) (p : w.Perm w') : Rk.Wd w' B :=
  ⟨h.nd, fun a => by rw [← p.mem_iff]; exact h.mem a, fun a ha => by rw [← p.count_eq]; exact h.two a (p.mem_iff.mpr ha)⟩
theorem ix_cut {X R : List Str} {y : Str} (h : y ∉ X) : ix (X ++ y :: R) y = X.length := by
  unfold ix
  rw [List.findIdx_append]
  have : ¬(X.findIdx fun z => decide (z = y)) < X.length := fun z => by
    have := List.findIdx_getElem (w := z)
    exact h (by rw [← of_decide_eq_true this]; exact List.getElem_mem z)
  rw [if_neg this]
  simp [List.findIdx_cons]
theorem far_cut {X Y Z : List Str} {y : Str} (hX : y ∉ X) (hY : y ∉ Y) : farOf (X ++ y :: (Y ++ y :: Z)) y X.length = X.length + 1 + Y.length ∧ farOf (X ++ y :: (Y ++ y :: Z)) y (X.length + 1 + Y.length) = X.length := by
  unfold farOf
  rw [ix_cut hX, if_pos rfl, if_neg (by omega)]
  refine ⟨?_, rfl⟩
  have : (X ++ y :: (Y ++ y :: Z)).drop (X.length + 1) = Y ++ y :: Z := by
    rw [List.drop_append, List.drop_of_length_le (by omega), show X.length + 1 - X.length = 1 by omega]; rfl
  rw [this, ix_cut hY]
theorem slide_form {S : Own} {p : Nat} {plus : Bool} {x y : Str} (hw : IsWord S.feet) (hx : S.feet[p]? = some x) (hy : S.feet[nb p plus]? = some y) (h1 : plus = false → 1 ≤ p) (hn : x ≠ y) :
    ∃ P M R, ((S.feet = P ++ x :: (M ++ R) ∧ sl_feet S p plus x y = P ++ (M ++ x :: R)) ∨ (sl_feet S p plus x y = P ++ x :: (M ++ R) ∧ S.feet = P ++ (M ++ x :: R))) ∧ ∀ z, z ≠ x → Rk.cp M z = Rk.cr S.feet y z := by
  have hp := List.getElem?_eq_some_iff.mp hx
  have e1 : S.feet = S.feet.take p ++ x :: S.feet.drop (p + 1) := by
    have := List.take_append_drop p S.feet
    rw [List.drop_eq_getElem_cons hp.1, hp.2] at this
    exact this.symm
  have hc : (sl_left S p).count y = 2 := count_left hw hx (List.mem_of_getElem? hy) hn
  obtain ⟨X, Y, Z, eL, hX, hY, hZ⟩ := Rk.cut_two hc
  have hp1 := hp.1
  have ltk : (S.feet.take p).length = p := by rw [List.length_take]; omega
  have eT : (sl_left S p).take p = S.feet.take p := by unfold sl_left; rw [List.take_append, ltk, Nat.sub_self, List.take_zero, List.append_nil, List.take_of_length_le (by omega)]
  have eD : (sl_left S p).drop p = S.feet.drop (p + 1) := by unfold sl_left; rw [List.drop_append, ltk, Nat.sub_self, List.drop_zero, List.drop_of_length_le (by omega), List.nil_append]
  have e2 : S.feet = (sl_left S p).take p ++ x :: (sl_left S p).drop p := by rw [eT, eD]; exact e1
  -- y's neighbour place in what is left
  have hat : (sl_left S p)[sl_at p plus]? = some y := by
    unfold sl_left sl_at
    cases plus with
    | true =>
      rw [if_pos rfl, List.getElem?_append_right (by omega), ltk, Nat.sub_self, List.getElem?_drop]
      exact hy
    | false =>
      have := h1 rfl
      rw [if_neg (by decide), List.getElem?_append_left (by omega), List.getElem?_take_of_lt (by omega)]
      exact hy
  have hpl : sl_at p plus = X.length ∨ sl_at p plus = X.length + 1 + Y.length := by
    have hm : ∀ a, a ∈ sl_left S p ↔ a ∈ bandsOf (sl_left S p) := fun a => (mem_bandsOf _ a).symm
    rw [eL] at hat
    rcases Nat.lt_trichotomy (sl_at p plus) X.length with l | l | l
    · rw [List.getElem?_append_left l] at hat
      exact (hX (List.mem_of_getElem? hat)).elim
    · exact .inl l
    · rw [List.getElem?_append_right (by omega)] at hat
      obtain ⟨q, hq⟩ : ∃ q, sl_at p plus - X.length = q + 1 := ⟨sl_at p plus - X.length - 1, by omega⟩
      rw [hq, List.getElem?_cons_succ] at hat
      rcases Nat.lt_trichotomy q Y.length with k | k | k
      · rw [List.getElem?_append_left k] at hat
        exact (hY (List.mem_of_getElem? hat)).elim
      · exact .inr (by omega)
      · rw [List.getElem?_append_right (by omega)] at hat
        obtain ⟨r, hr⟩ : ∃ r, q - Y.length = r + 1 := ⟨q - Y.length - 1, by omega⟩
        rw [hr, List.getElem?_cons_succ] at hat
        exact (hZ (List.mem_of_getElem? hat)).elim
  obtain ⟨f1, f2⟩ := far_cut (Z := Z) hX hY
  have cut : ∀ (A C : List Str) (k : Nat), A.length = k → (A ++ C).take k = A ∧ (A ++ C).drop k = C := fun A C k e => by
    subst e; exact ⟨List.take_left, List.drop_left⟩
  have c0 := cut X (y :: (Y ++ y :: Z)) X.length rfl
  have c1 := cut (X ++ [y]) (Y ++ y :: Z) (X.length + 1) (by simp)
  have c2 := cut (X ++ y :: Y) (y :: Z) (X.length + 1 + Y.length) (by simp; omega)
  have c3 := cut (X ++ y :: Y ++ [y]) Z (X.length + 1 + Y.length + 1) (by simp; omega)
  have q1 : X ++ [y] ++ (Y ++ y :: Z) = X ++ y :: (Y ++ y :: Z) := by simp
  have q2 : X ++ y :: Y ++ (y :: Z) = X ++ y :: (Y ++ y :: Z) := by simp
  have q3 : X ++ y :: Y ++ [y] ++ Z = X ++ y :: (Y ++ y :: Z) := by simp
  rw [q1] at c1
  rw [q2] at c2
  rw [q3] at c3
  have hcy : ∀ z, Rk.cp (y :: (Y ++ [y])) z = Rk.cp Y z := fun z => by
    rw [Rk.cp_cons, Rk.cp_append, Rk.cp_cons]
    show xor (decide (y = z)) (xor (Rk.cp Y z) (xor (decide (y = z)) false)) = _
    cases decide (y = z) <;> cases Rk.cp Y z <;> rfl
  have hYx : ∀ z, z ≠ x → Rk.cp (Y ++ [x]) z = Rk.cp Y z := fun z hz => by
    rw [Rk.cp_append, Rk.cp_cons, decide_eq_false (Ne.symm hz)]
    show xor (Rk.cp Y z) (xor false false) = _
    cases Rk.cp Y z <;> rfl
  have hxX : y ∉ X ++ [x] := fun z => (List.mem_append.mp z).elim hX fun z => hn (List.mem_singleton.mp z).symm
  have hxZ : y ∉ x :: Z := fun z => (List.mem_cons.mp z).elim (fun z => hn z.symm) hZ
  have hxY : y ∉ Y ++ [x] := fun z => (List.mem_append.mp z).elim hY fun z => hn (List.mem_singleton.mp z).symm
  have hxY2 : y ∉ x :: Y := fun z => (List.mem_cons.mp z).elim (fun z => hn z.symm) hY
  unfold sl_feet ins
  cases plus with
  | true =>
    unfold sl_spot
    rw [if_pos rfl]
    have ha : sl_at p true = p := rfl
    rw [ha] at hpl ⊢
    rcases hpl with hpl | hpl
    · rw [eL, hpl, c0.1, c0.2] at e2
      rw [eL, hpl, f1, c3.1, c3.2, e2]
      refine ⟨X, y :: (Y ++ [y]), Z, .inl ⟨by simp, by simp⟩, fun z _ => ?_⟩
      have := Rk.cr_between (Z := Z) hxX hY hZ z
      rw [hcy, ← this]; simp
    · rw [eL, hpl, c2.1, c2.2] at e2
      rw [eL, hpl, f2, c1.1, c1.2, e2]
      refine ⟨X ++ [y], Y, y :: Z, .inr ⟨by simp, by simp⟩, fun z hz => ?_⟩
      have := Rk.cr_between (Z := Z) hX hxY hZ z
      rw [← hYx z hz, ← this]; simp
  | false =>
    unfold sl_spot
    rw [if_neg (by decide)]
    have ha : sl_at p false = p - 1 := rfl
    have h1 := h1 rfl
    rw [ha] at hpl ⊢
    rcases hpl with hpl | hpl
    · have ep : p = X.length + 1 := by omega
      rw [eL, ep, c1.1, c1.2] at e2
      rw [eL, hpl, f1, c2.1, c2.2, e2]
      refine ⟨X ++ [y], Y, y :: Z, .inl ⟨by simp, by simp⟩, fun z hz => ?_⟩
      have := Rk.cr_between (Z := Z) hX hxY2 hZ z
      rw [show Rk.cp Y z = Rk.cp (x :: Y) z by rw [Rk.cp_cons, decide_eq_false (Ne.symm hz), Bool.false_xor], ← this]; simp
    · have ep : p = X.length + 1 + Y.length + 1 := by omega
      rw [eL, ep, c3.1, c3.2] at e2
      rw [eL, hpl, f2, c0.1, c0.2, e2]
      refine ⟨X, y :: (Y ++ [y]), Z, .inr ⟨by simp, by simp⟩, fun z _ => ?_⟩
      have := Rk.cr_between (Z := x :: Z) hX hY hxZ z
      rw [hcy, ← this]; simp
theorem Step.ker {S S' : Own} (h : Step S S') (hw : IsWord S.feet) : KerW S'.feet = KerW S.feet := by
  have p := h.perm
  have w1 := wd_of hw
  have w2 := Wd_perm w1 p
  have ek : KerW S'.feet = Rk.kerN (Rk.cr S'.feet) (bandsOf S.feet) := (Rk.kerN_perm (bands_perm p)).symm
  rw [ek]
  clear ek
  cases h with
  | slide h =>
    obtain ⟨q, plus, x, y, nx, ny, hx, hy, h1, hn, _, _, rfl⟩ := h.ex
    obtain ⟨P, M, R, e1, e2⟩ := slide_form hw hx hy h1 hn
    exact Rk.kerN_slide (nodup_bandsOf _) ((mem_bandsOf _ _).mpr (List.mem_of_getElem? hx)) ((mem_bandsOf _ _).mpr (List.mem_of_getElem? hy)) hn (w1.diag y) fun b _ z _ => Rk.cr_move w1 w2 hn e1 e2 b z
  | turn n z r e g h =>
    subst h
    have w2' : Rk.Wd (r ++ [n]) (bandsOf S.feet) := w2
    show Rk.kerN (Rk.cr (r ++ [n])) (bandsOf S.feet) = Rk.kerN (Rk.cr S.feet) (bandsOf S.feet)
    rw [e] at w1 w2' ⊢
    refine Rk.kerN_congr fun b _ z _ => ?_
    exact Rk.cr_turn w1 w2' b z
  | unturn n z r e g h =>
    subst h
    have w2' : Rk.Wd (n :: r) (bandsOf S.feet) := w2
    show Rk.kerN (Rk.cr (n :: r)) (bandsOf S.feet) = Rk.kerN (Rk.cr S.feet) (bandsOf S.feet)
    rw [e] at w1 w2' ⊢
    refine Rk.kerN_congr fun b _ z _ => ?_
    exact (Rk.cr_turn w2' w1 b z).symm
theorem Step.rank {S S' : Own} (h : Step S S') (hw : IsWord S.feet) {R : Nat} : Rank S'.feet R ↔ Rank S.feet R := by
  unfold Rank
  rw [h.ker hw, (bands_perm h.perm).length_eq]
theorem rank_uniq {w : List Str} (h : IsWord w) {R R' : Nat} (h1 : Rank w R) (h2 : Rank w R') : R = R' := by
  have wd := wd_of h
  obtain ⟨_, a, b⟩ := Rk.rank_of wd.nd (fun a _ b _ => wd.sym a b) (fun a _ => wd.diag a) h1
  obtain ⟨_, a', b'⟩ := Rk.rank_of wd.nd (fun a _ b _ => wd.sym a b) (fun a _ => wd.diag a) h2
  rw [b] at b'
  have : (2 : Nat) ^ ((bandsOf w).length - R) = 2 ^ ((bandsOf w).length - R') := by
    have e : (((2 : Nat) ^ ((bandsOf w).length - R) : Nat) : Int) = ((2 ^ ((bandsOf w).length - R') : Nat) : Int) := by rw [Int.natCast_pow, Int.natCast_pow]; exact b'
    exact Int.ofNat.inj e
  have := Rk.pow_inj2 this
  omega
/-! partners of places -/
def mtW (w : List Str) (p : Nat) : Nat := match w[p]? with
  | some b => farOf w b p
  | none => 0
theorem mt_ok {w : List Str} (h : IsWord w) : Rk.Mate w (mtW w) := by
  have wd := wd_of h
  have ha : ∀ X b Y Z, w = X ++ b :: (Y ++ b :: Z) → b ∉ X → b ∉ Y → b ∉ Z → mtW w X.length = X.length + 1 + Y.length ∧ mtW w (X.length + 1 + Y.length) = X.length := fun X b Y Z e hX hY hZ => by
    obtain ⟨f1, f2⟩ := far_cut (Z := Z) hX hY
    have g1 : w[X.length]? = some b := by rw [e, List.getElem?_append_right (Nat.le_refl _), Nat.sub_self]; rfl
    have g2 : w[X.length + 1 + Y.length]? = some b := by
      rw [e, List.getElem?_append_right (by omega), show X.length + 1 + Y.length - X.length = Y.length + 1 by omega, List.getElem?_cons_succ, List.getElem?_append_right (Nat.le_refl _), Nat.sub_self]; rfl
    unfold mtW
    rw [g1, g2]
    show farOf w b _ = _ ∧ farOf w b _ = _
    rw [e]
    exact ⟨f1, f2⟩
  refine ⟨fun p hp => ?_, ha⟩
  obtain ⟨X, Y, Z, e, hX, hY, hZ, hpp⟩ := Rk.place_cut wd (List.getElem?_eq_getElem hp)
  obtain ⟨m1, m2⟩ := ha X _ Y Z e hX hY hZ
  have hl := congrArg List.length e
  simp only [List.length_append, List.length_cons] at hl
  rcases hpp with z | z
  · rw [z, m1]; omega
  · rw [z, m2]; omega
/-- the number of rims -/
def Rims (w : List Str) (k : Nat) : Prop := (w = [] ∧ k = 1) ∨ (w ≠ [] ∧ ∃ U, Rk.Cyc (fun p => Rk.prv w.length (mtW w p)) w.length U k ∧ ∀ p, p < w.length → p ∈ U)
theorem rims_law {w : List Str} (h : IsWord w) {k R : Nat} (h1 : Rims w k) (h2 : Rank w R) : R % 2 = 0 ∧ R + k = (bandsOf w).length + 1 := by
  have wd := wd_of h
  rcases h1 with ⟨e, ek⟩ | ⟨e, U, hU, ha⟩
  · subst e ek
    have hk : KerW [] = 1 := rfl
    unfold Rank at h2
    rw [hk, Int.one_mul] at h2
    have : R = 0 := by
      cases R with
      | zero => rfl
      | succ R =>
        exfalso
        have h2 : (2 : Int) ^ (R + 1) = 1 := h2
        rw [Int.pow_succ] at h2
        omega
    subst this
    exact ⟨rfl, rfl⟩
  · exact Rk.rims_rank wd (mt_ok h) (List.length_pos_iff.mpr e) hU ha h2
/-- what a place's partner is -/
theorem mt_facts {w : List Str} (h : IsWord w) {p : Nat} (hp : p < w.length) : mtW w p < w.length ∧ mtW w p ≠ p ∧ w[mtW w p]? = w[p]? ∧ mtW w (mtW w p) = p ∧ ∀ q, w[q]? = w[p]? → q = p ∨ q = mtW w p := by
  have wd := wd_of h
  have hm := mt_ok h
  obtain ⟨X, Y, Z, e, hX, hY, hZ, hpp⟩ := Rk.place_cut wd (List.getElem?_eq_getElem hp)
  have hb : w[p]? = some w[p] := List.getElem?_eq_getElem hp
  generalize w[p] = b at e hX hY hZ hb
  obtain ⟨m1, m2⟩ := hm.at_ X b Y Z e hX hY hZ
  have g1 : w[X.length]? = some b := by rw [e, List.getElem?_append_right (Nat.le_refl _), Nat.sub_self]; rfl
  have g2 : w[X.length + 1 + Y.length]? = some b := by
    rw [e, List.getElem?_append_right (by omega), show X.length + 1 + Y.length - X.length = Y.length + 1 by omega, List.getElem?_cons_succ, List.getElem?_append_right (Nat.le_refl _), Nat.sub_self]; rfl
  have un : ∀ q, w[q]? = some b → q = X.length ∨ q = X.length + 1 + Y.length := fun q hq => by
    obtain ⟨X', Y', Z', e', hX', hY', hZ', hqq⟩ := Rk.place_cut wd hq
    have hc : ix w b = X.length := by rw [e]; exact ix_cut hX
    have hc' : ix w b = X'.length := by rw [e']; exact ix_cut hX'
    have m1' := (hm.at_ X' b Y' Z' e' hX' hY' hZ').1
    rw [show X'.length = X.length by omega] at m1' hqq
    omega
  refine ⟨hm.lt p hp, ?_, ?_, hm.inv wd hp, fun q hq => ?_⟩
  · rcases hpp with z | z
    · rw [z, m1]; omega
    · rw [z, m2]; omega
  · rw [hb]
    rcases hpp with z | z
    · rw [z, m1]; exact g2
    · rw [z, m2]; exact g1
  · rw [hb] at hq
    have h1 := un q hq
    rcases hpp with z | z
    · rw [z, m1]; omega
    · rw [z, m2]; omega
theorem mt_pl {w : List Str} (h : IsWord w) {p : Nat} {b : Str} (hb : w[p]? = some b) (hl : p < mtW w p) : PlOf w b p (mtW w p) := by
  have hp := (List.getElem?_eq_some_iff.mp hb).1
  obtain ⟨f1, f2, f3, f4, f5⟩ := mt_facts h hp
  refine ⟨hb, by rw [f3]; exact hb, fun k hk => ?_⟩
  rcases f5 k (hk.trans hb.symm) with e | e <;> omega
theorem pl_mt {w : List Str} (h : IsWord w) {b : Str} {i j : Nat} (hp : PlOf w b i j) : i < j ∧ mtW w i = j := by
  obtain ⟨h1, h2, h3⟩ := hp
  have hi := (List.getElem?_eq_some_iff.mp h1).1
  obtain ⟨f1, f2, f3, f4, f5⟩ := mt_facts h hi
  have k1 := h3 (mtW w i) (f3.trans h1)
  rcases f5 j (h2.trans h1.symm) with e | e <;> omega
theorem pl_new {w : List Str} (h : IsWord w) {i : Nat} {b : Str} (hb : w[i]? = some b) : (i < mtW w i) ↔ b ∉ w.take i := by
  have hi := (List.getElem?_eq_some_iff.mp hb).1
  obtain ⟨f1, f2, f3, f4, f5⟩ := mt_facts h hi
  constructor
  · intro hl hm
    obtain ⟨q, hq⟩ := List.getElem?_of_mem hm
    rw [List.getElem?_take] at hq
    split at hq
    · rcases f5 q (hq.trans hb.symm) with e | e <;> omega
    · cases hq
  · intro hm
    rcases Nat.lt_trichotomy i (mtW w i) with l | l | l
    · exact l
    · exact (f2 l.symm).elim
    · refine (hm ?_).elim
      refine List.mem_of_getElem? (i := mtW w i) ?_
      rw [List.getElem?_take, if_pos l, f3]
      exact hb
def leftsW (w : List Str) (n : Nat) : List Nat := (List.range n).filter fun k => decide (k < mtW w k)
theorem leftsW_succ (w : List Str) (n : Nat) : leftsW w (n + 1) = if n < mtW w n then leftsW w n ++ [n] else leftsW w n := by
  unfold leftsW
  rw [List.range_succ, List.filter_append]
  by_cases e : n < mtW w n
  · rw [if_pos e]; simp [e]
  · rw [if_neg e]; simp [e]
theorem lefts_bands {w : List Str} (h : IsWord w) : ∀ n, n ≤ w.length → (leftsW w n).map (fun k => w.getD k "") = bandsOf (w.take n)
  | 0, _ => rfl
  | n + 1, hn => by
    have hb : w[n]? = some w[n] := List.getElem?_eq_getElem hn
    have ih := lefts_bands h n (by omega)
    rw [leftsW_succ, take_snoc hb, bandsOf_snoc]
    have := pl_new h hb
    by_cases e : n < mtW w n
    · rw [if_pos e, if_neg fun z => this.mp e ((mem_bandsOf _ _).mp z), List.map_append, ih]
      congr 1
      show [w.getD n ""] = _
      rw [List.getD_eq_getElem?_getD, hb]; rfl
    · rw [if_neg e, if_pos ((mem_bandsOf _ _).mpr (Classical.byContradiction fun z => e (this.mpr z))), ih]
theorem lefts_at {w : List Str} (h : IsWord w) {i k : Nat} (hk : (leftsW w w.length)[i]? = some k) : k < w.length ∧ k < mtW w k ∧ (bandsOf w)[i]? = w[k]? := by
  have hm := List.mem_filter.mp (List.mem_of_getElem? hk)
  have hkl := List.mem_range.mp hm.1
  refine ⟨hkl, of_decide_eq_true hm.2, ?_⟩
  have := lefts_bands h w.length (Nat.le_refl _)
  rw [List.take_length] at this
  rw [← this, List.getElem?_map, hk]
  show some (w.getD k "") = _
  rw [List.getD_eq_getElem?_getD, List.getElem?_eq_getElem hkl]; rfl
theorem lefts_len {w : List Str} (h : IsWord w) : (leftsW w w.length).length = (bandsOf w).length := by
  have := congrArg List.length (lefts_bands h w.length (Nat.le_refl _))
  rwa [List.length_map, List.take_length] at this
/-- how often a letter stood ahead of p, oddly -/
theorem cp_take {w : List Str} (h : IsWord w) {m : Str} {k l : Nat} (hp : PlOf w m k l) (p : Nat) : Rk.cp (w.take p) m = xor (decide (k < p)) (decide (l < p)) := by
  obtain ⟨h1, h2⟩ := pl_mt h hp
  have hk := (List.getElem?_eq_some_iff.mp hp.1).1
  have hl := (List.getElem?_eq_some_iff.mp hp.2.1).1
  induction p with
  | zero => rfl
  | succ p ih =>
    by_cases hpl : p < w.length
    · have hb : w[p]? = some w[p] := List.getElem?_eq_getElem hpl
      rw [take_snoc hb, Rk.cp_append, ih, Rk.cp_cons]
      show xor _ (xor (decide (w[p] = m)) false) = _
      rw [Bool.xor_false]
      by_cases e : w[p] = m
      · have : p = k ∨ p = l := by
          obtain ⟨_, _, _, _, f5⟩ := mt_facts h hk
          rw [h2] at f5
          exact f5 p (by rw [hb, e, hp.1])
        rw [decide_eq_true e]
        rcases this with z | z
        · rw [decide_eq_false (show ¬k < p by omega), decide_eq_false (show ¬l < p by omega), decide_eq_true (show k < p + 1 by omega), decide_eq_false (show ¬l < p + 1 by omega)]; rfl
        · rw [decide_eq_true (show k < p by omega), decide_eq_false (show ¬l < p by omega), decide_eq_true (show k < p + 1 by omega), decide_eq_true (show l < p + 1 by omega)]; rfl
      · have n1 : p ≠ k := fun z => e (Option.some.inj (hb.symm.trans (by rw [z]; exact hp.1)))
        have n2 : p ≠ l := fun z => e (Option.some.inj (hb.symm.trans (by rw [z]; exact hp.2.1)))
        rw [decide_eq_false e, Bool.xor_false, show decide (k < p + 1) = decide (k < p) from decide_eq_decide.mpr (by omega), show decide (l < p + 1) = decide (l < p) from decide_eq_decide.mpr (by omega)]
    · rw [List.take_of_length_le (by omega)]
      rw [List.take_of_length_le (by omega)] at ih
      rw [ih, decide_eq_true (show k < p by omega), decide_eq_true (show l < p by omega), decide_eq_true (show k < p + 1 by omega), decide_eq_true (show l < p + 1 by omega)]
theorem cross_dec {w : List Str} (h : IsWord w) {n m : Str} {i j k l : Nat} (h1 : PlOf w n i j) (h2 : PlOf w m k l) : Rk.cr w n m = decide ((i < k ∧ k < j ∧ j < l) ∨ (k < i ∧ i < l ∧ l < j)) := by
  have wd := wd_of h
  obtain ⟨a1, a2⟩ := pl_mt h h1
  obtain ⟨b1, b2⟩ := pl_mt h h2
  by_cases e : n = m
  · subst e
    have c1 := h1.2.2 k h2.1
    have c2 := h1.2.2 l h2.2.1
    have c3 := h2.2.2 i h1.1
    have c4 := h2.2.2 j h1.2.1
    rw [wd.diag, decide_eq_false (by omega)]
  · have ne : ∀ {p q : Nat}, w[p]? = some n → w[q]? = some m → p ≠ q := fun h1 h2 z => e (Option.some.inj (h1.symm.trans (by rw [z]; exact h2)))
    obtain ⟨X, Y, Z, ew, hX, hY, hZ, hpp⟩ := Rk.place_cut wd h1.1
    obtain ⟨m1, m2⟩ := (mt_ok h).at_ X n Y Z ew hX hY hZ
    have hi : i = X.length := by
      rcases hpp with z | z
      · exact z
      · rw [z, m2] at a2; omega
    have hj : j = X.length + 1 + Y.length := by rw [← a2, hi, m1]
    obtain ⟨s1, s2, s3, s4⟩ := Rk.sv_cut (X := X) (Y := Y) (Z := Z) (b := n) fun y => decide (y = m)
    rw [← ew] at s2 s3
    have t1 : Rk.cp (w.take (i + 1)) m = xor (Rk.px X fun y => decide (y = m)) (decide (n = m)) := by rw [hi]; exact s2
    have t2 : Rk.cp (w.take j) m = xor (xor (Rk.px X fun y => decide (y = m)) (decide (n = m))) (Rk.cp Y m) := by rw [hj]; exact s3
    have t3 : Rk.cr w n m = Rk.cp Y m := by rw [ew]; exact Rk.cr_between hX hY hZ m
    rw [cp_take h h2] at t1 t2
    rw [← t1] at t2
    have n1 := ne h1.1 h2.1
    have n2 := ne h1.1 h2.2.1
    have n3 := ne h1.2.1 h2.1
    have n4 := ne h1.2.1 h2.2.1
    have t4 : Rk.cr w n m = xor (xor (decide (k < i + 1)) (decide (l < i + 1))) (xor (decide (k < j)) (decide (l < j))) := by
      rw [t3, t2]
      cases decide (k < i + 1) <;> cases decide (l < i + 1) <;> cases Rk.cp Y m <;> rfl
    rw [t4]
    have ev : ∀ (b1 b2 b3 b4 : Bool), decide (k < i + 1) = b1 → decide (l < i + 1) = b2 → decide (k < j) = b3 → decide (l < j) = b4 → xor (xor (decide (k < i + 1)) (decide (l < i + 1))) (xor (decide (k < j)) (decide (l < j))) = xor (xor b1 b2) (xor b3 b4) := fun _ _ _ _ z1 z2 z3 z4 => by rw [z1, z2, z3, z4]
    by_cases hp : (i < k ∧ k < j ∧ j < l) ∨ (k < i ∧ i < l ∧ l < j)
    · rw [decide_eq_true hp]
      rcases hp with ⟨u1, u2, u3⟩ | ⟨u1, u2, u3⟩
      · exact ev _ _ _ _ (decide_eq_false (by omega)) (decide_eq_false (by omega)) (decide_eq_true (by omega)) (decide_eq_false (by omega))
      · exact ev _ _ _ _ (decide_eq_true (by omega)) (decide_eq_false (by omega)) (decide_eq_true (by omega)) (decide_eq_true (by omega))
    · rw [decide_eq_false hp]
      have h4 : l < i ∨ (i < k ∧ l < j) ∨ (k < i ∧ j < l) ∨ j < k := by omega
      rcases h4 with u | ⟨u1, u2⟩ | ⟨u1, u2⟩ | u
      · exact ev _ _ _ _ (decide_eq_true (by omega)) (decide_eq_true (by omega)) (decide_eq_true (by omega)) (decide_eq_true (by omega))
      · exact ev _ _ _ _ (decide_eq_false (by omega)) (decide_eq_false (by omega)) (decide_eq_true (by omega)) (decide_eq_true (by omega))
      · exact ev _ _ _ _ (decide_eq_true (by omega)) (decide_eq_false (by omega)) (decide_eq_true (by omega)) (decide_eq_false (by omega))
      · exact ev _ _ _ _ (decide_eq_false (by omega)) (decide_eq_false (by omega)) (decide_eq_false (by omega)) (decide_eq_false (by omega))
/-- the mates' list behind the first i places -/
def MtAt (w : List Str) (i : Nat) (M : List Nat) : Prop := M.length = w.length ∧ ∀ q, q < w.length → M[q]? = some (if q < i ∧ mtW w q < i then mtW w q else 0)
theorem MtAt.zero (w : List Str) : MtAt w 0 (List.replicate w.length 0) := ⟨List.length_replicate, fun q hq => by
  rw [if_neg (by omega), List.getElem?_replicate, if_pos hq]⟩
theorem MtAt.old {w : List Str} (h : IsWord w) {i : Nat} {M : List Nat} (hM : MtAt w i M) {b : Str} (hb : w[i]? = some b) (hn : b ∉ w.take i) : MtAt w (i + 1) M := by
  have hl := (pl_new h hb).mpr hn
  refine ⟨hM.1, fun q hq => ?_⟩
  rw [hM.2 q hq]
  obtain ⟨f1, f2, f3, f4, f5⟩ := mt_facts h hq
  by_cases e1 : q = i
  · rw [if_neg (by omega), if_neg (by rw [e1]; omega)]
  · by_cases e2 : mtW w q = i
    · have : q = mtW w i := by rw [← e2, f4]
      rw [if_neg (by omega), if_neg (by omega)]
    · congr 1
      by_cases c : q < i ∧ mtW w q < i
      · rw [if_pos c, if_pos (by omega)]
      · rw [if_neg c, if_neg (by omega)]
theorem MtAt.new {w : List Str} (h : IsWord w) {i j : Nat} {M : List Nat} (hM : MtAt w i M) {b : Str} (hb : w[i]? = some b) (hj : w[j]? = some b) (hji : j < i) : MtAt w (i + 1) ((M.set i j).set j i) := by
  have hi := (List.getElem?_eq_some_iff.mp hb).1
  obtain ⟨f1, f2, f3, f4, f5⟩ := mt_facts h hi
  have ej : j = mtW w i := (f5 j (hj.trans hb.symm)).resolve_left (by omega)
  refine ⟨by rw [List.length_set, List.length_set]; exact hM.1, fun q hq => ?_⟩
  rw [List.getElem?_set, List.length_set, hM.1]
  by_cases e1 : j = q
  · rw [if_pos e1, if_pos (by omega), ← e1, ej, f4, if_pos (by omega)]
  · rw [if_neg e1, List.getElem?_set, hM.1]
    by_cases e2 : i = q
    · rw [if_pos e2, if_pos (by omega), ← e2, ← ej, if_pos (by omega)]
    · rw [if_neg e2, hM.2 q hq]
      obtain ⟨g1, g2, g3, g4, g5⟩ := mt_facts h hq
      have e3 : mtW w q ≠ i := fun z => e1 (by rw [ej, ← z, g4])
      congr 1
      by_cases c : q < i ∧ mtW w q < i
      · rw [if_pos c, if_pos (by omega)]
      · rw [if_neg c, if_neg (by omega)]
theorem MtAt.full {w : List Str} (h : IsWord w) {M : List Nat} (hM : MtAt w w.length M) : M.length = w.length ∧ ∀ q, q < w.length → M[q]? = some (mtW w q) := ⟨hM.1, fun q hq => by
  rw [hM.2 q hq, if_pos ⟨hq, (mt_facts h hq).1⟩]⟩
/-! ### the lots' sums behind moves -/
theorem ix_lt {L : List Str} {x : Str} (h : x ∈ L) (k : Nat) : ix L x < k ↔ x ∈ L.take k := by
  obtain ⟨h1, h2⟩ := ix_spec h
  constructor
  · intro hk
    refine List.mem_of_getElem? (i := ix L x) ?_
    rw [List.getElem?_take, if_pos hk]
    exact h1
  · intro hm
    obtain ⟨j, hj⟩ := List.getElem?_of_mem hm
    rw [List.getElem?_take] at hj
    split at hj
    · rename_i hjk
      refine Nat.lt_of_le_of_lt (Nat.not_lt.mp fun z => ?_) hjk
      exact h2 j z hj
    · cases hj
theorem ix_ins {L : List Str} {x : Str} (h : x ∈ L) {k : Nat} (hk : k ≤ L.length) : ix (ins L k x) x < k ↔ ix L x < k := by
  have hm : x ∈ ins L k x := by unfold ins; simp
  rw [ix_lt hm, ix_lt h]
  unfold ins
  have : (L.take k).length = k := by rw [List.length_take]; omega
  rw [List.take_append, this, Nat.sub_self, List.take_zero, List.append_nil, List.take_of_length_le (by omega)]
/-- the letters of a list, from two places alone -/
theorem cp_two {L : List Str} {y : Str} {a c : Nat} (hac : a < c) (hcl : c < L.length) (h : ∀ p, L[p]? = some y ↔ p = a ∨ p = c) (k : Nat) : Rk.cp (L.take k) y = xor (decide (a < k)) (decide (c < k)) := by
  induction k with
  | zero => rfl
  | succ p ih =>
    by_cases hpl : p < L.length
    · have hb : L[p]? = some L[p] := List.getElem?_eq_getElem hpl
      rw [take_snoc hb, Rk.cp_append, ih, Rk.cp_cons]
      show xor _ (xor (decide (L[p] = y)) false) = _
      rw [Bool.xor_false]
      by_cases e : L[p] = y
      · have := (h p).mp (by rw [hb, e])
        rw [decide_eq_true e]
        rcases this with z | z
        · rw [decide_eq_false (show ¬a < p by omega), decide_eq_false (show ¬c < p by omega), decide_eq_true (show a < p + 1 by omega), decide_eq_false (show ¬c < p + 1 by omega)]; rfl
        · rw [decide_eq_true (show a < p by omega), decide_eq_false (show ¬c < p by omega), decide_eq_true (show a < p + 1 by omega), decide_eq_true (show c < p + 1 by omega)]; rfl
      · have n1 : p ≠ a := fun z => e (Option.some.inj (hb.symm.trans ((h p).mpr (.inl z))))
        have n2 : p ≠ c := fun z => e (Option.some.inj (hb.symm.trans ((h p).mpr (.inr z))))
        rw [decide_eq_false e, Bool.xor_false, show decide (a < p + 1) = decide (a < p) from decide_eq_decide.mpr (by omega), show decide (c < p + 1) = decide (c < p) from decide_eq_decide.mpr (by omega)]
    · rw [List.take_of_length_le (by omega)]
      rw [List.take_of_length_le (by omega)] at ih
      rw [ih, decide_eq_true (show a < p by omega), decide_eq_true (show c < p by omega), decide_eq_true (show a < p + 1 by omega), decide_eq_true (show c < p + 1 by omega)]
theorem cut_at {X Y Z : List Str} {y : Str} (hX : y ∉ X) (hY : y ∉ Y) (hZ : y ∉ Z) (p : Nat) : (X ++ y :: (Y ++ y :: Z))[p]? = some y ↔ p = X.length ∨ p = X.length + 1 + Y.length := by
  constructor
  · intro hp
    rcases Nat.lt_trichotomy p X.length with l | l | l
    · rw [List.getElem?_append_left l] at hp
      exact (hX (List.mem_of_getElem? hp)).elim
    · exact .inl l
    · rw [List.getElem?_append_right (by omega)] at hp
      obtain ⟨q, hq⟩ : ∃ q, p - X.length = q + 1 := ⟨p - X.length - 1, by omega⟩
      rw [hq, List.getElem?_cons_succ] at hp
      rcases Nat.lt_trichotomy q Y.length with k | k | k
      · rw [List.getElem?_append_left k] at hp
        exact (hY (List.mem_of_getElem? hp)).elim
      · exact .inr (by omega)
      · rw [List.getElem?_append_right (by omega)] at hp
        obtain ⟨r, hr⟩ : ∃ r, q - Y.length = r + 1 := ⟨q - Y.length - 1, by omega⟩
        rw [hr, List.getElem?_cons_succ] at hp
        exact (hZ (List.mem_of_getElem? hp)).elim
  · rintro (e | e)
    · rw [e, List.getElem?_append_right (Nat.le_refl _), Nat.sub_self]; rfl
    · rw [e, List.getElem?_append_right (by omega), show X.length + 1 + Y.length - X.length = Y.length + 1 by omega, List.getElem?_cons_succ, List.getElem?_append_right (Nat.le_refl _), Nat.sub_self]; rfl
/-- the crossing of a letter that is put in -/
theorem cr_ins {L : List Str} {x y : Str} (hn : x ≠ y) (hx : L.count x = 1) (hy : Rk.cp L y = false) {p : Nat} : Rk.cr (ins L p x) x y = xor (Rk.cp (L.take p) y) (Rk.cp (L.take (ix L x)) y) := by
  have hxm : x ∈ L := List.count_pos_iff.mp (by omega)
  obtain ⟨U, V, e⟩ := List.append_of_mem hxm
  have hU : x ∉ U := fun z => by
    rw [e, List.count_append, List.count_cons_self] at hx
    have := List.count_pos_iff.mpr z
    omega
  have hV : x ∉ V := fun z => by
    rw [e, List.count_append, List.count_cons_self] at hx
    have := List.count_pos_iff.mpr z
    omega
  have hix : ix L x = U.length := by rw [e]; exact ix_cut hU
  have e1 : Rk.cr (ins L p x) x y = xor (Rk.nn L x y) (Rk.cp (L.drop p) y) := by
    show (!decide (x = y) && Rk.nn (L.take p ++ x :: L.drop p) x y) = _
    rw [decide_eq_false hn, Rk.nn_append]
    conv => rhs; rw [← List.take_append_drop p L, Rk.nn_append, List.take_append_drop]
    show (!false && xor (xor (Rk.nn (L.take p) x y) (xor (decide (x = x) && Rk.cp (L.drop p) y) (Rk.nn (L.drop p) x y))) (Rk.cp (L.take p) x && Rk.cp (x :: L.drop p) y)) = _
    rw [decide_eq_true rfl, Rk.cp_cons, decide_eq_false hn, Bool.false_xor]
    cases Rk.nn (L.take p) x y <;> cases Rk.cp (L.drop p) y <;> cases Rk.nn (L.drop p) x y <;> cases Rk.cp (L.take p) x <;> rfl
  have e2 : Rk.nn L x y = Rk.cp V y := by
    rw [e, Rk.nn_append, Rk.nn_not hU, Rk.cp_not hU]
    show xor (xor false (xor (decide (x = x) && Rk.cp V y) (Rk.nn V x y))) (false && _) = _
    rw [decide_eq_true rfl, Rk.nn_not hV]
    cases Rk.cp V y <;> rfl
  have e3 : xor (Rk.cp (L.take p) y) (Rk.cp (L.drop p) y) = false := by rw [← Rk.cp_append, List.take_append_drop]; exact hy
  have e4 : xor (Rk.cp U y) (Rk.cp V y) = false := by
    rw [e, Rk.cp_append, Rk.cp_cons, decide_eq_false hn, Bool.false_xor] at hy
    exact hy
  have e5 : L.take (ix L x) = U := by rw [hix, e, List.take_left]
  rw [e1, e2, e5]
  revert e3 e4
  cases Rk.cp (L.take p) y <;> cases Rk.cp (L.drop p) y <;> cases Rk.cp U y <;> cases Rk.cp V y <;> decide
theorem sgn_if (p : Prop) [Decidable p] : sgnB (decide p) = if p then -1 else 1 := by
  unfold sgnB
  by_cases h : p
  · rw [decide_eq_true h, if_pos rfl, if_pos h]
  · rw [decide_eq_false h, if_neg (by decide), if_neg h]
/-- half the sum of signs is odd just if the two bands cross -/
theorem slide_half {S : Own} {p : Nat} {plus : Bool} {x y : Str} (hw : IsWord S.feet) (hx : S.feet[p]? = some x) (hy : S.feet[nb p plus]? = some y) (h1 : plus = false → 1 ≤ p) (hn : x ≠ y) :
    (((sl_before S p x + sgS plus + sl_along S p plus y - sl_behind S p plus x y) / 2) % 2 = 1 ↔ Rk.cr S.feet x y = true) := by
  have hp := List.getElem?_eq_some_iff.mp hx
  have hp1 := hp.1
  have e1 : S.feet = S.feet.take p ++ x :: S.feet.drop (p + 1) := by
    have := List.take_append_drop p S.feet
    rw [List.drop_eq_getElem_cons hp.1, hp.2] at this
    exact this.symm
  have hc : (sl_left S p).count y = 2 := count_left hw hx (List.mem_of_getElem? hy) hn
  obtain ⟨X, Y, Z, eL, hX, hY, hZ⟩ := Rk.cut_two hc
  have ltk : (S.feet.take p).length = p := by rw [List.length_take]; omega
  have eT : (sl_left S p).take p = S.feet.take p := by unfold sl_left; rw [List.take_append, ltk, Nat.sub_self, List.take_zero, List.append_nil, List.take_of_length_le (by omega)]
  have eD : (sl_left S p).drop p = S.feet.drop (p + 1) := by unfold sl_left; rw [List.drop_append, ltk, Nat.sub_self, List.drop_zero, List.drop_of_length_le (by omega), List.nil_append]
  have e2 : S.feet = ins (sl_left S p) p x := by unfold ins; rw [eT, eD]; exact e1
  have hpl : p ≤ (sl_left S p).length := by unfold sl_left; rw [List.length_append, ltk]; omega
  have hxc : (sl_left S p).count x = 1 := by
    have h2 := hw.two x (List.mem_of_getElem? hx)
    rw [e1, List.count_append, List.count_cons_self] at h2
    unfold sl_left
    rw [List.count_append]; omega
  have hxm : x ∈ sl_left S p := List.count_pos_iff.mp (by omega)
  have hat : (sl_left S p)[sl_at p plus]? = some y := by
    unfold sl_left sl_at
    cases plus with
    | true =>
      rw [if_pos rfl, List.getElem?_append_right (by omega), ltk, Nat.sub_self, List.getElem?_drop]
      exact hy
    | false =>
      have := h1 rfl
      rw [if_neg (by decide), List.getElem?_append_left (by omega), List.getElem?_take_of_lt (by omega)]
      exact hy
  have hpos : ∀ q, (sl_left S p)[q]? = some y ↔ q = X.length ∨ q = X.length + 1 + Y.length := fun q => by rw [eL]; exact cut_at hX hY hZ q
  obtain ⟨f1, f2⟩ := far_cut (Z := Z) hX hY
  rw [← eL] at f1 f2
  have hLl : X.length + 1 + Y.length < (sl_left S p).length := by rw [eL]; simp; omega
  have hcpL : Rk.cp (sl_left S p) y = false := by rw [Rk.cp_count, hc]; rfl
  have hcr := cr_ins (p := p) hn hxc hcpL
  rw [← e2] at hcr
  have hac : X.length < X.length + 1 + Y.length := by omega
  rw [cp_two hac hLl hpos, cp_two hac hLl hpos] at hcr
  -- x's other foot
  obtain ⟨g1, g2⟩ := ix_spec hxm
  have no1 : ix (sl_left S p) x ≠ X.length := fun z => hn (Option.some.inj (g1.symm.trans ((hpos _).mpr (.inl z))))
  have no2 : ix (sl_left S p) x ≠ X.length + 1 + Y.length := fun z => hn (Option.some.inj (g1.symm.trans ((hpos _).mpr (.inr z))))
  have hbef : (ix S.feet x < p) ↔ ix (sl_left S p) x < p := by
    have := ix_ins hxm hpl
    rwa [← e2] at this
  have hspl : sl_spot S p plus y ≤ (sl_left S p).length := by
    have hpl2 := (hpos _).mp hat
    unfold sl_spot
    rcases hpl2 with z | z
    · rw [z, f1]
      cases plus
      · rw [if_neg (by decide)]; omega
      · rw [if_pos rfl]; omega
    · rw [z, f2]
      cases plus
      · rw [if_neg (by decide)]; omega
      · rw [if_pos rfl]; omega
  have hbeh : (ix (sl_feet S p plus x y) x < sl_spot S p plus y) ↔ ix (sl_left S p) x < sl_spot S p plus y := ix_ins hxm hspl
  -- y's first place in the word
  have hyix : ix S.feet y = if X.length < p then X.length else X.length + 1 := by
    rw [e2]
    unfold ins
    by_cases c : X.length < p
    · rw [if_pos c]
      have : (sl_left S p).take p = X ++ y :: (Y ++ y :: Z).take (p - X.length - 1) := by
        rw [eL, List.take_append, List.take_of_length_le (by omega)]
        congr 1
        obtain ⟨j, hj⟩ : ∃ j, p - X.length = j + 1 := ⟨p - X.length - 1, by omega⟩
        rw [hj, List.take_succ_cons]; rfl
      rw [this, List.append_assoc]
      exact ix_cut hX
    · rw [if_neg c]
      have h2 : (sl_left S p).take p = X.take p := by rw [eL, List.take_append, show p - X.length = 0 by omega, List.take_zero, List.append_nil]
      have h3 : (sl_left S p).drop p = X.drop p ++ y :: (Y ++ y :: Z) := by rw [eL, List.drop_append, show p - X.length = 0 by omega, List.drop_zero]
      rw [h2, h3]
      have h4 : X.take p ++ x :: (X.drop p ++ y :: (Y ++ y :: Z)) = (X.take p ++ x :: X.drop p) ++ y :: (Y ++ y :: Z) := by simp
      rw [h4, ix_cut]
      · rw [List.length_append, List.length_cons, List.length_take, List.length_drop]; omega
      · intro z
        rcases List.mem_append.mp z with z | z
        · exact hX (List.mem_of_mem_take z)
        · rcases List.mem_cons.mp z with z | z
          · exact hn z.symm
          · exact hX (List.mem_of_mem_drop z)
  unfold sl_before sl_along sl_behind
  rw [sgn_if, sgn_if, sgn_if, hyix, hcr]
  simp only [hbef, hbeh]
  generalize ix (sl_left S p) x = o at no1 no2
  have hpl2 := (hpos _).mp hat
  have xb : ∀ b1 b2 b3 b4 : Bool, (xor (xor b1 b2) (xor b3 b4) = true) ↔ ((b1.toNat + b2.toNat + b3.toNat + b4.toNat) % 2 = 1) := by decide
  rw [xb]
  have tn : ∀ (q : Prop) [Decidable q], (decide q).toNat = if q then 1 else 0 := fun q _ => by
    by_cases h : q
    · rw [decide_eq_true h, if_pos h]; rfl
    · rw [decide_eq_false h, if_neg h]; rfl
  rw [tn, tn, tn, tn]
  cases plus with
  | true =>
    have ha : sl_at p true = p := rfl
    have hs : sgS true = 1 := rfl
    have hnb : nb p true = p + 1 := rfl
    rw [ha] at hpl2
    rw [hs, hnb]
    unfold sl_spot
    rw [if_pos rfl, ha]
    rcases hpl2 with z | z
    · rw [← z] at f1
      rw [f1, ← z]
      clear f1 f2 hcr hpos hLl hac hyix e2 e1 hspl hbeh hbef eL
      rw [← z] at no1 no2
      generalize p = a at *
      generalize Y.length = d at *
      rcases Nat.lt_trichotomy o a with l | l | l
      · rw [if_pos (show o < a by omega), if_neg (show ¬a < a by omega), if_pos rfl, if_pos (show o < a + 1 + d + 1 by omega), if_neg (show ¬a + 1 + d < a by omega), if_neg (show ¬a < o by omega), if_neg (show ¬a + 1 + d < o by omega)]; first | decide | (rw [if_neg (show ¬a < a by omega)]; decide) | (rw [if_pos (show a < _ by omega)]; decide)
      · omega
      · rcases Nat.lt_trichotomy o (a + 1 + d) with m | m | m
        · rw [if_neg (show ¬o < a by omega), if_neg (show ¬a < a by omega), if_pos rfl, if_pos (show o < a + 1 + d + 1 by omega), if_neg (show ¬a + 1 + d < a by omega), if_pos (show a < o by omega), if_neg (show ¬a + 1 + d < o by omega)]; first | decide | (rw [if_neg (show ¬a < a by omega)]; decide) | (rw [if_pos (show a < _ by omega)]; decide)
        · omega
        · rw [if_neg (show ¬o < a by omega), if_neg (show ¬a < a by omega), if_pos rfl, if_neg (show ¬o < a + 1 + d + 1 by omega), if_neg (show ¬a + 1 + d < a by omega), if_pos (show a < o by omega), if_pos (show a + 1 + d < o by omega)]; first | decide | (rw [if_neg (show ¬a < a by omega)]; decide) | (rw [if_pos (show a < _ by omega)]; decide)
    · rw [← z] at f2
      rw [f2]
      clear f1 f2 hcr hpos hLl hac hyix e2 e1 hspl hbeh hbef eL
      rw [z]
      generalize X.length = a at *
      generalize Y.length = d at *
      rcases Nat.lt_trichotomy o a with l | l | l
      · rw [if_pos (show o < a + 1 + d by omega), if_pos (show a < a + 1 + d by omega), if_neg (show ¬a = a + 1 + d + 1 by omega), if_pos (show o < a + 1 by omega), if_neg (show ¬a + 1 + d < a + 1 + d by omega), if_neg (show ¬a < o by omega), if_neg (show ¬a + 1 + d < o by omega)]; first | decide | (rw [if_neg (show ¬a < a by omega)]; decide) | (rw [if_pos (show a < _ by omega)]; decide)
      · omega
      · rcases Nat.lt_trichotomy o (a + 1 + d) with m | m | m
        · rw [if_pos (show o < a + 1 + d by omega), if_pos (show a < a + 1 + d by omega), if_neg (show ¬a = a + 1 + d + 1 by omega), if_neg (show ¬o < a + 1 by omega), if_neg (show ¬a + 1 + d < a + 1 + d by omega), if_pos (show a < o by omega), if_neg (show ¬a + 1 + d < o by omega)]; first | decide | (rw [if_neg (show ¬a < a by omega)]; decide) | (rw [if_pos (show a < _ by omega)]; decide)
        · omega
        · rw [if_neg (show ¬o < a + 1 + d by omega), if_pos (show a < a + 1 + d by omega), if_neg (show ¬a = a + 1 + d + 1 by omega), if_neg (show ¬o < a + 1 by omega), if_neg (show ¬a + 1 + d < a + 1 + d by omega), if_pos (show a < o by omega), if_pos (show a + 1 + d < o by omega)]; first | decide | (rw [if_neg (show ¬a < a by omega)]; decide) | (rw [if_pos (show a < _ by omega)]; decide)
  | false =>
    have h1 := h1 rfl
    have ha : sl_at p false = p - 1 := rfl
    have hs : sgS false = -1 := rfl
    have hnb : nb p false = p - 1 := rfl
    rw [ha] at hpl2
    rw [hs, hnb]
    unfold sl_spot
    simp only [Bool.false_eq_true, if_false]
    rw [ha]
    rcases hpl2 with z | z
    · have ep : p = X.length + 1 := by omega
      rw [z, f1]
      clear f1 f2 hcr hpos hLl hac hyix e2 e1 hspl hbeh hbef eL
      rw [ep]
      generalize X.length = a at *
      generalize Y.length = d at *
      rcases Nat.lt_trichotomy o a with l | l | l
      · rw [if_pos (show o < a + 1 by omega), if_pos (show a < a + 1 by omega), if_pos rfl, if_pos (show o < a + 1 + d by omega), if_neg (show ¬a + 1 + d < a + 1 by omega), if_neg (show ¬a < o by omega), if_neg (show ¬a + 1 + d < o by omega)]; first | decide | (rw [if_neg (show ¬a < a by omega)]; decide) | (rw [if_pos (show a < _ by omega)]; decide)
      · omega
      · rcases Nat.lt_trichotomy o (a + 1 + d) with m | m | m
        · rw [if_neg (show ¬o < a + 1 by omega), if_pos (show a < a + 1 by omega), if_pos rfl, if_pos (show o < a + 1 + d by omega), if_neg (show ¬a + 1 + d < a + 1 by omega), if_pos (show a < o by omega), if_neg (show ¬a + 1 + d < o by omega)]; first | decide | (rw [if_neg (show ¬a < a by omega)]; decide) | (rw [if_pos (show a < _ by omega)]; decide)
        · omega
        · rw [if_neg (show ¬o < a + 1 by omega), if_pos (show a < a + 1 by omega), if_pos rfl, if_neg (show ¬o < a + 1 + d by omega), if_neg (show ¬a + 1 + d < a + 1 by omega), if_pos (show a < o by omega), if_pos (show a + 1 + d < o by omega)]; first | decide | (rw [if_neg (show ¬a < a by omega)]; decide) | (rw [if_pos (show a < _ by omega)]; decide)
    · have ep : p = X.length + 1 + Y.length + 1 := by omega
      rw [z, f2]
      clear f1 f2 hcr hpos hLl hac hyix e2 e1 hspl hbeh hbef eL
      rw [ep]
      generalize X.length = a at *
      generalize Y.length = d at *
      rcases Nat.lt_trichotomy o a with l | l | l
      · rw [if_pos (show o < a + 1 + d + 1 by omega), if_pos (show a < a + 1 + d + 1 by omega), if_neg (show ¬a = a + 1 + d by omega), if_pos (show o < a by omega), if_pos (show a + 1 + d < a + 1 + d + 1 by omega), if_neg (show ¬a < o by omega), if_neg (show ¬a + 1 + d < o by omega)]; first | decide | (rw [if_neg (show ¬a < a by omega)]; decide) | (rw [if_pos (show a < _ by omega)]; decide)
      · omega
      · rcases Nat.lt_trichotomy o (a + 1 + d) with m | m | m
        · rw [if_pos (show o < a + 1 + d + 1 by omega), if_pos (show a < a + 1 + d + 1 by omega), if_neg (show ¬a = a + 1 + d by omega), if_neg (show ¬o < a by omega), if_pos (show a + 1 + d < a + 1 + d + 1 by omega), if_pos (show a < o by omega), if_neg (show ¬a + 1 + d < o by omega)]; first | decide | (rw [if_neg (show ¬a < a by omega)]; decide) | (rw [if_pos (show a < _ by omega)]; decide)
        · omega
        · rw [if_neg (show ¬o < a + 1 + d + 1 by omega), if_pos (show a < a + 1 + d + 1 by omega), if_neg (show ¬a = a + 1 + d by omega), if_neg (show ¬o < a by omega), if_pos (show a + 1 + d < a + 1 + d + 1 by omega), if_pos (show a < o by omega), if_pos (show a + 1 + d < o by omega)]; first | decide | (rw [if_neg (show ¬a < a by omega)]; decide) | (rw [if_pos (show a < _ by omega)]; decide)
def oddN (e : Nat) (N : List (Str × Int)) (b : Str) : Bool := decide (((aGet N b).getD 0 / (e : Int)) % 2 = 1)
/-- what makes a balance -/
structure Bal (S : Own) (e : Nat) : Prop where
  pos : 0 < e
  arm : (e : Int) ∣ (S.arm : Int)
  mod : (e : Int) ∣ (S.mod : Int)
  num : ∀ p ∈ S.nums, (e : Int) ∣ p.2
  odd : ((S.arm : Int) / (e : Int)) % 2 = 1
  even : ((S.mod : Int) / (e : Int)) % 2 = 0
theorem red_par {e mod : Nat} (he : 0 < e) (hm : (e : Int) ∣ (mod : Int)) (hv : ((mod : Int) / (e : Int)) % 2 = 0) {n : Int} (hn : (e : Int) ∣ n) : (redN mod n / (e : Int)) % 2 = (n / (e : Int)) % 2 := by
  unfold redN
  split
  · rfl
  · obtain ⟨m, hm⟩ := hm
    obtain ⟨a, rfl⟩ := hn
    have e0 : (e : Int) ≠ 0 := by omega
    rw [hm, Int.mul_ediv_cancel_left _ e0] at hv
    have h1 := Int.emod_add_mul_ediv ((e : Int) * a) (mod : Int)
    obtain ⟨q, hq⟩ : ∃ q, q = ((e : Int) * a) / (mod : Int) := ⟨_, rfl⟩
    rw [← hq] at h1
    have h2 : (e : Int) * a % (mod : Int) = (e : Int) * (a - m * q) := by
      rw [Int.mul_sub, ← Int.mul_assoc, ← hm]; omega
    rw [h2, Int.mul_ediv_cancel_left _ e0, Int.mul_ediv_cancel_left _ e0]
    obtain ⟨m', hm'⟩ : ∃ m', m = 2 * m' := ⟨m / 2, by omega⟩
    rw [hm', Int.mul_assoc]
    omega
theorem par_xor {a b c : Int} {t : Bool} (h : (a % 2 = 1) ↔ (xor (xor (decide (b % 2 = 1)) (decide (c % 2 = 1))) t = true)) : decide (a % 2 = 1) = xor (xor (decide (b % 2 = 1)) (decide (c % 2 = 1))) t := by
  by_cases k : a % 2 = 1
  · rw [decide_eq_true k, h.mp k]
  · rw [decide_eq_false k]
    cases e : xor (xor (decide (b % 2 = 1)) (decide (c % 2 = 1))) t with
    | false => rfl
    | true => exact (k (h.mpr e)).elim
theorem slide_num {S : Own} {e : Nat} (hB : Bal S e) {p : Nat} {plus : Bool} {x y : Str} {nx ny : Int} (hw : IsWord S.feet) (hx : S.feet[p]? = some x) (hy : S.feet[nb p plus]? = some y) (h1 : plus = false → 1 ≤ p) (hn : x ≠ y) (gx : aGet S.nums x = some nx) (gy : aGet S.nums y = some ny) (b : Str) :
    oddN e (slideS S p plus x y nx ny).nums b = xor (oddN e S.nums b) (decide (b = x) && xor (oddN e S.nums y) (Rk.cr S.feet x y)) := by
  show oddN e (aPut S.nums x _) b = _
  by_cases eb : b = x
  · subst eb
    rw [decide_eq_true rfl]
    unfold oddN
    rw [aGet_put, if_pos rfl, gx, gy]
    show decide ((redN S.mod (-(sl_behind S p plus b y) * sl_worth S p plus b y nx ny) / (e : Int)) % 2 = 1) = xor (decide ((nx / (e : Int)) % 2 = 1)) (true && xor (decide ((ny / (e : Int)) % 2 = 1)) (Rk.cr S.feet b y))
    rw [Bool.true_and, ← Bool.xor_assoc]
    obtain ⟨a, ha⟩ := hB.num _ (aGet_mem gx)
    obtain ⟨c, hc⟩ := hB.num _ (aGet_mem gy)
    obtain ⟨m, hm⟩ := hB.arm
    have ha : nx = (e : Int) * a := ha
    have hc : ny = (e : Int) * c := hc
    have e0 : (e : Int) ≠ 0 := by have := hB.pos; omega
    have hodd := hB.odd
    rw [hm, Int.mul_ediv_cancel_left _ e0] at hodd
    have hh := slide_half hw hx hy h1 hn
    unfold sl_worth
    rw [hm, ha, hc]
    generalize (sl_before S p b + sgS plus + sl_along S p plus y - sl_behind S p plus b y) / 2 = t at hh
    have h3 : sl_before S p b = 1 ∨ sl_before S p b = -1 := sgnB_or _
    have h4 : sl_along S p plus y = 1 ∨ sl_along S p plus y = -1 := sgnB_or _
    have h5 : sl_behind S p plus b y = 1 ∨ sl_behind S p plus b y = -1 := sgnB_or _
    have hw2 : ∃ u : Int, -(sl_behind S p plus b y) * (-(sl_before S p b) * ((e : Int) * a) - sl_along S p plus y * ((e : Int) * c) + (e : Int) * m * t) = (e : Int) * u ∧ (u - a - c - m * t) % 2 = 0 := by
      refine ⟨-(sl_behind S p plus b y) * (-(sl_before S p b) * a - sl_along S p plus y * c + m * t), ?_, ?_⟩
      · have : -(sl_before S p b) * ((e : Int) * a) - sl_along S p plus y * ((e : Int) * c) + (e : Int) * m * t = (e : Int) * (-(sl_before S p b) * a - sl_along S p plus y * c + m * t) := by
          rw [Int.mul_add, Int.mul_sub, Int.mul_left_comm _ (e : Int) a, Int.mul_left_comm _ (e : Int) c, Int.mul_assoc]
        rw [this, Int.mul_left_comm]
      · generalize m * t = mt
        rcases h3 with h3 | h3 <;> rcases h4 with h4 | h4 <;> rcases h5 with h5 | h5 <;> rw [h3, h4, h5] <;> omega
    obtain ⟨u, hu1, hu2⟩ := hw2
    rw [hu1, red_par hB.pos hB.mod hB.even (Int.dvd_mul_right ..), Int.mul_ediv_cancel_left _ e0, Int.mul_ediv_cancel_left _ e0, Int.mul_ediv_cancel_left _ e0]
    refine par_xor ?_
    have hmt : (m * t) % 2 = t % 2 := by
      rw [Int.mul_emod, hodd, Int.one_mul, Int.emod_emod]
    have hcr : (t % 2 = 1) ↔ Rk.cr S.feet b y = true := hh
    have hu3 : u % 2 = (a + c + t) % 2 := by omega
    rw [hu3]
    by_cases q1 : a % 2 = 1 <;> by_cases q2 : c % 2 = 1 <;> by_cases q3 : t % 2 = 1
    all_goals first | (rw [decide_eq_true q1]) | (rw [decide_eq_false q1])
    all_goals first | (rw [decide_eq_true q2]) | (rw [decide_eq_false q2])
    all_goals first | (rw [hcr.mp q3]) | (rw [Bool.eq_false_iff.mpr fun z => q3 (hcr.mpr z)])
    all_goals first
      | exact ⟨fun _ => rfl, fun _ => by omega⟩
      | exact ⟨fun z => by omega, fun z => by cases z⟩
  · rw [decide_eq_false eb]
    unfold oddN
    rw [aGet_put, if_neg eb]
    cases decide (((aGet S.nums b).getD 0 / (e : Int)) % 2 = 1) <;> rfl
theorem turn_num {S : Own} {e : Nat} (hB : Bal S e) {n : Str} {z : Int} (g : aGet S.nums n = some z) (fs : List Str) (b : Str) : oddN e (turnS S n z fs).nums b = oddN e S.nums b := by
  show oddN e (aPut S.nums n (redN S.mod (2 * (S.arm : Int) - z))) b = _
  unfold oddN
  rw [aGet_put]
  by_cases eb : b = n
  · rw [if_pos eb, eb, g]
    obtain ⟨a, ha⟩ := hB.num _ (aGet_mem g)
    obtain ⟨m, hm⟩ := hB.arm
    have ha : z = (e : Int) * a := ha
    have e0 : (e : Int) ≠ 0 := by have := hB.pos; omega
    have h1 : 2 * (S.arm : Int) - z = (e : Int) * (2 * m - a) := by rw [hm, ha, Int.mul_sub, Int.mul_left_comm]
    show decide ((redN S.mod (2 * (S.arm : Int) - z) / (e : Int)) % 2 = 1) = decide ((z / (e : Int)) % 2 = 1)
    rw [h1, red_par hB.pos hB.mod hB.even (Int.dvd_mul_right ..), Int.mul_ediv_cancel_left _ e0, ha, Int.mul_ediv_cancel_left _ e0]
    exact decide_eq_decide.mpr (by omega)
  · rw [if_neg eb]
/-- the sum of a lot's signs over all lots -/
def LotS (w : List Str) (c : Str → Bool) : Int := Rk.gs (Rk.cr w) (bandsOf w) c
/-- one lot's sum -/
def LotQ (w : List Str) (c v : Str → Bool) : Bool := Rk.qq (Rk.cr w) (bandsOf w) c v
theorem slide_lot {S : Own} {e : Nat} (hB : Bal S e) {p : Nat} {plus : Bool} {x y : Str} {nx ny : Int} (hw : IsWord S.feet) (hx : S.feet[p]? = some x) (hy : S.feet[nb p plus]? = some y) (h1 : plus = false → 1 ≤ p) (hn : x ≠ y) (gx : aGet S.nums x = some nx) (gy : aGet S.nums y = some ny) (v : Str → Bool) :
    LotQ (sl_feet S p plus x y) (oddN e (slideS S p plus x y nx ny).nums) v = LotQ S.feet (oddN e S.nums) (Rk.shr x y v) := by
  have pm : S.feet.Perm (sl_feet S p plus x y) := sl_perm hx
  have w1 := wd_of hw
  have w2 := Wd_perm w1 pm
  obtain ⟨P, M, R, e1, e2⟩ := slide_form hw hx hy h1 hn
  unfold LotQ
  rw [← Rk.qq_perm (bands_perm pm) (fun a _ b _ => w2.sym a b)]
  exact Rk.qq_slide (nodup_bandsOf _) ((mem_bandsOf _ _).mpr (List.mem_of_getElem? hx)) ((mem_bandsOf _ _).mpr (List.mem_of_getElem? hy)) hn (fun a _ b _ => w1.sym a b) (fun a _ => w1.diag a) (fun b _ z _ => Rk.cr_move w1 w2 hn e1 e2 b z)
    (fun b _ => slide_num hB hw hx hy h1 hn gx gy b) v
theorem turn_lot {S : Own} {e : Nat} (hB : Bal S e) {n : Str} {z : Int} {r : List Str} (hw : IsWord S.feet) (er : S.feet = n :: r) (g : aGet S.nums n = some z) (v : Str → Bool) : LotQ (r ++ [n]) (oddN e (turnS S n z (r ++ [n])).nums) v = LotQ S.feet (oddN e S.nums) v := by
  have pm : S.feet.Perm (r ++ [n]) := by rw [er]; exact (List.perm_append_singleton n r).symm
  have w1 := wd_of hw
  have w2 := Wd_perm w1 pm
  unfold LotQ
  rw [← Rk.qq_perm (bands_perm pm) (fun a _ b _ => w2.sym a b)]
  have w1' : Rk.Wd (n :: r) (bandsOf S.feet) := er ▸ w1
  exact Rk.qq_congr (fun b _ y _ => (Rk.cr_turn w1' w2 b y).trans (by rw [er])) (fun b _ => turn_num hB g _ b) fun _ _ => rfl
theorem unturn_lot {S : Own} {e : Nat} (hB : Bal S e) {n : Str} {z : Int} {r : List Str} (hw : IsWord S.feet) (er : S.feet = r ++ [n]) (g : aGet S.nums n = some z) (v : Str → Bool) : LotQ (n :: r) (oddN e (turnS S n z (n :: r)).nums) v = LotQ S.feet (oddN e S.nums) v := by
  have pm : S.feet.Perm (n :: r) := by rw [er]; exact List.perm_append_singleton n r
  have w1 := wd_of hw
  have w2 := Wd_perm w1 pm
  unfold LotQ
  rw [← Rk.qq_perm (bands_perm pm) (fun a _ b _ => w2.sym a b)]
  have w1' : Rk.Wd (r ++ [n]) (bandsOf S.feet) := er ▸ w1
  exact Rk.qq_congr (fun b _ y _ => (Rk.cr_turn w2 w1' b y).symm.trans (by rw [er])) (fun b _ => turn_num hB g _ b) fun _ _ => rfl
theorem Step.bal {S S' : Own} {e : Nat} (h : Step S S') (k : S.Ok) (hB : Bal S e) : Bal S' e := by
  obtain ⟨e1, e2⟩ := h.same
  refine ⟨hB.pos, by rw [e1]; exact hB.arm, by rw [e2]; exact hB.mod, (h.dv k hB.arm hB.mod).mpr hB.num, by rw [e1]; exact hB.odd, by rw [e2]; exact hB.even⟩
theorem Step.lots {S S' : Own} {e : Nat} (h : Step S S') (hw : IsWord S.feet) (hB : Bal S e) : LotS S'.feet (oddN e S'.nums) = LotS S.feet (oddN e S.nums) := by
  have pm := h.perm
  have w1 := wd_of hw
  have w2 := Wd_perm w1 pm
  unfold LotS
  rw [← Rk.gs_perm (bands_perm pm) (fun a _ b _ => w2.sym a b)]
  cases h with
  | slide h =>
    obtain ⟨q, plus, x, y, nx, ny, hx, hy, h1, hn, gx, gy, rfl⟩ := h.ex
    obtain ⟨P, M, R, e1, e2⟩ := slide_form hw hx hy h1 hn
    exact Rk.gs_slide (nodup_bandsOf _) ((mem_bandsOf _ _).mpr (List.mem_of_getElem? hx)) ((mem_bandsOf _ _).mpr (List.mem_of_getElem? hy)) hn (fun a _ b _ => w1.sym a b) (fun a _ => w1.diag a) (fun b _ z _ => Rk.cr_move w1 w2 hn e1 e2 b z)
      fun b _ => slide_num hB hw hx hy h1 hn gx gy b
  | turn n z r er g h =>
    subst h
    have w1' : Rk.Wd (n :: r) (bandsOf S.feet) := er ▸ w1
    exact Rk.gs_congr (fun b _ y _ => (Rk.cr_turn w1' w2 b y).trans (by rw [er])) fun b _ => turn_num hB g _ b
  | unturn n z r er g h =>
    subst h
    have w1' : Rk.Wd (r ++ [n]) (bandsOf S.feet) := er ▸ w1
    exact Rk.gs_congr (fun b _ y _ => (Rk.cr_turn w2 w1' b y).symm.trans (by rw [er])) fun b _ => turn_num hB g _ b
/-! ### pairing off, by lists -/
def Am (ms : List Nat) (i j : Nat) : Bool := (ms.getD i 0).testBit j
def Cm (cs : List Bool) (i : Nat) : Bool := cs.getD i false
def Act (ts : List Bool) : List Nat := (List.range ts.length).filter fun k => !(ts.getD k true)
def sgnI (g : Int) : Int := if 0 < g then 1 else if g < 0 then -1 else 0
theorem act_mem {ts : List Bool} {k : Nat} : k ∈ Act ts ↔ ts[k]? = some false := by
  unfold Act
  rw [List.mem_filter, List.mem_range, List.getD_eq_getElem?_getD]
  constructor
  · rintro ⟨h1, h2⟩
    rw [List.getElem?_eq_getElem h1] at h2 ⊢
    cases e : ts[k] with
    | false => rfl
    | true => rw [e] at h2; cases h2
  · intro h
    exact ⟨(List.getElem?_eq_some_iff.mp h).1, by rw [h]; rfl⟩
theorem act_nd (ts : List Bool) : (Act ts).Nodup := List.nodup_range.filter _
theorem act_set_mem {ts : List Bool} {i k : Nat} : k ∈ Act (ts.set i true) ↔ k ∈ Act ts ∧ k ≠ i := by
  rw [act_mem, act_mem, List.getElem?_set]
  by_cases e : i = k
  · rw [if_pos e]
    constructor
    · intro h
      split at h <;> cases h
    · rintro ⟨_, h⟩
      exact (h e.symm).elim
  · rw [if_neg e]
    exact ⟨fun h => ⟨h, fun z => e z.symm⟩, fun h => h.1⟩
theorem act_set {ts : List Bool} {i : Nat} (h : i ∈ Act ts) : (Act ts).Perm (i :: Act (ts.set i true)) := by
  refine (List.perm_ext_iff_of_nodup (act_nd ts) (List.nodup_cons.mpr ⟨fun z => (act_set_mem.mp z).2 rfl, act_nd _⟩)).mpr fun a => ?_
  rw [List.mem_cons, act_set_mem]
  constructor
  · intro z
    by_cases e : a = i
    · exact .inl e
    · exact .inr ⟨z, e⟩
  · rintro (e | z)
    · rw [e]; exact h
    · exact z.1
structure Off (G : Int) (ms : List Nat) (cs ts : List Bool) (s : Int) : Prop where
  lm : ms.length = ts.length
  lc : cs.length = ts.length
  sym : ∀ j ∈ Act ts, ∀ k ∈ Act ts, Am ms j k = Am ms k j
  irr : ∀ j ∈ Act ts, Am ms j j = false
  sn : s = 1 ∨ s = -1
  ex : ∃ c : Int, 0 < c ∧ G = s * c * Rk.gs (Am ms) (Act ts) (Cm cs)
theorem Off.done {G : Int} {ms : List Nat} {cs ts : List Bool} {s : Int} (h : Off G ms cs ts s) (e : ∀ k ∈ Act ts, False) : sgnI G = s := by
  obtain ⟨c, hc, hG⟩ := h.ex
  have : Act ts = [] := List.eq_nil_iff_forall_not_mem.mpr e
  rw [this] at hG
  have e1 : Rk.gs (Am ms) [] (Cm cs) = 1 := rfl
  rw [e1, Int.mul_one] at hG
  unfold sgnI
  rcases h.sn with z | z
  · rw [z, Int.one_mul] at hG
    rw [if_pos (by omega), z]
  · rw [z] at hG
    have : G = -c := by rw [hG]; omega
    rw [if_neg (by omega), if_pos (by omega), z]
theorem Off.zero {G : Int} {ms : List Nat} {cs ts : List Bool} {s : Int} (h : Off G ms cs ts s) {i : Nat} (hi : i ∈ Act ts) (hn : ∀ j ∈ Act (ts.set i true), Am ms i j = false) (hc : Cm cs i = true) : sgnI G = 0 := by
  obtain ⟨c, _, hG⟩ := h.ex
  rw [Rk.gs_perm (act_set hi) h.sym, Rk.gs_rad (fun z => (act_set_mem.mp z).2 rfl) hn, hc] at hG
  have : (1 + Rk.sg true) = 0 := rfl
  rw [this, Int.zero_mul, Int.mul_zero] at hG
  rw [hG]; rfl
theorem Off.skip {G : Int} {ms : List Nat} {cs ts : List Bool} {s : Int} (h : Off G ms cs ts s) {i : Nat} (hi : i ∈ Act ts) (hn : ∀ j ∈ Act (ts.set i true), Am ms i j = false) (hc : Cm cs i = false) : Off G ms cs (ts.set i true) s := by
  refine ⟨by rw [List.length_set]; exact h.lm, by rw [List.length_set]; exact h.lc, fun j hj k hk => h.sym j (act_set_mem.mp hj).1 k (act_set_mem.mp hk).1, fun j hj => h.irr j (act_set_mem.mp hj).1, h.sn, ?_⟩
  obtain ⟨c, hc0, hG⟩ := h.ex
  rw [Rk.gs_perm (act_set hi) h.sym, Rk.gs_rad (fun z => (act_set_mem.mp z).2 rfl) hn, hc] at hG
  refine ⟨c * 2, by omega, ?_⟩
  have : (1 + Rk.sg false) = 2 := rfl
  rw [hG, this, ← Int.mul_assoc, ← Int.mul_assoc]
structure Unc (ms : List Nat) (cs : List Bool) (ts : List Bool) (i p : Nat) (ms' : List Nat) (cs' : List Bool) : Prop where
  lm : ms'.length = ms.length
  lc : cs'.length = cs.length
  row : ∀ k ∈ Act ts, ms'.getD k 0 = ((ms.getD k 0 ^^^ (if Am ms k p = true then ms.getD i 0 else 0)) ^^^ (if Am ms k i = true then ms.getD p 0 else 0))
  odd : ∀ k ∈ Act ts, Cm cs' k = xor (Cm cs k) (xor (xor (Am ms k p && Cm cs i) (Am ms k i && Cm cs p)) (Am ms k i && Am ms k p))
theorem Unc.am {ms : List Nat} {cs ts : List Bool} {i p : Nat} {ms' : List Nat} {cs' : List Bool} (h : Unc ms cs ts i p ms' cs') {k : Nat} (hk : k ∈ Act ts) (j : Nat) : Am ms' k j = xor (Am ms k j) (xor (Am ms k p && Am ms i j) (Am ms k i && Am ms p j)) := by
  show (ms'.getD k 0).testBit j = _
  rw [h.row k hk, Nat.testBit_xor, Nat.testBit_xor]
  have e : ∀ (b : Bool) (m : Nat), (if b = true then m else 0).testBit j = (b && m.testBit j) := fun b m => by
    cases b
    · rw [if_neg (by decide), Nat.zero_testBit]; rfl
    · rw [if_pos rfl]; rfl
  rw [e, e]
  show xor (xor (Am ms k j) (Am ms k p && Am ms i j)) (Am ms k i && Am ms p j) = _
  cases Am ms k j <;> cases Am ms k p <;> cases Am ms i j <;> cases Am ms k i <;> cases Am ms p j <;> rfl
theorem Off.pair {G : Int} {ms ms' : List Nat} {cs cs' ts : List Bool} {s : Int} (h : Off G ms cs ts s) {i p : Nat} (hi : i ∈ Act ts) (hp : p ∈ Act (ts.set i true)) (hip : Am ms i p = true) (hu : Unc ms cs ((ts.set i true).set p true) i p ms' cs') : Off G ms' cs' ((ts.set i true).set p true) (if (Cm cs i && Cm cs p) = true then -s else s) := by
  have a1 : ∀ k ∈ Act ((ts.set i true).set p true), k ∈ Act ts := fun k hk => (act_set_mem.mp (act_set_mem.mp hk).1).1
  have hpt : p ∈ Act ts := (act_set_mem.mp hp).1
  have hpi : p ≠ i := (act_set_mem.mp hp).2
  refine ⟨by rw [hu.lm, h.lm]; simp, by rw [hu.lc, h.lc]; simp, fun j hj k hk => ?_, fun j hj => ?_, ?_, ?_⟩
  · rw [hu.am hj, hu.am hk, h.sym k (a1 k hk) j (a1 j hj), h.sym j (a1 j hj) p hpt, h.sym j (a1 j hj) i hi, h.sym k (a1 k hk) p hpt, h.sym k (a1 k hk) i hi]
    cases Am ms j k <;> cases Am ms p j <;> cases Am ms i k <;> cases Am ms i j <;> cases Am ms p k <;> rfl
  · rw [hu.am hj, h.irr j (a1 j hj), h.sym j (a1 j hj) p hpt, h.sym j (a1 j hj) i hi]
    cases Am ms p j <;> cases Am ms i j <;> rfl
  · rcases h.sn with z | z <;> rw [z] <;> split <;> simp
  · obtain ⟨c, hc, hG⟩ := h.ex
    refine ⟨c * 2, by omega, ?_⟩
    have hni : i ∉ Act ((ts.set i true).set p true) := fun z => (act_set_mem.mp (act_set_mem.mp z).1).2 rfl
    have hnp : p ∉ Act ((ts.set i true).set p true) := fun z => (act_set_mem.mp z).2 rfl
    have pm : (Act ts).Perm (i :: p :: Act ((ts.set i true).set p true)) := (act_set hi).trans (List.Perm.cons i (act_set hp))
    rw [Rk.gs_perm pm h.sym, Rk.gs_pair hni hnp (Ne.symm hpi) hip] at hG
    have e : Rk.gs (fun j k => xor (Am ms j k) (xor (Am ms p j && Am ms i k) (Am ms i j && Am ms p k))) (Act ((ts.set i true).set p true)) (fun j => xor (Cm cs j) (xor (xor (Am ms p j && Cm cs i) (Am ms i j && Cm cs p)) (Am ms i j && Am ms p j))) = Rk.gs (Am ms') (Act ((ts.set i true).set p true)) (Cm cs') := by
      refine Rk.gs_congr (fun j hj k _ => ?_) fun j hj => ?_
      · rw [hu.am hj, h.sym j (a1 j hj) p hpt, h.sym j (a1 j hj) i hi]
      · rw [hu.odd j hj, h.sym j (a1 j hj) p hpt, h.sym j (a1 j hj) i hi]
    rw [e] at hG
    rw [hG]
    generalize Rk.gs (Am ms') (Act ((ts.set i true).set p true)) (Cm cs') = g
    by_cases b : (Cm cs i && Cm cs p) = true
    · rw [if_pos b, if_pos b, ← Int.mul_assoc, ← Int.mul_assoc, Int.neg_mul, Int.neg_mul, Int.mul_neg, Int.neg_mul]
    · rw [if_neg b, if_neg b, ← Int.mul_assoc, ← Int.mul_assoc]
theorem getD_at {α : Type} {l : List α} {k : Nat} {d : α} (h : k < l.length) : l[k]? = some (l.getD k d) := by
  rw [List.getD_eq_getElem?_getD, List.getElem?_eq_getElem h]; rfl
theorem getD_set {α : Type} {l : List α} {k j : Nat} {d v : α} (h : k < l.length) : (l.set k v).getD j d = if j = k then v else l.getD j d := by
  rw [List.getD_eq_getElem?_getD, List.getElem?_set]
  by_cases e : k = j
  · rw [if_pos e, if_pos h, if_pos e.symm]; rfl
  · rw [if_neg e, if_neg fun z => e z.symm, ← List.getD_eq_getElem?_getD]
theorem x_iteBN {b : Bool} {A B : Prop} (h1 : b = true → A) (h2 : b = false → B) : if (((b.toNat : Nat) : Int) != 0) = true then A else B := by
  cases b
  · exact iteF (h2 rfl)
  · exact iteT (h1 rfl)
theorem pi_listK {X : Cx} {K : PySem.W.Frag} {tg : Expr} {l : Expr} {tl : TE} (hK : X.K = K) (hl : PE X l tl) : PI X tg l (iList K tl) := by
  subst hK
  exact pi_list hl
def retE : Stmt → Expr
  | .Return (some e) _ => e
  | _ => .Constant .none 0 ⟨0, 0, 0, 0⟩
def lcSc : Expr → Scope → Scope
  | .ListComp _ _ sc _, _ => sc
  | _, sc => sc
def lcRel (e : Expr) (sc : Scope) : Scope := relabel (lcSc e sc) (envOfC "" sc 0 0 .none)
def bV (b : Bool) : V := .int ((b.toNat : Nat) : Int)
theorem bV_at {bs : List Bool} {i : Nat} {y : V} (h : (bs.map bV)[i]? = some y) : ∃ b, y = bV b ∧ bs[i]? = some b := by
  rw [List.getElem?_map] at h
  cases e : bs[i]? with
  | none => rw [e] at h; cases h
  | some z => rw [e] at h; exact ⟨z, (Option.some.inj h).symm, rfl⟩
def spMaskOf (K : PySem.W.Frag) : Sp := fun vs H Q _ => ∃ (p : Addr) (bs : List Bool), vs = [.ref p] ∧ SqL K H p (bs.map bV) ∧ ∀ H', Same H H' → Q (.int (Rk.mk bs.reverse : Nat)) H'
theorem ok_maskof (B : Bi K mg) (F : FnP K "mask_of" st_mask_of f fd) : FnOk P w K mg base CX0 1 f fd ["items"] (spMaskOf K) := by
  refine F.ok sc_mask_of (fun vs H Q E h => ?_) (fun cdv A outer s H vs Q E hr h => ?_)
  · obtain ⟨p, bs, rfl, _⟩ := h
    rfl
  · obtain ⟨p, bs, rfl, hp, k⟩ := h
    have G := B
    refine ⟨_, PSs.nox ((pss_cons (ps_set (i := 1) sc_mask_of.nd rfl (Or.inl rfl) pe_int)
      (pss_cons (ps_for PassesOwn.never rfl (pi_list (pe_revL (pv 0))) (pg_name (i := 2) sc_mask_of.nd rfl (Or.inl rfl))
        (pss_one (ps_set (i := 1) sc_mask_of.nd rfl (Or.inl rfl) (pe_op op_add (pe_op op_mul pe_int (pv 1)) (pv 2)))))
      (pss_one (ps_ret (pv 1)))))), ?_⟩
    try dsimp only [cxOf]
    walk_at "go"
    intro q hq
    rw [← List.map_reverse]
    refine w_forL (SqL.of upd_same) (fun i σ H' => Same (upd H q (.lst (bs.reverse.map bV))) H' ∧ ∃ u : Option V, σ = [some (.ref p), some (.int (Rk.mk (bs.reverse.take i) : Nat)), u]) ⟨Same.refl _, none, rfl⟩ (fun i σ H' _ ⟨s, _⟩ => SqL.of (s _ _ upd_same)) ?_ ?_
    · rintro i x σ H' hi ⟨s', u, rfl⟩
      obtain ⟨b, rfl, hb⟩ := bV_at hi
      walk_at "go"
      unfold bV
      walk_at "go"
      refine ⟨s', some (bV b), ?_⟩
      rw [take_snoc hb, Rk.mk_snoc, Int.natCast_add, Int.natCast_mul]
      rfl
    · rintro σ H' ⟨s', u, rfl⟩
      walk_at "go"
      rw [List.length_map, List.take_length]
      exact k _ (Same.trans (Same.new hq) s')
structure TblAt (K : PySem.W.Frag) (H : Hp) (t : Addr) (T : List (List Bool)) : Prop where
  ex : ∃ rs : List Addr, H t = some (.lst (rs.map V.ref)) ∧ rs.length = T.length ∧ ∀ (i : Nat) (r : Addr) (row : List Bool), rs[i]? = some r → T[i]? = some row → H r = some (.lst (row.map bV))
theorem TblAt.same {K : PySem.W.Frag} {H H' : Hp} {t : Addr} {T : List (List Bool)} (h : TblAt K H t T) (s : Same H H') : TblAt K H' t T := by
  obtain ⟨rs, h1, h2, h3⟩ := h.ex
  exact ⟨rs, s _ _ h1, h2, fun i r row e1 e2 => s _ _ (h3 i r row e1 e2)⟩
/-- the table of a word's crossings -/
def tabW (w : List Str) : List (List Bool) := (bandsOf w).map (Rk.rowB (Rk.cr w) (bandsOf w))
theorem ech_low {w : List Str} (h : IsWord w) {ks : List Nat} (e : Rk.Ech ks ((tabW w).map fun row => Rk.mk row.reverse)) : Rank w ks.length := by
  have wd := wd_of h
  have := e.cnt
  unfold tabW at this
  rw [List.map_map, List.length_map] at this
  unfold Rank KerW
  rw [Rk.kerN_low wd.nd fun a _ b _ => wd.sym a b]
  have e2 := congrArg (fun n : Nat => (n : Int)) this
  simp only [Int.natCast_mul, Int.natCast_pow] at e2
  exact e2
theorem ech_high {w : List Str} (h : IsWord w) {ks : List Nat} (e : Rk.Ech ks ((tabW w).map Rk.mk)) : Rank w ks.length := by
  have wd := wd_of h
  have := e.cnt
  unfold tabW at this
  rw [List.map_map, List.length_map] at this
  unfold Rank KerW
  rw [Rk.kerN_high wd.nd fun a _ b _ => wd.sym a b]
  have e2 := congrArg (fun n : Nat => (n : Int)) this
  simp only [Int.natCast_mul, Int.natCast_pow] at e2
  exact e2
theorem tabW_len (w : List Str) : (tabW w).length = (bandsOf w).length := List.length_map _
theorem pl_all {w : List Str} (h : IsWord w) {b : Str} (hb : b ∈ w) : ∃ i j, PlOf w b i j := by
  obtain ⟨X, Y, Z, e, hX, hY, hZ⟩ := Rk.cut_two (h.two b hb)
  obtain ⟨m1, m2⟩ := (mt_ok h).at_ X b Y Z e hX hY hZ
  have g1 : w[X.length]? = some b := by rw [e, List.getElem?_append_right (Nat.le_refl _), Nat.sub_self]; rfl
  exact ⟨_, _, mt_pl h g1 (by rw [m1]; omega)⟩
def spSpans (K : PySem.W.Frag) : Sp := fun vs H Q _ => ∃ (p q : Addr) (i j k l : Nat), vs = [.ref p, .ref q] ∧ SqT K H p [.int i, .int j] ∧ SqT K H q [.int k, .int l] ∧ Q (.bl (decide ((i < k ∧ k < j ∧ j < l) ∨ (k < i ∧ i < l ∧ l < j)))) H
theorem ok_spans (B : Bi K mg) (F : FnP K "_spans_cross" st_spans_cross f fd) : FnOk P w K mg base CX0 1 f fd ["span", "other"] (spSpans K) := by
  refine F.ok sc_spans_cross (fun vs H Q E h => ?_) (fun cdv A outer s H vs Q E hr h => ?_)
  · obtain ⟨p, q, i, j, k, l, rfl, _⟩ := h
    rfl
  · obtain ⟨p, q, i, j, kk, l, rfl, hp, hq, k⟩ := h
    have G := B
    refine ⟨_, PSs.nox ((pss_cons (ps_asg (pv 0) (pg_tup rfl (pgs_cons (pg_name (i := 2) sc_spans_cross.nd rfl (Or.inl rfl)) (pgs_cons (pg_name (i := 3) sc_spans_cross.nd rfl (Or.inl rfl)) pgs_nil))))
      (pss_cons (ps_asg (pv 1) (pg_tup rfl (pgs_cons (pg_name (i := 4) sc_spans_cross.nd rfl (Or.inl rfl)) (pgs_cons (pg_name (i := 5) sc_spans_cross.nd rfl (Or.inl rfl)) pgs_nil))))
      (pss_one (ps_ret (pe_or (pe_chain3 op_lt op_lt op_lt (pv 2) (pv 4) (pv 3) (pv 5)) (pe_one (pe_chain3 op_lt op_lt op_lt (pv 4) (pv 2) (pv 5) (pv 3))))))))), ?_⟩
    try dsimp only [cxOf]
    have fin : ∀ b : Bool, b = decide ((i < kk ∧ kk < j ∧ j < l) ∨ (kk < i ∧ i < l ∧ l < j)) → Q (.bl b) H := fun b e => e ▸ k
    walk_at "go"
    repeat' (refine x_iteD (fun _ => ?_) (fun _ => ?_) <;> walk_at "go")
    all_goals exact fin _ (by first | (symm; apply decide_eq_true; omega) | (symm; apply decide_eq_false; omega) | (apply decide_eq_decide.mpr; omega))
def spTable (K : PySem.W.Frag) : Sp := fun vs H Q _ => ∃ (a : Addr) (arm mod : Nat) (feet : List Str) (told : List (Str × Int)), vs = [.ref a] ∧ SheetAt K H a arm mod feet told ∧ IsWord feet ∧ feet.length ≤ 900 ∧ ∀ t H', H t = none → Same H H' → TblAt K H' t (tabW feet) → Q (.ref t) H'
theorem ok_table (B : Bi K mg) (m_Sheet_left : C8.Met P w K mg base 1 (He.ga K "Sheet") "left" (spSide K true) []) (m_Sheet_right : C8.Met P w K mg base 1 (He.ga K "Sheet") "right" (spSide K false) []) (c_spans_cross : C8.Cal P w K mg base 1 "_spans_cross" (spSpans K) []) (F : FnP K "crossing_table" st_crossing_table f fd) : FnOk P w K mg base CX0 2 f fd ["sheet"] (spTable K) := by
  refine F.ok sc_crossing_table (fun vs H Q E h => ?_) (fun cdv A outer s H vs Q E hr h => ?_)
  · obtain ⟨a, arm, mod, feet, told, rfl, _⟩ := h
    rfl
  · obtain ⟨a, arm, mod, feet, told, rfl, hS, hW, hl, k⟩ := h
    have G := B
    have cS := G.cls_Sheet
    have n4 := G.na_Sheet_bands
    obtain ⟨dx, bk, wd, ft, bs, td, h1, h2, h3, h4, h5, h6⟩ := hS.ex
    have hbl : (bandsOf feet).length ≤ 900 := Nat.le_trans (bandsOf_len _) hl
    refine ⟨_, PSs.nox ((pss_cons (ps_set (i := 1) sc_crossing_table.nd rfl (Or.inr rfl) (pe_lc (own := [("band", 2)]) rfl sc_crossing_table.nd (pi_tup (pe_fld (pv 0) (by rfl))) (blkOk_by (own := [("band", 2)]) (N := ["sheet", "spans", "band", "span", "other"]) (sc := defScope st_crossing_table) (by decide +kernel)) (fun _ _ _ _ _ => (pg_name (i := 2) sc_crossing_table.nd rfl (Or.inl rfl))) (fun _ _ _ _ _ => pts_nil) (fun _ _ _ _ _ => (pe_tup (pa_cons (C8.pe_mt m_Sheet_left hr (by decide) (pv 0) (pa_cons (pv 2) pa_nil)) (pa_cons (C8.pe_mt m_Sheet_right hr (by decide) (pv 0) (pa_cons (pv 2) pa_nil)) pa_nil))))))
      (pss_one (ps_ret (pe_lc (own := [("span", 3)]) rfl sc_crossing_table.nd (pi_list (pv 1)) (blkOk_by (own := [("span", 3)]) (N := ["sheet", "spans", "band", "span", "other"]) (sc := defScope st_crossing_table) (by decide +kernel)) (fun _ _ _ _ _ => (pg_name (i := 3) sc_crossing_table.nd rfl (Or.inr rfl))) (fun _ _ _ _ _ => pts_nil) (fun _ _ _ _ _ => (pe_lc (own := [("other", 4)]) rfl sc_crossing_table.nd (pi_listK (K := K) rfl (pv 1)) (blkOk_by (own := [("other", 4)]) (N := ["sheet", "spans", "band", "span", "other"]) (sc := lcRel (retE ((defBody st_crossing_table).getD 1 (.Pass ⟨0, 0, 0, 0⟩))) (defScope st_crossing_table)) (by decide +kernel)) (fun _ _ _ _ _ => (pg_name (i := 4) sc_crossing_table.nd rfl (Or.inl rfl))) (fun _ _ _ _ _ => pts_nil) (fun _ _ _ _ _ => (pe_callTy call_intB (by rfl) G.int (by decide +kernel) (pa_cons (C8.pe_c c_spans_cross hr (by decide) rfl (pa_cons (pv 3) (pa_cons (pv 4) pa_nil))) pa_nil)))))))))), ?_⟩
    try dsimp only [cxOf]
    walk_at "go"
    refine w_lcTH (xs := (bandsOf feet).map V.str) h5 (by rw [List.length_map]; exact Nat.lt_of_le_of_lt hbl (by decide)) (fun p i acc H' => ∃ rs : List Addr, acc = rs.map V.ref ∧ rs.length = i ∧ ∀ (j : Nat) (r : Addr) (b : Str), rs[j]? = some r → (bandsOf feet)[j]? = some b → r ≠ p ∧ ∃ i' j' : Nat, H' r = some (.tup [.int i', .int j']) ∧ PlOf feet b i' j')
      (fun p i acc H1 H2 kp ⟨rs, e1, e2, e3⟩ => ⟨rs, e1, e2, fun j r b q1 q2 => let ⟨n, i', j', g1, g2⟩ := e3 j r b q1 q2; ⟨n, i', j', kp _ _ n g1, g2⟩⟩) (fun p hp => ⟨[], rfl, rfl, fun j r b q1 => by cases q1⟩) ?_ ?_
    · rintro p i x H' acc hp hi s' hp' ⟨rs, rfl, hri, hrs⟩ hai R S2 hR hS2
      obtain ⟨b, rfl, hb⟩ := str_at hi
      obtain ⟨i', j', hpl⟩ := pl_all hW ((mem_bandsOf _ _).mp (List.mem_of_getElem? hb))
      walk_at "go"
      refine ⟨rfl, ?_⟩
      walk_at "go"
      refine ⟨a, arm, mod, feet, told, b, i', j', rfl, hS.same s', hpl, ?_⟩
      walk_at "go"
      refine ⟨a, arm, mod, feet, told, b, i', j', rfl, hS.same s', hpl, ?_⟩
      walk_at "go"
      refine ⟨by show 2 ≤ sizeLine; decide, fun r hr => ?_⟩
      have nrp : r ≠ p := Ne.symm (ne_of_none hp' hr)
      refine hR _ _ (Same.new hr) ⟨rs ++ [r], by rw [List.map_append]; rfl, by rw [List.length_append, hri]; rfl, fun j r' b' q1 q2 => ?_⟩
      rcases Nat.lt_trichotomy j rs.length with e | e | e
      · rw [List.getElem?_append_left e] at q1
        obtain ⟨n, i2, j2, g1, g2⟩ := hrs j r' b' q1 q2
        exact ⟨n, i2, j2, upd_old hr g1, g2⟩
      · rw [e, List.getElem?_append_right (Nat.le_refl _), Nat.sub_self] at q1
        have e1 : r = r' := Option.some.inj q1
        rw [e, hri, hb] at q2
        have e2 : b = b' := Option.some.inj q2
        subst e1 e2
        exact ⟨nrp, i', j', upd_same, hpl⟩
      · rw [List.getElem?_append_right (by omega)] at q1
        obtain ⟨m, hm⟩ : ∃ m, j - rs.length = m + 1 := ⟨j - rs.length - 1, by omega⟩
        rw [hm] at q1; cases q1
    · rintro sp H1 acc hsp s1 hsp1 ⟨rs, rfl, hrl, hrs⟩
      rw [List.length_map] at hrl
      walk_at "go"
      refine w_lcLH (xs := rs.map V.ref) (SqL.of hsp1) (by rw [List.length_map, hrl]; exact Nat.lt_of_le_of_lt hbl (by decide)) (fun p i acc H' => ∃ ts : List Addr, acc = ts.map V.ref ∧ ts.length = i ∧ ∀ (j : Nat) (t : Addr) (row : List Bool), ts[j]? = some t → (tabW feet)[j]? = some row → t ≠ p ∧ H' t = some (.lst (row.map bV)))
        (fun p i acc H1 H2 kp ⟨ts, e1, e2, e3⟩ => ⟨ts, e1, e2, fun j r b q1 q2 => let ⟨n, g1⟩ := e3 j r b q1 q2; ⟨n, kp _ _ n g1⟩⟩) (fun p hp => ⟨[], rfl, rfl, fun j r b q1 => by cases q1⟩) ?_ ?_
      · rintro p i x H' acc hp hi s' hp' ⟨ts, rfl, hti, hts⟩ hai R S2 hR hS2
        rw [List.getElem?_map] at hi
        obtain ⟨r, hr, rfl⟩ := Option.map_eq_some_iff.mp hi
        have hil : i < rs.length := (List.getElem?_eq_some_iff.mp hr).1
        have hb : (bandsOf feet)[i]? = some ((bandsOf feet)[i]'(by omega)) := List.getElem?_eq_getElem (by omega)
        generalize (bandsOf feet)[i]'(by omega) = b at hb
        obtain ⟨_, i', j', hT, hpl⟩ := hrs i r b hr hb
        have hT' := s' _ _ hT
        have hsp' := s' _ _ hsp1
        walk_at "go"
        refine ⟨rfl, ?_⟩
        walk_at "go"
        refine w_lcL (xs := rs.map V.ref) (SqL.of hsp') (by rw [List.length_map, hrl]; exact Nat.lt_of_le_of_lt hbl (by decide)) (fun m acc => acc = ((Rk.rowB (Rk.cr feet) (bandsOf feet) b).map bV).take m) rfl ?_ ?_
        · rintro m y H2 acc hy s2 rfl ham R2 S3 hR2 hS3
          rw [List.getElem?_map] at hy
          obtain ⟨r2, hr2, rfl⟩ := Option.map_eq_some_iff.mp hy
          have hml : m < rs.length := (List.getElem?_eq_some_iff.mp hr2).1
          have hz : (bandsOf feet)[m]? = some ((bandsOf feet)[m]'(by omega)) := List.getElem?_eq_getElem (by omega)
          generalize (bandsOf feet)[m]'(by omega) = z at hz
          obtain ⟨_, k2, l2, hT2, hpl2⟩ := hrs m r2 z hr2 hz
          walk_at "go"
          refine ⟨rfl, ?_⟩
          walk_at "go"
          refine ⟨r, r2, i', j', k2, l2, rfl, SqT.of (s2 _ _ hT'), SqT.of (s2 _ _ (s' _ _ hT2)), ?_⟩
          refine x_intB ?_
          refine hR2 _ _ (Same.refl _) ?_
          rw [← cross_dec hW hpl hpl2]
          have : ((Rk.rowB (Rk.cr feet) (bandsOf feet) b).map bV)[m]? = some (bV (Rk.cr feet b z)) := by
            unfold Rk.rowB
            rw [List.getElem?_map, List.getElem?_map, hz]; rfl
          rw [take_snoc this]
          congr 2
          cases Rk.cr feet b z <;> rfl
        · rintro q H3 acc hq s3 hq3 rfl
          rw [List.length_map, List.take_of_length_le (by rw [List.length_map]; unfold Rk.rowB; rw [List.length_map]; omega)] at hq3
          have nqp : q ≠ p := Ne.symm (ne_of_none hp' hq)
          refine hR _ _ s3 ⟨ts ++ [q], by rw [List.map_append]; rfl, by rw [List.length_append, hti]; rfl, fun j t row q1 q2 => ?_⟩
          rcases Nat.lt_trichotomy j ts.length with e | e | e
          · rw [List.getElem?_append_left e] at q1
            obtain ⟨n, g1⟩ := hts j t row q1 q2
            exact ⟨n, s3 _ _ g1⟩
          · rw [e, List.getElem?_append_right (Nat.le_refl _), Nat.sub_self] at q1
            have e1 : q = t := Option.some.inj q1
            have e2 : (tabW feet)[i]? = some (Rk.rowB (Rk.cr feet) (bandsOf feet) b) := by unfold tabW; rw [List.getElem?_map, hb]; rfl
            rw [e, hti, e2] at q2
            have e3 := Option.some.inj q2
            subst e1 e3
            exact ⟨nqp, hq3⟩
          · rw [List.getElem?_append_right (by omega)] at q1
            obtain ⟨m, hm⟩ : ∃ m, j - ts.length = m + 1 := ⟨j - ts.length - 1, by omega⟩
            rw [hm] at q1; cases q1
      · rintro t H3 acc ht s3 ht3 ⟨ts, rfl, htl, hts⟩
        refine k t H3 (Same.free s1 ht) (Same.trans s1 s3) ⟨ts, ht3, ?_, fun i r row q1 q2 => (hts i r row q1 q2).2⟩
        rw [htl, List.length_map, hrl, tabW_len]
def spMates (K : PySem.W.Frag) : Sp := fun vs H Q _ => ∃ (p : Addr) (feet : List Str), vs = [.ref p] ∧ H p = some (.lst (feet.map V.str)) ∧ IsWord feet ∧ feet.length ≤ 1000 ∧ ∀ (q : Addr) (M : List Nat) H', H q = none → Same H H' → H' q = some (.lst (M.map fun m : Nat => V.int (m : Nat))) → M.length = feet.length → (∀ q, q < feet.length → M[q]? = some (mtW feet q)) → Q (.ref q) H'
theorem rep_one {α : Type} (n : Nat) (x : α) : (List.replicate n [x]).flatten = List.replicate n x := by
  induction n with
  | zero => rfl
  | succ n ih => rw [List.replicate_succ, List.flatten_cons, ih]; rfl
theorem ok_mates (B : Bi K mg) (F : FnP K "_law_mates" st_l_mates f fd) : FnOk P w K mg base CX0 1 f fd ["feet"] (spMates K) := by
  refine F.ok sc_l_mates (fun vs H Q E h => ?_) (fun cdv A outer s H vs Q E hr h => ?_)
  · obtain ⟨p, feet, rfl, _⟩ := h
    rfl
  · obtain ⟨p, feet, rfl, hp, hW, hl, k⟩ := h
    have G := B
    refine ⟨_, PSs.nox ((pss_cons (ps_set (i := 1) sc_l_mates.nd rfl (Or.inl rfl) pe_dnewK)
      (pss_cons (ps_set (i := 2) sc_l_mates.nd rfl (Or.inl rfl) (pe_op op_rep (pe_lst (pa_cons pe_int pa_nil)) (pe_callB callLenS (by rfl) G.len PySem.boot_len (pa_cons (pv 0) pa_nil))))
      (pss_cons (ps_for PassesOwn.never rfl (pi_range1 (by rfl) G.range (pa_cons (pe_callB callLenS (by rfl) G.len PySem.boot_len (pa_cons (pv 0) pa_nil)) pa_nil)) (pg_name (i := 3) sc_l_mates.nd rfl (Or.inl rfl))
        (pss_cons (ps_if (pt_cmp (pc_din (hu_of hr) (pe_ix ix_list (pv 0) (pv 3) (fun _ _ => rfl)) (pv 1)))
          (pss_cons (ps_asg (pe_dget (hu_of hr) (pv 1) (pe_ix ix_list (pv 0) (pv 3) (fun _ _ => rfl)) (fun _ _ => rfl)) (pg_sub (pv 2) (pv 3) set_list))
          (pss_one (ps_asg (pv 3) (pg_sub (pv 2) (pe_dget (hu_of hr) (pv 1) (pe_ix ix_list (pv 0) (pv 3) (fun _ _ => rfl)) (fun _ _ => rfl)) set_list))))
          pss_nil)
        (pss_one (ps_dput (hu_of hr) (pv 1) (pe_ix ix_list (pv 0) (pv 3) (fun _ _ => rfl)) (pv 3) rfl))))
      (pss_one (ps_ret (pv 2))))))), ?_⟩
    try dsimp only [cxOf]
    walk_at "go"
    intro sd hsd
    walk_at "go"
    refine ⟨by show 1 ≤ sizeLine; decide, fun q0 hq0 => ?_⟩
    walk_at "go"
    rw [List.length_map]
    refine x_rep (xs := [V.int 0]) upd_same (by omega) (by omega) (by show 1 * _ ≤ _; exact Nat.le_trans (show _ ≤ 1000 by omega) (by decide)) fun mt hmt => ?_
    rw [rep_one, show ((feet.length : Nat) : Int).toNat = feet.length from Int.toNat_natCast _]
    have hp0 := upd_old (o := HO.dK []) hsd hp
    have hp1 := upd_old (o := HO.lst [V.int 0]) hq0 hp0
    have hp2 := upd_old (o := HO.lst (List.replicate feet.length (V.int 0))) hmt hp1
    have hsd1 : (upd (upd (upd H sd (.dK [])) q0 (.lst [V.int 0])) mt (.lst (List.replicate feet.length (V.int 0)))) sd = some (.dK []) := upd_old hmt (upd_old hq0 upd_same)
    have s3 : Same H (upd (upd (upd H sd (.dK [])) q0 (.lst [V.int 0])) mt (.lst (List.replicate feet.length (V.int 0)))) := Same.trans (Same.new hsd) (Same.trans (Same.new hq0) (Same.new hmt))
    have hmt0 : H mt = none := Same.free (Same.trans (Same.new (o := .dK []) hsd) (Same.new (o := .lst [V.int 0]) hq0)) hmt
    have nsm : sd ≠ mt := ne_of_none (upd_old hq0 upd_same) hmt
    have hM0 : (upd (upd (upd H sd (.dK [])) q0 (.lst [V.int 0])) mt (.lst (List.replicate feet.length (V.int 0)))) mt = some (.lst ((List.replicate feet.length 0).map fun m : Nat => V.int (m : Nat))) := by
      rw [upd_same, List.map_replicate]
      rfl
    revert hsd1 s3 hM0 hp2
    generalize (upd (upd (upd H sd (.dK [])) q0 (.lst [V.int 0])) mt (.lst (List.replicate feet.length (V.int 0)))) = H3
    intro hp2 hsd1 s3 hM0
    walk_at "go"
    rw [List.length_map]
    refine w_forR1 (by omega) (by omega) (fun i σ H' => Same H H' ∧ ∃ (Sn : List (Str × Nat)) (M : List Nat) (u : Option V), σ = [some (.ref p), some (.ref sd), some (.ref mt), u] ∧ H' sd = some (.dK (dD (fun n : Nat => V.int (n : Nat)) Sn)) ∧ H' mt = some (.lst (M.map fun m : Nat => V.int (m : Nat))) ∧ MtAt feet i M ∧ Sn.length ≤ i ∧ (∀ n j, aGet Sn n = some j → j < i ∧ feet[j]? = some n) ∧ ∀ n, aGet Sn n = none → n ∉ feet.take i)
      ⟨s3, [], _, none, rfl, hsd1, hM0, MtAt.zero feet, Nat.le_refl _, fun n j e => (by cases e), fun n _ => List.not_mem_nil⟩ ?_ ?_
    · rintro i σ H' hi ⟨s', Sn, M, u, rfl, hS, hM, hMt, hSl, hSb, hSn⟩
      have hMl := hMt.1
      have hi : i < feet.length := by omega
      obtain ⟨n, hn⟩ : ∃ n, feet[i]? = some n := ⟨feet[i]'hi, List.getElem?_eq_getElem hi⟩
      have hp' := s' _ _ hp
      have an : atI (feet.map V.str) (0 + (i : Int)) = some (.str n) := atI_of (k := i) (by omega) (by rw [List.getElem?_map, hn]; rfl)
      have ez : (0 : Int) + (i : Int) = ((i : Nat) : Int) := by omega
      have fin : ∀ (M' : List Nat) (H2 : Hp) (σ2 : L2.St) (D : Ends), Same H H2 → H2 sd = some (.dK (dD (fun n : Nat => V.int (n : Nat)) Sn)) → H2 mt = some (.lst (M'.map fun m : Nat => V.int (m : Nat))) → MtAt feet (i + 1) M' → σ2 = [some (.ref p), some (.ref sd), some (.ref mt), some (.int (0 + (i : Int)))] → D.nx = (fun σ H' => Same H H' ∧ ∃ (Sn : List (Str × Nat)) (M : List Nat) (u : Option V), σ = [some (.ref p), some (.ref sd), some (.ref mt), u] ∧ H' sd = some (.dK (dD (fun n : Nat => V.int (n : Nat)) Sn)) ∧ H' mt = some (.lst (M.map fun m : Nat => V.int (m : Nat))) ∧ MtAt feet (i + 1) M ∧ Sn.length ≤ i + 1 ∧ (∀ n j, aGet Sn n = some j → j < i + 1 ∧ feet[j]? = some n) ∧ ∀ n, aGet Sn n = none → n ∉ feet.take (i + 1)) →
          rDPut D σ2 (.int (0 + (i : Int))) (.ref sd) (.str n) H2 := by
        intro M' H2 σ2 D s2 hS2 hM2 hl2 e2 hD
        refine x_dputS hS2 (by rw [dD_len]; exact Nat.lt_of_le_of_lt (show _ ≤ 1000 by omega) (by decide)) ?_
        rw [hD, e2]
        have hsd0 : H sd = none := hsd
        refine ⟨Same.mut s2 hsd0, aPut Sn n i, M', _, rfl, ?_, ?_, hl2, Nat.le_trans (len_put _ _ _) (by omega), fun n' j e => ?_, fun n' e => ?_⟩
        · rw [upd_same, ez, ← putK_dD (fun n : Nat => V.int (n : Nat))]
        · rw [upd_ne (Ne.symm nsm)]
          exact hM2
        · rw [aGet_put] at e
          split at e
          · rename_i en
            cases e
            exact ⟨by omega, by rw [hn, en]⟩
          · have := hSb n' j e
            exact ⟨by omega, this.2⟩
        · rw [aGet_put] at e
          split at e
          · cases e
          · rename_i en
            rw [take_snoc hn]
            exact fun z => (List.mem_append.mp z).elim (hSn n' e) fun z => en (List.mem_singleton.mp z)
      walk_at "go"
      refine x_dinS (o := (aGet Sn n).map fun n : Nat => V.int (n : Nat)) (.inl hS) (valV_dD _ _ _) ?_
      rw [Option.isSome_map]
      cases hg : aGet Sn n with
      | none =>
        walk_at "go"
        exact fin M H' _ _ s' hS hM (hMt.old hW hn (hSn n hg)) rfl rfl
      | some j =>
        obtain ⟨hj, hjn⟩ := hSb n j hg
        walk_at "go"
        refine x_dgetS (v := .int (j : Nat)) (.inl hS) (by rw [valV_dD, hg]; rfl) ?_
        walk_at "go"
        refine x_setL (k := i) hM (ixN_of (by omega) (by rw [List.length_map, hMl]; exact hi)) ?_
        have hM2 : upd H' mt (.lst ((M.map fun m : Nat => V.int (m : Nat)).set i (V.int (j : Nat)))) mt = some (.lst ((M.set i j).map fun m : Nat => V.int (m : Nat))) := by rw [upd_same, List.map_set]
        have hS2 : upd H' mt (.lst ((M.map fun m : Nat => V.int (m : Nat)).set i (V.int (j : Nat)))) sd = some (.dK (dD (fun n : Nat => V.int (n : Nat)) Sn)) := by rw [upd_ne nsm]; exact hS
        have s2 : Same H (upd H' mt (.lst ((M.map fun m : Nat => V.int (m : Nat)).set i (V.int (j : Nat))))) := Same.mut s' hmt0
        revert hM2 hS2 s2
        generalize (upd H' mt (.lst ((M.map fun m : Nat => V.int (m : Nat)).set i (V.int (j : Nat))))) = H2
        intro hM2 hS2 s2
        have hp2' := s2 _ _ hp
        walk_at "go"
        refine x_dgetS (v := .int (j : Nat)) (.inl hS2) (by rw [valV_dD, hg]; rfl) ?_
        refine x_setL (k := j) hM2 (ixN_of rfl (by rw [List.length_map, List.length_set, hMl]; omega)) ?_
        have hM3 : upd H2 mt (.lst (((M.set i j).map fun m : Nat => V.int (m : Nat)).set j (V.int (0 + (i : Int))))) mt = some (.lst (((M.set i j).set j i).map fun m : Nat => V.int (m : Nat))) := by rw [upd_same, ez, ← List.map_set]
        have hS3 : upd H2 mt (.lst (((M.set i j).map fun m : Nat => V.int (m : Nat)).set j (V.int (0 + (i : Int))))) sd = some (.dK (dD (fun n : Nat => V.int (n : Nat)) Sn)) := by rw [upd_ne nsm]; exact hS2
        have s3 : Same H (upd H2 mt (.lst (((M.set i j).map fun m : Nat => V.int (m : Nat)).set j (V.int (0 + (i : Int)))))) := Same.mut s2 hmt0
        revert hM3 hS3 s3
        generalize (upd H2 mt (.lst (((M.set i j).map fun m : Nat => V.int (m : Nat)).set j (V.int (0 + (i : Int)))))) = H3
        intro hM3 hS3 s3
        have hp3' := s3 _ _ hp
        walk_at "go"
        exact fin _ H3 _ _ s3 hS3 hM3 (hMt.new hW hn hjn hj) rfl rfl
    · rintro σ H' ⟨s', Sn, M, u, rfl, hS, hM, hMt, hSl, hSb, hSn⟩
      rw [Int.toNat_natCast] at hMt
      walk_at "go"
      exact k mt M H' hmt0 s' hM hMt.1 (hMt.full hW).2
def spLTable (K : PySem.W.Frag) : Sp := fun vs H Q _ => ∃ (p : Addr) (feet : List Str), vs = [.ref p] ∧ H p = some (.lst (feet.map V.str)) ∧ IsWord feet ∧ feet.length ≤ 1000 ∧ ∀ t H', H t = none → Same H H' → TblAt K H' t (tabW feet) → Q (.ref t) H'
theorem ok_ltable (B : Bi K mg) (c_l_mates : C8.Cal P w K mg base 1 "_law_mates" (spMates K) []) (F : FnP K "_law_table" st_l_table f fd) : FnOk P w K mg base CX0 2 f fd ["feet"] (spLTable K) := by
  refine F.ok sc_l_table (fun vs H Q E h => ?_) (fun cdv A outer s H vs Q E hr h => ?_)
  · obtain ⟨p, feet, rfl, _⟩ := h
    rfl
  · obtain ⟨p, feet, rfl, hp, hW, hl, k⟩ := h
    have G := B
    refine ⟨_, PSs.nox ((pss_cons (ps_set (i := 1) sc_l_table.nd rfl (Or.inr rfl) (C8.pe_c c_l_mates hr (by decide) rfl (pa_cons (pv 0) pa_nil)))
      (pss_cons (ps_setLc (i := 2) (own := [("k", 5)]) rfl sc_l_table.nd rfl rfl (sw_true rfl rfl rfl (by decide +kernel)) (pi_range1 (by rfl) G.range (pa_cons (pe_callB callLenS (by rfl) G.len PySem.boot_len (pa_cons (pv 0) pa_nil)) pa_nil)) (blkOk_by (own := [("k", 5)]) (N := ["feet", "mates", "lefts", "found", "a", "k", "b"]) (sc := defScope st_l_table) (by decide +kernel)) (fun _ _ _ _ _ => (pg_name (i := 5) sc_l_table.nd rfl (Or.inl rfl))) (fun _ _ _ _ _ => (pts_one (pt_cmpR op_gt (pe_ix (ix_listK (K := K) rfl) (pv 1) (pv 5) (fun _ _ => rfl)) (pv 5) (nomark _)))) (fun _ _ _ _ _ => (pv 5)))
      (pss_cons (ps_set (i := 3) sc_l_table.nd rfl (Or.inl rfl) (pe_lst pa_nil))
      (pss_cons (ps_for PassesOwn.never rfl (pi_list (pv 2)) (pg_name (i := 4) sc_l_table.nd rfl (Or.inr rfl))
        (pss_one (ps_expr (pe_bm PySem.F.plainAttrs_list PySem.F.slot_list_append PySem.F.type_list_append mt_append (pv 3) (pa_cons (pe_lc (own := [("b", 6)]) rfl sc_l_table.nd (pi_list (pv 2)) (blkOk_by (own := [("b", 6)]) (N := ["feet", "mates", "lefts", "found", "a", "k", "b"]) (sc := defScope st_l_table) (by decide +kernel)) (fun _ _ _ _ _ => (pg_name (i := 6) sc_l_table.nd rfl (Or.inl rfl))) (fun _ _ _ _ _ => pts_nil) (fun _ _ _ _ _ => (pe_callTy call_intB (by rfl) G.int (by decide +kernel) (pa_cons (pe_or (pe_chain3 op_lt op_lt op_lt (pv 4) (pv 6) (pe_ix (ix_listK (K := K) rfl) (pv 1) (pv 4) (fun _ _ => rfl)) (pe_ix (ix_listK (K := K) rfl) (pv 1) (pv 6) (fun _ _ => rfl))) (pe_one (pe_chain3 op_lt op_lt op_lt (pv 6) (pv 4) (pe_ix (ix_listK (K := K) rfl) (pv 1) (pv 6) (fun _ _ => rfl)) (pe_ix (ix_listK (K := K) rfl) (pv 1) (pv 4) (fun _ _ => rfl))))) pa_nil)))) pa_nil)))))
      (pss_one (ps_ret (pv 3)))))))), ?_⟩
    try dsimp only [cxOf]
    walk_at "go"
    refine ⟨p, feet, rfl, hp, hW, hl, fun q M H1 hq0 s1 hq hMl hMt => ?_⟩
    have hp1 := s1 _ _ hp
    have am : ∀ {k : Nat} {z : Int}, z = (k : Nat) → k < feet.length → atI (M.map fun m : Nat => V.int (m : Nat)) z = some (.int (mtW feet k : Nat)) := fun {k z} e hk => atI_of e (by rw [List.getElem?_map, hMt k hk]; rfl)
    walk_at "go"
    rw [List.length_map]
    refine w_lcR1 (by omega) (by omega) (by rw [Int.toNat_natCast]; exact Nat.lt_of_le_of_lt hl (by decide)) (fun i acc => acc = (leftsW feet i).map fun m : Nat => V.int (m : Nat)) rfl ?_ ?_
    · rintro i H' acc hi s' rfl hai R S2 hR hS2
      have hi : i < feet.length := by omega
      have hq' := s' _ _ hq
      have a1 := am (k := i) (z := 0 + (i : Int)) (by omega) hi
      walk_at "go"
      refine ⟨rfl, ?_⟩
      walk_at "go"
      refine x_iteD (fun h => ?_) (fun h => ?_)
      · walk_at "go"
        refine hR _ _ (Same.refl _) ?_
        rw [leftsW_succ, if_pos (by omega), List.map_append]
        congr 3
        omega
      · refine hS2 _ (Same.refl _) ?_
        rw [leftsW_succ, if_neg (by omega)]
    · rintro lf H2 acc hlf s2 hlf2 rfl
      rw [Int.toNat_natCast] at hlf2
      have hbl : (bandsOf feet).length ≤ 1000 := Nat.le_trans (bandsOf_len _) hl
      have hll := lefts_len hW
      have s12 := Same.trans s1 s2
      walk_at "go"
      refine ⟨Nat.zero_le _, fun t ht => ?_⟩
      have ht0 : H t = none := Same.free s12 ht
      have s3 := Same.trans s12 (Same.new (o := HO.lst []) ht)
      have hq3 := upd_old (o := HO.lst []) ht (s2 _ _ hq)
      have hlf3 := upd_old (o := HO.lst []) ht hlf2
      have nlt : lf ≠ t := ne_of_none hlf2 ht
      have nqt : q ≠ t := ne_of_none (s2 _ _ hq) ht
      walk_at "go"
      refine w_forL (xs := (leftsW feet feet.length).map fun m : Nat => V.int (m : Nat)) (SqL.of hlf3) (fun i σ H' => Kp t (upd H2 t (.lst [])) H' ∧ Same H H' ∧ ∃ (ts : List Addr) (u : Option V), H' t = some (.lst (ts.map V.ref)) ∧ ts.length = i ∧ (∀ (j : Nat) (r : Addr) (row : List Bool), ts[j]? = some r → (tabW feet)[j]? = some row → r ≠ t ∧ H' r = some (.lst (row.map bV))) ∧ σ = [some (.ref p), some (.ref q), some (.ref lf), some (.ref t), u, none, none])
        ⟨(fun _ _ _ e => e), s3, [], none, upd_same, rfl, fun j r row e => (by cases e), rfl⟩ (fun i σ H' _ ⟨kp, _⟩ => SqL.of (kp _ _ nlt hlf3)) ?_ ?_
      · rintro i x σ H' hi ⟨kp, s', ts, u, hT, hti, hts, rfl⟩
        obtain ⟨a, rfl, ha⟩ := nat_at hi
        obtain ⟨hal, ham, hab⟩ := lefts_at hW ha
        have hb : feet[a]? = some feet[a] := List.getElem?_eq_getElem hal
        rw [hb] at hab
        generalize feet[a] = b at hb hab
        have hpa := mt_pl hW hb ham
        have hlf' := kp _ _ nlt hlf3
        have hq' := kp _ _ nqt hq3
        have hil : i < (leftsW feet feet.length).length := (List.getElem?_eq_some_iff.mp ha).1
        walk_at "go"
        refine w_lcL (xs := (leftsW feet feet.length).map fun m : Nat => V.int (m : Nat)) (SqL.of hlf') (by rw [List.length_map, hll]; exact Nat.lt_of_le_of_lt hbl (by decide)) (fun m acc => acc = ((Rk.rowB (Rk.cr feet) (bandsOf feet) b).map bV).take m) rfl ?_ ?_
        · rintro m y H3 acc hy s3 rfl ham2 R2 S3 hR2 hS3
          obtain ⟨c, rfl, hc⟩ := nat_at hy
          obtain ⟨hcl, hcm, hcb⟩ := lefts_at hW hc
          have hz : feet[c]? = some feet[c] := List.getElem?_eq_getElem hcl
          rw [hz] at hcb
          generalize feet[c] = z at hz hcb
          have hpc := mt_pl hW hz hcm
          have hq3' := s3 _ _ hq'
          have a1 := am (k := a) (z := (a : Int)) rfl hal
          have a2 := am (k := c) (z := (c : Int)) rfl hcl
          have fin : ∀ b2 : Bool, b2 = decide ((a < c ∧ c < mtW feet a ∧ mtW feet a < mtW feet c) ∨ (c < a ∧ a < mtW feet c ∧ mtW feet c < mtW feet a)) → rIntB [.bl b2] H3 R2 := fun b2 e => by
            refine x_intB ?_
            refine hR2 _ _ (Same.refl _) ?_
            rw [e, ← cross_dec hW hpa hpc]
            have : ((Rk.rowB (Rk.cr feet) (bandsOf feet) b).map bV)[m]? = some (bV (Rk.cr feet b z)) := by
              unfold Rk.rowB
              rw [List.getElem?_map, List.getElem?_map, hcb]; rfl
            rw [take_snoc this]
            congr 2
            cases Rk.cr feet b z <;> rfl
          walk_at "go"
          refine ⟨rfl, ?_⟩
          walk_at "go"
          repeat' (refine x_iteD (fun _ => ?_) (fun _ => ?_) <;> walk_at "go")
          all_goals exact fin _ (by first | (symm; apply decide_eq_true; omega) | (symm; apply decide_eq_false; omega) | (apply decide_eq_decide.mpr; omega))
        · rintro r H3 acc hr s4 hr4 rfl
          rw [List.length_map, hll, List.take_of_length_le (by rw [List.length_map]; unfold Rk.rowB; rw [List.length_map]; exact Nat.le_refl _)] at hr4
          have hT3 := s4 _ _ hT
          walk_at "go"
          refine x_append hT3 (by rw [List.length_map, hti]; exact Nat.lt_of_le_of_lt (show _ ≤ 1000 by omega) (by decide)) ?_
          have nrt : r ≠ t := Ne.symm (ne_of_none hT hr)
          refine ⟨?_, Same.mut (Same.trans s' s4) ht0, ts ++ [r], _, by rw [upd_same, List.map_append]; rfl, by rw [List.length_append, hti]; rfl, fun j r' row q1 q2 => ?_, rfl⟩
          · intro x o n e
            rw [upd_ne n]
            exact s4 _ _ (kp _ _ n e)
          · rcases Nat.lt_trichotomy j ts.length with e | e | e
            · rw [List.getElem?_append_left e] at q1
              obtain ⟨n, g1⟩ := hts j r' row q1 q2
              exact ⟨n, by rw [upd_ne n]; exact s4 _ _ g1⟩
            · rw [e, List.getElem?_append_right (Nat.le_refl _), Nat.sub_self] at q1
              have e1 : r = r' := Option.some.inj q1
              have e2 : (tabW feet)[i]? = some (Rk.rowB (Rk.cr feet) (bandsOf feet) b) := by unfold tabW; rw [List.getElem?_map, hab]; rfl
              rw [e, hti, e2] at q2
              have e3 := Option.some.inj q2
              subst e1 e3
              exact ⟨nrt, by rw [upd_ne nrt]; exact hr4⟩
            · rw [List.getElem?_append_right (by omega)] at q1
              obtain ⟨m, hm⟩ : ∃ m, j - ts.length = m + 1 := ⟨j - ts.length - 1, by omega⟩
              rw [hm] at q1; cases q1
      · rintro σ H' ⟨kp, s', ts, u, hT, hti, hts, rfl⟩
        walk_at "go"
        rw [List.length_map] at hti
        exact k t H' ht0 s' ⟨ts, hT, by rw [hti, hll, tabW_len], fun i r row q1 q2 => (hts i r row q1 q2).2⟩
theorem Kq.free {b c x : Addr} {H H' : Hp} {u v : HO} (k : Kq b c H H') (hb : H' b = some u) (hc : H' c = some v) (hx : H' x = none) : H x = none := by
  cases e : H x with
  | none => rfl
  | some o =>
    have := k x o (fun z => by rw [z, hb] at hx; cases hx) (fun z => by rw [z, hc] at hx; cases hx) e
    rw [hx] at this; cases this
theorem Kq.mutn {b c x : Addr} {H H' : Hp} {o : HO} (k : Kq b c H H') (hx : H x = none) : Kq b c H (upd H' x o) := fun a u n1 n2 e => by
  rw [upd_ne (ne_of_none e hx)]
  exact k a u n1 n2 e
theorem Kp.sqt_l {H H' : Hp} {b x : Addr} {ys xs : List V} (k : Kp b H H') (hb : H b = some (.lst ys)) (h : SqT K H x xs) : SqT K H' x xs := by
  rcases h with (h | ⟨o, h⟩) | h
  · exact .inl (.inl (k _ _ (fun e => by rw [e, hb] at h; cases h) h))
  · exact .inl (.inr ⟨o, k _ _ (fun e => by rw [e, hb] at h; cases h) h⟩)
  · exact .inr h
theorem SheetAt.kp {H H' : Hp} {a b l : Addr} {arm mod : Nat} {feet : List Str} {told : List (Str × Int)} (h : SheetAt K H a arm mod feet told) (hB : BagAt H b l) (k : Kp b H H') : SheetAt K H' a arm mod feet told := by
  obtain ⟨ns, i, g, e, x, c, hb, _⟩ := hB.ex
  obtain ⟨dx, bk, wd, ft, bs, td, h1, ⟨dxb, h2⟩, h3, ⟨L, g1, g2, g3⟩, h5, h6⟩ := h.ex
  exact ⟨⟨dx, bk, wd, ft, bs, td, k _ _ (ne_of_some h1 hb (by intro z; cases z)) h1, ⟨dxb, k _ _ (ne_of_some h2 hb (by intro z; cases z)) h2⟩, k.sqt_l hb h3, ⟨L, k _ _ (ne_of_some g1 hb (by intro z; cases z)) g1, g2, fun p hp => let ⟨i, j, e1, e2⟩ := g3 p hp; ⟨i, j, k _ _ (ne_of_some e1 hb (by intro z; cases z)) e1, e2⟩⟩, k.sqt_l hb h5, k _ _ (ne_of_some h6 hb (by intro z; cases z)) h6⟩, h.tk⟩
theorem OwnAt.kp {H H' : Hp} {b l o fa na : Addr} {S : Own} (h : OwnAt H o fa na S) (hB : BagAt H b l) (k : Kp b H H') : OwnAt H' o fa na S := by
  obtain ⟨nob, nfb, nnb, _⟩ := bag_own hB h
  exact ⟨k _ _ nob h.o_, k _ _ nfb h.f_, k _ _ nnb h.n_⟩
theorem x_neNilT {K : PySem.W.Frag} {H : Hp} {Q : VK} {p q : Addr} {l : List Str} (hp : SqL K H p (l.map V.str)) (hq : SqL K H q []) (h : ∀ x ∈ l, PyData.canLay0 (.str x) = true) (k : Q (.bl (!decide (l = []))) H) : rNeD K (.ref p) (.ref q) H Q := by
  have h1 : ∀ l : List Str, (∀ x ∈ l, PyData.canLay0 (.str x) = true) → PyData.canLayAll0 (l.map PyData.str) = true := fun l => by
    induction l with
    | nil => intro _; simp only [List.map_nil, PyData.canLayAll0]
    | cons x l ih =>
      intro h
      simp only [List.map_cons, PyData.canLayAll0, Bool.and_eq_true]
      exact ⟨h x (List.mem_cons_self ..), ih fun y hy => h y (List.mem_cons_of_mem _ hy)⟩
  have h2 : ∀ l : List Str, (∀ x ∈ l, PyData.canLay0 (.str x) = true) → SeqAt.shaped (.list (l.map PyData.str)) = true := fun l h => by
    unfold SeqAt.shaped
    have g1 : PyData.canLay0 (.list (l.map PyData.str)) = true := by
      simp only [PyData.canLay0]
      exact h1 l h
    have g2 := depth_strs l
    have g3 : PyData.depth (.list (l.map PyData.str)) ≤ 64 := by
      simp only [PyData.depth]
      omega
    rw [g1, Bool.true_and]
    exact decide_eq_true g3
  exact ⟨.list (l.map PyData.str), .list [], .lst hp (dp_strs l), .lst hq .nil, h2 l h, h2 [] (fun x hx => by cases hx), by rw [eqv_nil]; exact k⟩
theorem minus_ok {x : Str} (h : IsName x) : ("-" : Str) ++ x = SX.S (45 :: x.cps.toList) ∧ PyData.canLay0 (.str (("-" : Str) ++ x)) = true := by
  obtain ⟨c, ds, rfl, h1, h2, h3, h4⟩ := h
  have e : ("-" : Str) ++ SX.S (c :: ds) = SX.S (45 :: c :: ds) := by
    show (⟨#[45] ++ (c :: ds).toArray⟩ : Str) = ⟨(45 :: c :: ds).toArray⟩
    congr 1
    simp
  refine ⟨e, ?_⟩
  rw [e]
  show PyData.strOk (SX.S (45 :: c :: ds)) = true
  unfold PyData.strOk
  rw [show (SX.S (45 :: c :: ds)).cps = (45 :: c :: ds).toArray from rfl, List.all_toArray]
  rw [List.all_eq_true]
  intro d hd
  refine decide_eq_true ?_
  rcases List.mem_cons.mp hd with e | hd
  · omega
  · rcases List.mem_cons.mp hd with e | hd
    · omega
    · have := h4 d hd
      omega
theorem sub_range {C : List Nat} {n : Nat} (nd : C.Nodup) (h : ∀ p ∈ C, p < n) (l : n ≤ C.length) : ∀ p, p < n → p ∈ C := fun p hp => by
  refine Rk.sub_all (L := C) (M := List.range n) nd (fun x hx => List.mem_range.mpr (h x hx)) (by rw [List.length_range]; exact l) p (List.mem_range.mpr hp)
def spLRims : Sp := fun vs H Q _ => ∃ (o fa na : Addr) (S : Own), vs = [.ref o] ∧ OwnAt H o fa na S ∧ S.Ok ∧ ∀ (p : Addr) (xs : List V) H', H p = none → Same H H' → H' p = some (.lst xs) → Rims S.feet xs.length → Q (.ref p) H'
theorem ok_lrims (B : Bi K mg) (c_l_red : C8.Cal P w K mg base 1 "_law_red" spRed []) (c_l_mates : C8.Cal P w K mg base 1 "_law_mates" (spMates K) []) (F : FnP K "_law_rims" st_l_rims f fd) : FnOk P w K mg base CX0 2 f fd ["own"] spLRims := by
  refine F.ok sc_l_rims (fun vs H Q E h => ?_) (fun cdv A outer s H vs Q E hr h => ?_)
  · obtain ⟨o, fa, na, S, rfl, _⟩ := h
    rfl
  · obtain ⟨o, fa, na, S, rfl, hO, hK, k⟩ := h
    have G := B
    have hln := hK.ln
    have ha1 := hK.a1
    have ha2 := hK.a2
    have hm2 := hK.m2
    have hO1 := hO.o_
    have hO2 := hO.f_
    refine ⟨_, PSs.nox ((pss_cons (ps_asg (pv 0) (pg_unl rfl (pgs_cons (pg_name (i := 1) sc_l_rims.nd rfl (Or.inl rfl)) (pgs_cons (pg_name (i := 2) sc_l_rims.nd rfl (Or.inl rfl)) (pgs_cons (pg_name (i := 3) sc_l_rims.nd rfl (Or.inl rfl)) (pgs_cons (pg_name (i := 4) sc_l_rims.nd rfl (Or.inl rfl)) pgs_nil))))))
      (pss_cons (ps_if (pt_cmpR (op_eqD hr.units) (pv 3) (pe_lst pa_nil) (nomark _))
        (pss_one (ps_ret (pe_lst (pa_cons (pe_lst (pa_cons (C8.pe_c c_l_red hr (by decide) rfl (pa_cons (pv 2) (pa_cons (pv 1) pa_nil))) (pa_cons (pe_lst pa_nil) (pa_cons pe_bl pa_nil)))) pa_nil))))
        pss_nil)
      (pss_cons (ps_set (i := 5) sc_l_rims.nd rfl (Or.inl rfl) (C8.pe_c c_l_mates hr (by decide) rfl (pa_cons (pv 3) pa_nil)))
      (pss_cons (ps_set (i := 6) sc_l_rims.nd rfl (Or.inl rfl) (pe_op op_rep (pe_lst (pa_cons pe_bl pa_nil)) (pe_callB callLenS (by rfl) G.len PySem.boot_len (pa_cons (pv 3) pa_nil))))
      (pss_cons (ps_set (i := 7) sc_l_rims.nd rfl (Or.inl rfl) (pe_lst pa_nil))
      (pss_cons (ps_for PassesOwn.never rfl (pi_range1 (by rfl) G.range (pa_cons (pe_callB callLenS (by rfl) G.len PySem.boot_len (pa_cons (pv 3) pa_nil)) pa_nil)) (pg_name (i := 8) sc_l_rims.nd rfl (Or.inl rfl))
        (pss_cons (ps_set (i := 9) sc_l_rims.nd rfl (Or.inl rfl) (pv 8))
        (pss_cons (ps_set (i := 10) sc_l_rims.nd rfl (Or.inl rfl) pe_int)
        (pss_cons (ps_set (i := 11) sc_l_rims.nd rfl (Or.inl rfl) pe_int)
        (pss_cons (ps_set (i := 12) sc_l_rims.nd rfl (Or.inl rfl) (pe_lst pa_nil))
        (pss_cons (ps_set (i := 13) sc_l_rims.nd rfl (Or.inl rfl) pe_bl)
        (C8.pss_cut (ps_for PassesOwn.never rfl (pi_range1 (by rfl) G.range (pa_cons (pe_callB callLenS (by rfl) G.len PySem.boot_len (pa_cons (pv 3) pa_nil)) pa_nil)) (pg_name (i := 14) sc_l_rims.nd rfl (Or.inl rfl))
          (pss_cons (ps_if (pt_val (pe_ix ix_list (pv 6) (pv 9) (fun _ _ => rfl)))
            (pss_one ps_break)
            pss_nil)
          (pss_cons (ps_asg pe_bl (pg_sub (pv 6) (pv 9) set_list))
          (pss_cons (ps_set (i := 15) sc_l_rims.nd rfl (Or.inl rfl) (pe_ix ix_list (pv 5) (pv 9) (fun _ _ => rfl)))
          (pss_cons (ps_set (i := 16) sc_l_rims.nd rfl (Or.inl rfl) (pe_cmpR op_lt (pv 9) (pv 15) (nomark _)))
          (pss_cons (ps_expr (pe_bm PySem.F.plainAttrs_list PySem.F.slot_list_append PySem.F.type_list_append mt_append (pv 12) (pa_cons (pe_ifExp (pt_val (pv 16)) (pe_ix ix_list (pv 3) (pv 9) (fun _ _ => rfl)) (pe_op op_addS pe_str (pe_ix ix_list (pv 3) (pv 9) (fun _ _ => rfl)))) pa_nil)))
          (pss_cons (ps_set (i := 11) sc_l_rims.nd rfl (Or.inl rfl) (pe_op op_add (pv 11) (pe_ifExp (pt_val (pv 16)) (pe_dget (hu_of hr) (pv 4) (pe_ix ix_list (pv 3) (pv 9) (fun _ _ => rfl)) (fun _ _ => rfl)) (pe_un un_neg (pe_dget (hu_of hr) (pv 4) (pe_ix ix_list (pv 3) (pv 9) (fun _ _ => rfl)) (fun _ _ => rfl))))))
          (pss_cons (ps_set (i := 10) sc_l_rims.nd rfl (Or.inl rfl) (pe_op op_add (pe_op op_add (pv 10) (pe_ifExp (pt_val (pv 16)) (pe_un un_neg pe_int) pe_int)) (pe_ifExp (pt_cmpR op_eq (pv 15) pe_int (nomark _)) pe_int (pe_un un_neg pe_int))))
          (pss_cons (ps_set (i := 13) sc_l_rims.nd rfl (Or.inl rfl) (pe_or (pv 13) (pe_one (pe_cmpR op_eq (pv 15) pe_int (nomark _)))))
          (pss_one (ps_set (i := 9) sc_l_rims.nd rfl (Or.inl rfl) (pe_ifExp (pt_cmpR op_gt (pv 15) pe_int (nomark _)) (pe_op op_sub (pv 15) pe_int) (pe_op op_sub (pe_callB callLenS (by rfl) G.len PySem.boot_len (pa_cons (pv 3) pa_nil)) pe_int)))))))))))))
        (pss_one (ps_if (pt_cmpR (op_neD hr.units) (pv 12) (pe_lst pa_nil) (nomark _))
          (pss_one (ps_expr (pe_bm PySem.F.plainAttrs_list PySem.F.slot_list_append PySem.F.type_list_append mt_append (pv 7) (pa_cons (pe_lst (pa_cons (C8.pe_c c_l_red hr (by decide) rfl (pa_cons (pv 2) (pa_cons (pe_op op_add (pe_op op_mul (pv 1) (pe_op op_fdiv (pv 10) pe_int)) (pv 11)) pa_nil))) (pa_cons (pv 12) (pa_cons (pv 13) pa_nil)))) pa_nil))))
          pss_nil)))))))))
      (pss_one (ps_ret (pv 7)))))))))), ?_⟩
    try dsimp only [cxOf]
    walk_at "go"
    refine ⟨Nat.zero_le _, fun q0 hq0 => ?_⟩
    walk_at "go"
    refine x_eqNil (l := S.feet) (SqL.of (upd_old hq0 hO2)) (SqL.of upd_same) hK.wd.nm ?_
    walk_at "go"
    have sA : Same H (upd H q0 (.lst [])) := Same.new hq0
    revert sA
    generalize upd H q0 (.lst []) = HA
    intro sA
    refine x_iteD (fun he => ?_) (fun he => ?_)
    · walk_at "go"
      refine ⟨S.mod, (S.arm : Int), rfl, by omega, ?_⟩
      walk_at "go"
      refine ⟨Nat.zero_le _, fun q1 hq1 => ?_⟩
      walk_at "go"
      refine ⟨by show 3 ≤ sizeLine; decide, fun q2 hq2 => ?_⟩
      walk_at "go"
      refine ⟨by show 1 ≤ sizeLine; decide, fun q3 hq3 => ?_⟩
      have s3 := Same.trans sA (Same.trans (Same.new (o := HO.lst []) hq1) (Same.new (o := HO.lst [.int (redN S.mod (S.arm : Int)), .ref q1, .bl true]) hq2))
      exact k q3 _ _ (Same.free s3 hq3) (Same.trans s3 (Same.new hq3)) upd_same (.inl ⟨he, rfl⟩)
    · walk_at "go"
      have hN : 0 < S.feet.length := List.length_pos_iff.mpr he
      refine ⟨fa, S.feet, rfl, sA _ _ hO2, hK.wd, by omega, fun q M H1 hq0' s1 hq hMl hMt => ?_⟩
      have s01 := Same.trans sA s1
      have hO21 := s01 _ _ hO2
      have am : ∀ {k : Nat} {z : Int}, z = (k : Nat) → k < S.feet.length → atI (M.map fun m : Nat => V.int (m : Nat)) z = some (.int (mtW S.feet k : Nat)) := fun {k z} e hk => atI_of e (by rw [List.getElem?_map, hMt k hk]; rfl)
      walk_at "go"
      refine ⟨by show 1 ≤ sizeLine; decide, fun q1 hq1 => ?_⟩
      walk_at "go"
      rw [List.length_map]
      refine x_rep (xs := [V.bl false]) upd_same (by omega) (by omega) (by show 1 * _ ≤ _; exact Nat.le_trans (show _ ≤ 400 by omega) (by decide)) fun ul hul => ?_
      rw [rep_one, show ((S.feet.length : Nat) : Int).toNat = S.feet.length from Int.toNat_natCast _]
      have s12 := Same.trans s01 (Same.trans (Same.new (o := HO.lst [V.bl false]) hq1) (Same.new (o := HO.lst (List.replicate S.feet.length (V.bl false))) hul))
      have hu2 : (upd (upd H1 q1 (.lst [V.bl false])) ul (.lst (List.replicate S.feet.length (V.bl false)))) ul = some (.lst ((List.replicate S.feet.length false).map V.bl)) := by rw [upd_same, List.map_replicate]
      have hul0 : H ul = none := Same.free (Same.trans s01 (Same.new (o := HO.lst [V.bl false]) hq1)) hul
      have hq2 : (upd (upd H1 q1 (.lst [V.bl false])) ul (.lst (List.replicate S.feet.length (V.bl false)))) q = _ := upd_old hul (upd_old hq1 hq)
      have nqu : q ≠ ul := ne_of_none (upd_old hq1 hq) hul
      revert s12 hu2 hq2
      generalize (upd (upd H1 q1 (.lst [V.bl false])) ul (.lst (List.replicate S.feet.length (V.bl false)))) = H2
      intro s12 hu2 hq2
      walk_at "go"
      refine ⟨Nat.zero_le _, fun fl hfl => ?_⟩
      have s13 := Same.trans s12 (Same.new (o := HO.lst []) hfl)
      have hfl0 : H fl = none := Same.free s12 hfl
      have nuf : ul ≠ fl := ne_of_none hu2 hfl
      have nqf : q ≠ fl := ne_of_none hq2 hfl
      have hu3 := upd_old (o := HO.lst []) hfl hu2
      have hq3 := upd_old (o := HO.lst []) hfl hq2
      have hf3 : (upd H2 fl (.lst [])) fl = some (.lst []) := upd_same
      have hO23 := s13 _ _ hO2
      have hO33 := s13 _ _ hO.n_
      have nfu : fa ≠ ul := ne_of_none hO2 hul0
      have nff : fa ≠ fl := ne_of_none hO2 hfl0
      have nnu : na ≠ ul := ne_of_none hO.n_ hul0
      have nnf : na ≠ fl := ne_of_none hO.n_ hfl0
      revert s13 hu3 hq3 hf3 hO23 hO33
      generalize (upd H2 fl (.lst [])) = H3
      intro s13 hu3 hq3 hf3 hO23 hO33
      walk_at "go"
      rw [List.length_map]
      refine w_forR1 (by omega) (by omega) (fun i σ H' => Kq ul fl H3 H' ∧ ∃ (U : List Nat) (us : List Bool) (xs : List V) (u1 u2 u3 u4 u5 u6 u7 u8 u9 : Option V), H' ul = some (.lst (us.map V.bl)) ∧ us.length = S.feet.length ∧ (∀ p, p < S.feet.length → us[p]? = some (decide (p ∈ U))) ∧ H' fl = some (.lst xs) ∧ xs.length ≤ i ∧
          Rk.Cyc (fun p => Rk.prv S.feet.length (mtW S.feet p)) S.feet.length U xs.length ∧ (∀ p, p < i → p ∈ U) ∧ σ = [some (.ref o), some (.int (S.arm : Nat)), some (.int (S.mod : Nat)), some (.ref fa), some (.ref na), some (.ref q), some (.ref ul), some (.ref fl), u1, u2, u3, u4, u5, u6, u7, u8, u9])
        ⟨Kq.refl, [], List.replicate S.feet.length false, [], none, none, none, none, none, none, none, none, none, hu3, List.length_replicate .., fun p hp => by rw [List.getElem?_replicate, if_pos hp]; rfl, hf3, Nat.le_refl _, Rk.Cyc.nil _, fun p h => (by omega), rfl⟩ ?_ ?_
      · rintro i σ H' hi ⟨kq, U, us, xs, u1, u2, u3, u4, u5, u6, u7, u8, u9, hU1, hU2, hU3, hF1, hF2, hC, hcov, rfl⟩
        have hi : i < S.feet.length := by omega
        walk_at "go"
        refine ⟨Nat.zero_le _, fun pl hpl => ?_⟩
        have npu : ul ≠ pl := ne_of_none hU1 hpl
        have npf : fl ≠ pl := ne_of_none hF1 hpl
        have hpl3 : H3 pl = none := kq.free hU1 hF1 hpl
        have kq1 : Kq ul fl H3 (upd H' pl (.lst [])) := Kq.mutn kq hpl3
        have hU1' := upd_old (o := HO.lst []) hpl hU1
        have hF1' := upd_old (o := HO.lst []) hpl hF1
        have hP1 : (upd H' pl (.lst [])) pl = some (.lst (([] : List Str).map V.str)) := upd_same
        revert kq1 hU1' hF1' hP1
        generalize (upd H' pl (.lst [])) = H4
        intro kq1 hU1' hF1' hP1
        walk_at "go"
        refine x_cut (fun σ H5 => Kq ul fl H3 H5 ∧ ∃ (C : List Nat) (us' : List Bool) (ps : List Str) (wo ha : Int) (ou : Bool) (u2 u7 u8 u9 : Option V), H5 ul = some (.lst (us'.map V.bl)) ∧ us'.length = S.feet.length ∧ (∀ p, p < S.feet.length → us'[p]? = some (decide (p ∈ C ++ U))) ∧ H5 fl = some (.lst xs) ∧ H5 pl = some (.lst (ps.map V.str)) ∧ ps.length = C.length ∧ (∀ x ∈ ps, PyData.canLay0 (.str x) = true) ∧
            ((C = [] ∧ i ∈ U) ∨ (C ≠ [] ∧ i ∈ C ∧ Rk.Cyc (fun p => Rk.prv S.feet.length (mtW S.feet p)) S.feet.length (C ++ U) (xs.length + 1))) ∧
            σ = [some (.ref o), some (.int (S.arm : Nat)), some (.int (S.mod : Nat)), some (.ref fa), some (.ref na), some (.ref q), some (.ref ul), some (.ref fl), some (.int (0 + (i : Int))), u2, some (.int ha), some (.int wo), some (.ref pl), some (.bl ou), u7, u8, u9]) ?_ ?_
        · walk_at "go"
          have hfa4 := kq1 _ _ nfu nff hO23
          walk_at "go"
          rw [List.length_map]
          refine w_forR1 (by omega) (by omega) (fun t σ H5 => Kq ul fl H3 H5 ∧ ∃ (C : List Nat) (pp : Nat) (us' : List Bool) (ps : List Str) (wo ha : Int) (ou : Bool) (u7 u8 u9 : Option V), H5 ul = some (.lst (us'.map V.bl)) ∧ us'.length = S.feet.length ∧ (∀ p, p < S.feet.length → us'[p]? = some (decide (p ∈ C ++ U))) ∧ H5 fl = some (.lst xs) ∧ H5 pl = some (.lst (ps.map V.str)) ∧ ps.length = C.length ∧ (∀ x ∈ ps, PyData.canLay0 (.str x) = true) ∧
              C.length = t ∧ Rk.Pth (fun p => Rk.prv S.feet.length (mtW S.feet p)) S.feet.length U C i pp ∧
              σ = [some (.ref o), some (.int (S.arm : Nat)), some (.int (S.mod : Nat)), some (.ref fa), some (.ref na), some (.ref q), some (.ref ul), some (.ref fl), some (.int (0 + (i : Int))), some (.int (pp : Nat)), some (.int ha), some (.int wo), some (.ref pl), some (.bl ou), u7, u8, u9])
            ⟨kq1, [], i, us, [], 0, 0, false, u7, u8, u9, hU1', hU2, hU3, hF1', hP1, rfl, fun x h => (by cases h), rfl, Rk.Pth.nil hC.nd hi, by rw [show (0 : Int) + (i : Int) = ((i : Nat) : Int) by omega]; rfl⟩ ?_ ?_
          · rintro t σ H5 ht ⟨kq5, C, pp, us', ps, wo, ha, ou, u7, u8, u9, g1, g2, g3, g4, g5, g6, g7, g8, g9, rfl⟩
            have hpp := g9.qlt
            have av : atI (us'.map V.bl) ((pp : Nat) : Int) = some (.bl (decide (pp ∈ C ++ U))) := atI_of (k := pp) rfl (by rw [List.getElem?_map, g3 pp hpp]; rfl)
            walk_at "go"
            refine x_iteD (fun hin => ?_) (fun hin => ?_)
            · walk_at "go"
              refine ⟨kq5, C, us', ps, wo, ha, ou, _, _, _, _, g1, g2, g3, g4, g5, g6, g7, ?_, rfl⟩
              cases C with
              | nil =>
                refine .inl ⟨rfl, ?_⟩
                have := Option.some.inj g9.start
                rw [← this]
                exact hin
              | cons c C =>
                refine .inr ⟨by simp, ?_, g9.close hC (fun a b ha hb e => Rk.Mate.inj (wd_of hK.wd) (mt_ok hK.wd) a b ha hb e) (by simp) hin⟩
                have := Option.some.inj g9.start
                rw [← this]
                exact List.mem_cons_self ..
            · have hnU : pp ∉ U := fun z => hin (List.mem_append_right _ z)
              have hnC : pp ∉ C := fun z => hin (List.mem_append_left _ z)
              obtain ⟨f1, f2, f3, f4, f5⟩ := mt_facts hK.wd hpp
              have hb : S.feet[pp]? = some S.feet[pp] := List.getElem?_eq_getElem hpp
              generalize S.feet[pp] = b at hb
              have hbm := List.mem_of_getElem? hb
              obtain ⟨z, gz⟩ := has_num hK hbm
              have an : atI (S.feet.map V.str) ((pp : Nat) : Int) = some (.str b) := atI_of (k := pp) rfl (by rw [List.getElem?_map, hb]; rfl)
              have a1 := am (k := pp) (z := ((pp : Nat) : Int)) rfl hpp
              have hq5 := kq5 _ _ nqu nqf hq3
              have hfa5 := kq5 _ _ nfu nff hO23
              have hna5 := kq5 _ _ nnu nnf hO33
              walk_at "go"
              refine x_setL (k := pp) g1 (ixN_of rfl (by rw [List.length_map, g2]; exact hpp)) ?_
              have g1' : upd H5 ul (.lst ((us'.map V.bl).set pp (.bl true))) ul = some (.lst ((us'.set pp true).map V.bl)) := by rw [upd_same, List.map_set]
              have g4' : upd H5 ul (.lst ((us'.map V.bl).set pp (.bl true))) fl = some (.lst xs) := by rw [upd_ne (Ne.symm nuf)]; exact g4
              have g5' : upd H5 ul (.lst ((us'.map V.bl).set pp (.bl true))) pl = some (.lst (ps.map V.str)) := by rw [upd_ne (Ne.symm npu)]; exact g5
              have hq6 : upd H5 ul (.lst ((us'.map V.bl).set pp (.bl true))) q = some (.lst (M.map fun m : Nat => V.int (m : Nat))) := by rw [upd_ne nqu]; exact hq5
              have hfa6 : upd H5 ul (.lst ((us'.map V.bl).set pp (.bl true))) fa = some (.lst (S.feet.map V.str)) := by rw [upd_ne nfu]; exact hfa5
              have hna6 : upd H5 ul (.lst ((us'.map V.bl).set pp (.bl true))) na = some (.dK (dD V.int S.nums)) := by rw [upd_ne nnu]; exact hna5
              have kq6 : Kq ul fl H3 (upd H5 ul (.lst ((us'.map V.bl).set pp (.bl true)))) := Kq.upd1 kq5
              revert g1' g4' g5' hq6 hfa6 hna6 kq6
              generalize upd H5 ul (.lst ((us'.map V.bl).set pp (.bl true))) = H6
              intro g1' g4' g5' hq6 hfa6 hna6 kq6
              walk_at "go"
              have hps : ps.length ≤ 400 := by
                have : C.length ≤ S.feet.length := by rw [g8]; omega
                omega
              have fin : ∀ (y : Str), PyData.canLay0 (.str y) = true → ∀ (H7 : Hp), H7 = upd H6 pl (.lst (ps.map V.str ++ [.str y])) → ∀ (wo ha : Int) (ou : Bool) (u8 u9 : Option V) (v : Int), v = (Rk.prv S.feet.length (mtW S.feet pp) : Nat) →
                  Kq ul fl H3 H7 ∧ ∃ (C : List Nat) (pp : Nat) (us' : List Bool) (ps : List Str) (wo' ha' : Int) (ou' : Bool) (u7 u8' u9' : Option V), H7 ul = some (.lst (us'.map V.bl)) ∧ us'.length = S.feet.length ∧ (∀ p, p < S.feet.length → us'[p]? = some (decide (p ∈ C ++ U))) ∧ H7 fl = some (.lst xs) ∧ H7 pl = some (.lst (ps.map V.str)) ∧ ps.length = C.length ∧ (∀ x ∈ ps, PyData.canLay0 (.str x) = true) ∧
                    C.length = t + 1 ∧ Rk.Pth (fun p => Rk.prv S.feet.length (mtW S.feet p)) S.feet.length U C i pp ∧
                    [some (.ref o), some (.int (S.arm : Nat)), some (.int (S.mod : Nat)), some (.ref fa), some (.ref na), some (.ref q), some (.ref ul), some (.ref fl), some (.int (0 + (i : Int))), some (.int v), some (.int ha), some (.int wo), some (.ref pl), some (.bl ou), some (.int (0 + (t : Int))), u8, u9] = [some (.ref o), some (.int (S.arm : Nat)), some (.int (S.mod : Nat)), some (.ref fa), some (.ref na), some (.ref q), some (.ref ul), some (.ref fl), some (.int (0 + (i : Int))), some (.int (pp : Nat)), some (.int ha'), some (.int wo'), some (.ref pl), some (.bl ou'), u7, u8', u9'] := by
                rintro y hy H7 rfl wo ha ou u8 u9 v rfl
                refine ⟨Kq.mutn kq6 hpl3, C ++ [pp], Rk.prv S.feet.length (mtW S.feet pp), us'.set pp true, ps ++ [y], wo, ha, ou, _, _, _, ?_, by rw [List.length_set]; exact g2, fun p hp => ?_, ?_, by rw [upd_same, List.map_append]; rfl, by rw [List.length_append, List.length_append, g6]; rfl, fun x hx => ?_, by rw [List.length_append, g8]; rfl, g9.snoc hnU hnC (Rk.prv_lt f1), rfl⟩
                · rw [upd_ne npu]; exact g1'
                · rw [List.getElem?_set, g2]
                  by_cases e : pp = p
                  · rw [if_pos e, if_pos (by omega), ← e, decide_eq_true (by simp)]
                  · rw [if_neg e, g3 p hp]
                    congr 1
                    refine decide_eq_decide.mpr ?_
                    simp only [List.mem_append, List.mem_singleton]
                    constructor
                    · rintro (h | h)
                      · exact .inl (.inl h)
                      · exact .inr h
                    · rintro ((h | h) | h)
                      · exact .inl h
                      · exact (e h.symm).elim
                      · exact .inr h
                · rw [upd_ne npf]; exact g4'
                · rcases List.mem_append.mp hx with h | h
                  · exact g7 x h
                  · rw [List.mem_singleton.mp h]; exact hy
              have hb1 := isname_ok (hK.wd.nm b hbm)
              obtain ⟨hm1, hmk⟩ := minus_ok (hK.wd.nm b hbm)
              have hlb : b.length ≤ 3 := by
                obtain ⟨c, ds, e, _, _, h3, _⟩ := hK.wd.nm b hbm
                rw [e, SX.S_len, List.length_cons]; omega
              have hpv : ∀ v : Int, (if 0 < mtW S.feet pp then v = ((mtW S.feet pp : Nat) : Int) - 1 else v = ((S.feet.length : Nat) : Int) - 1) → v = (Rk.prv S.feet.length (mtW S.feet pp) : Nat) := fun v hv => by
                unfold Rk.prv
                by_cases e : mtW S.feet pp = 0
                · rw [if_neg (by omega)] at hv
                  rw [if_pos e]; omega
                · rw [if_pos (by omega)] at hv
                  rw [if_neg e]; omega
              have nfp : fa ≠ pl := ne_of_none (kq _ _ nfu nff hO23) hpl
              have nnp : na ≠ pl := ne_of_none (kq _ _ nnu nnf hO33) hpl
              have hlen : (ps.map V.str).length < sizeLine := by rw [List.length_map]; exact Nat.lt_of_le_of_lt (show _ ≤ 400 by omega) (by decide)
              have hna7 : ∀ {o : HO}, (upd H6 pl o) na = some (.dK (dD V.int S.nums)) := fun {o} => by rw [upd_ne nnp]; exact hna6
              have hfa7 : ∀ {o : HO}, (upd H6 pl o) fa = some (.lst (S.feet.map V.str)) := fun {o} => by rw [upd_ne nfp]; exact hfa6
              have hL : ((S.feet.map V.str).length : Int) - 1 = ((S.feet.length : Nat) : Int) - 1 := by rw [List.length_map]
              cases ou
              all_goals
                refine x_iteD (fun hA => ?_) (fun hA => ?_)
                · walk_at "go"
                  refine x_append g5' hlen ?_
                  have hna8 := hna7 (o := .lst (ps.map V.str ++ [.str b]))
                  have hfa8 := hfa7 (o := .lst (ps.map V.str ++ [.str b]))
                  walk_at "go"
                  refine x_iteDT hA ?_
                  walk_at "go"
                  refine x_dgetS (v := .int z) (.inl hna8) (by rw [valV_dD, gz]; rfl) ?_
                  walk_at "go"
                  refine x_iteDT hA ?_
                  walk_at "go"
                  refine x_iteD (fun hZ => ?_) (fun hZ => ?_)
                  all_goals
                    walk_at "go"
                    refine x_iteD (fun hF => ?_) (fun hF => ?_)
                    · walk_at "go"
                      exact fin _ hb1 _ rfl _ _ _ _ _ _ (hpv _ (by rw [if_pos (by omega)]))
                    · walk_at "go"
                      exact fin _ hb1 _ rfl _ _ _ _ _ _ (hpv _ (by rw [if_neg (by omega)]; exact hL))
                · walk_at "go"
                  refine x_addS (by show 1 + _ ≤ _; exact Nat.le_trans (show _ ≤ 4 by omega) (by decide)) ?_
                  walk_at "go"
                  refine x_append g5' hlen ?_
                  have hna8 := hna7 (o := .lst (ps.map V.str ++ [.str ("-" ++ b)]))
                  have hfa8 := hfa7 (o := .lst (ps.map V.str ++ [.str ("-" ++ b)]))
                  walk_at "go"
                  refine x_iteDF hA ?_
                  walk_at "go"
                  refine x_dgetS (v := .int z) (.inl hna8) (by rw [valV_dD, gz]; rfl) ?_
                  walk_at "go"
                  refine x_iteDF hA ?_
                  walk_at "go"
                  refine x_iteD (fun hZ => ?_) (fun hZ => ?_)
                  all_goals
                    walk_at "go"
                    refine x_iteD (fun hF => ?_) (fun hF => ?_)
                    · walk_at "go"
                      exact fin _ hmk _ rfl _ _ _ _ _ _ (hpv _ (by rw [if_pos (by omega)]))
                    · walk_at "go"
                      exact fin _ hmk _ rfl _ _ _ _ _ _ (hpv _ (by rw [if_neg (by omega)]; exact hL))
          · rintro σ H5 ⟨kq5, C, pp, us', ps, wo, ha, ou, u7, u8, u9, g1, g2, g3, g4, g5, g6, g7, g8, g9, rfl⟩
            rw [Int.toNat_natCast] at g8
            have hpp := g9.qlt
            have hall : ∀ p, p < S.feet.length → p ∈ C := fun p hp => sub_range (List.nodup_append.mp g9.nd).1 g9.lt (by omega) p hp
            have hCn : C ≠ [] := fun e => by rw [e] at g8; exact absurd g8 (by show ¬(0 = _); omega)
            refine ⟨kq5, C, us', ps, wo, ha, ou, _, _, _, _, g1, g2, g3, g4, g5, g6, g7, .inr ⟨hCn, hall i hi, ?_⟩, rfl⟩
            exact g9.close hC (fun a b ha hb e => Rk.Mate.inj (wd_of hK.wd) (mt_ok hK.wd) a b ha hb e) hCn (List.mem_append_left _ (hall pp hpp))
        · rintro σ H5 ⟨kq5, C, us', ps, wo, ha, ou, u2, u7, u8, u9, g1, g2, g3, g4, g5, g6, g7, g8, rfl⟩
          walk_at "go"
          refine ⟨Nat.zero_le _, fun q5 hq5 => ?_⟩
          walk_at "go"
          refine x_neNilT (l := ps) (SqL.of (upd_old hq5 g5)) (SqL.of upd_same) g7 ?_
          walk_at "go"
          have h5 : H3 q5 = none := kq5.free g1 g4 hq5
          have kq6 : Kq ul fl H3 (upd H5 q5 (.lst [])) := Kq.mutn kq5 h5
          have g1' := upd_old (o := HO.lst []) hq5 g1
          have g4' := upd_old (o := HO.lst []) hq5 g4
          revert kq6 g1' g4'
          generalize upd H5 q5 (.lst []) = H6
          intro kq6 g1' g4'
          have cov : ∀ p, p < i + 1 → p ∈ C ++ U := fun p hp => by
            rcases Nat.lt_or_ge p i with l | l
            · exact List.mem_append_right _ (hcov p l)
            · have : p = i := by omega
              rw [this]
              rcases g8 with ⟨_, h⟩ | ⟨_, h, _⟩
              · exact List.mem_append_right _ h
              · exact List.mem_append_left _ h
          refine x_iteN (fun hne => ?_) (fun he2 => ?_)
          · walk_at "go"
            refine ⟨S.mod, _, rfl, by omega, ?_⟩
            walk_at "go"
            refine ⟨by show 3 ≤ sizeLine; decide, fun q6 hq6 => ?_⟩
            walk_at "go"
            have nf6 : fl ≠ q6 := ne_of_none g4' hq6
            have nu6 : ul ≠ q6 := ne_of_none g1' hq6
            have h6 : H3 q6 = none := kq6.free g1' g4' hq6
            refine x_append (xs := xs) (by rw [upd_ne nf6]; exact g4') (Nat.lt_of_le_of_lt (show _ ≤ 400 by omega) (by decide)) ?_
            have hC2 : C ≠ [] := fun e => hne (List.eq_nil_of_length_eq_zero (by rw [g6, e]; rfl))
            have hC3 : Rk.Cyc (fun p => Rk.prv S.feet.length (mtW S.feet p)) S.feet.length (C ++ U) (xs.length + 1) := (g8.resolve_left fun z => hC2 z.1).2.2
            refine ⟨Kq.upd2 (Kq.mutn kq6 h6), C ++ U, us', _, _, _, _, _, _, _, _, _, _, ?_, g2, g3, upd_same, by rw [List.length_append, List.length_singleton]; omega, by rw [List.length_append, List.length_singleton]; exact hC3, cov, rfl⟩
            rw [upd_ne nuf, upd_ne nu6]
            exact g1'
          · walk_at "go"
            have hC2 : C = [] := List.eq_nil_of_length_eq_zero (by rw [← g6, he2]; rfl)
            subst hC2
            exact ⟨kq6, U, us', xs, _, _, _, _, _, _, _, _, _, g1', g2, g3, g4', by omega, hC, cov, rfl⟩
      · rintro σ H' ⟨kq, U, us, xs, u1, u2, u3, u4, u5, u6, u7, u8, u9, hU1, hU2, hU3, hF1, hF2, hC, hcov, rfl⟩
        rw [Int.toNat_natCast] at hcov
        walk_at "go"
        exact k fl xs H' hfl0 (kq.new s13 hul0 hfl0) hF1 (.inr ⟨he, U, hC, hcov⟩)
/-- whether there is a balance -/
def hasB (arm mod e : Nat) : Bool := decide (((arm : Int) / (e : Int)) % 2 = 1) && decide (((mod : Int) / (e : Int)) % 2 = 0)
def spHasB (K : PySem.W.Frag) : Sp := fun vs H Q _ => ∃ (a : Addr) (arm mod e : Nat), vs = [.ref a, .int e] ∧ BookAt K H a arm mod ∧ 1 ≤ e ∧ e ≤ 1000 ∧ Q (.bl (hasB arm mod e)) H
theorem ok_hasb (B : Bi K mg) (F : FnP K "_has_balance" st_has_balance f fd) : FnOk P w K mg base CX0 1 f fd ["book", "share"] (spHasB K) := by
  refine F.ok sc_has_balance (fun vs H Q E h => ?_) (fun cdv A outer s H vs Q E hr h => ?_)
  · obtain ⟨a, arm, mod, e, rfl, _⟩ := h
    rfl
  · obtain ⟨a, arm, mod, e, rfl, ⟨dx, hb⟩, he1, he2, k⟩ := h
    have G := B
    have cB := G.cls_Book
    have b1 := G.na_Book_arms
    have b2 := G.na_Book_modulus
    refine ⟨_, PSs.nox ((pss_one (ps_ret (pe_and (pe_cmpR op_eq (pe_op op_mod (pe_op op_fdiv (pe_fld (pv 0) (by rfl)) (pv 1)) pe_int) pe_int (nomark _)) (pe_one (pe_cmpR op_eq (pe_op op_mod (pe_op op_fdiv (pe_fld (pv 0) (by rfl)) (pv 1)) pe_int) pe_int (nomark _))))))), ?_⟩
    try dsimp only [cxOf]
    unfold hasB at k
    walk_at "go"
    refine x_iteD (fun h => ?_) (fun h => ?_)
    · rw [decide_eq_true h] at k
      walk_at "go"
      exact k
    · rw [decide_eq_false h] at k
      exact k
theorem share_le {arm mod : Nat} {told : List (Str × Int)} (h : 1 ≤ arm) : 1 ≤ shareZ arm mod told ∧ shareZ arm mod told ≤ arm := by
  have h1 := (dvd_shareZ (d := shareZ arm mod told) (arm := arm) (mod := mod) (l := told)).mp ((dvd_gcdZ _ _).mp (Nat.dvd_refl _))
  have h2 : shareZ arm mod told ∣ arm := Int.ofNat_dvd.mp h1.1
  exact ⟨Nat.pos_of_dvd_of_pos h2 h, Nat.le_of_dvd h h2⟩
def lowsW (w : List Str) : List Nat := (tabW w).map fun row => Rk.mk row.reverse
def spMasks (K : PySem.W.Frag) : Sp := fun vs H Q _ => ∃ (a : Addr) (arm mod : Nat) (feet : List Str) (told : List (Str × Int)), vs = [.ref a] ∧ SheetAt K H a arm mod feet told ∧ IsWord feet ∧ feet.length ≤ 900 ∧ ∀ p H', H p = none → Same H H' → H' p = some (.lst ((lowsW feet).map fun m : Nat => V.int (m : Nat))) → Q (.ref p) H'
theorem ok_masks (B : Bi K mg) (c_mask_of : C8.Cal P w K mg base 1 "mask_of" (spMaskOf K) []) (c_crossing_table : C8.Cal P w K mg base 2 "crossing_table" (spTable K) []) (F : FnP K "_masks_of" st_masks_of f fd) : FnOk P w K mg base CX0 3 f fd ["sheet"] (spMasks K) := by
  refine F.ok sc_masks_of (fun vs H Q E h => ?_) (fun cdv A outer s H vs Q E hr h => ?_)
  · obtain ⟨a, arm, mod, feet, told, rfl, _⟩ := h
    rfl
  · obtain ⟨a, arm, mod, feet, told, rfl, hS, hW, hl, k⟩ := h
    have G := B
    refine ⟨_, PSs.nox ((pss_one (ps_ret (pe_lc (own := [("row", 1)]) rfl sc_masks_of.nd (pi_list (C8.pe_c c_crossing_table hr (by decide) rfl (pa_cons (pv 0) pa_nil))) (blkOk_by (own := [("row", 1)]) (N := ["sheet", "row"]) (sc := defScope st_masks_of) (by decide +kernel)) (fun _ _ _ _ _ => (pg_name (i := 1) sc_masks_of.nd rfl (Or.inl rfl))) (fun _ _ _ _ _ => pts_nil) (fun _ _ _ _ _ => (C8.pe_c c_mask_of hr (by decide) rfl (pa_cons (pv 1) pa_nil))))))), ?_⟩
    try dsimp only [cxOf]
    walk_at "go"
    refine ⟨a, arm, mod, feet, told, rfl, hS, hW, hl, fun t H1 ht0 s1 hT => ?_⟩
    obtain ⟨rs, h1, h2, h3⟩ := hT.ex
    have hbl : (tabW feet).length ≤ 900 := by rw [tabW_len]; exact Nat.le_trans (bandsOf_len _) hl
    walk_at "go"
    refine w_lcL (xs := rs.map V.ref) (SqL.of h1) (by rw [List.length_map]; exact Nat.lt_of_le_of_lt (show _ ≤ 900 by omega) (by decide)) (fun i acc => acc = ((lowsW feet).map fun m : Nat => V.int (m : Nat)).take i) rfl ?_ ?_
    · rintro i x H' acc hi s' rfl hai R S2 hR hS2
      rw [List.getElem?_map] at hi
      obtain ⟨r, hr, rfl⟩ := Option.map_eq_some_iff.mp hi
      have hil : i < rs.length := (List.getElem?_eq_some_iff.mp hr).1
      have hrow : (tabW feet)[i]? = some ((tabW feet)[i]'(by omega)) := List.getElem?_eq_getElem (by omega)
      generalize (tabW feet)[i]'(by omega) = row at hrow
      have hr1 := h3 i r row hr hrow
      walk_at "go"
      refine ⟨rfl, ?_⟩
      walk_at "go"
      refine ⟨r, row, rfl, SqL.of (s' _ _ hr1), fun H2 s2 => hR _ _ s2 ?_⟩
      rw [take_snoc (show ((lowsW feet).map fun m : Nat => V.int (m : Nat))[i]? = some (.int (Rk.mk row.reverse : Nat)) by unfold lowsW; rw [List.getElem?_map, List.getElem?_map, hrow]; rfl)]
    · rintro p H' acc hp s' hp' rfl
      rw [List.length_map, List.take_of_length_le (by rw [List.length_map]; unfold lowsW; rw [List.length_map]; omega)] at hp'
      exact k p H' (Same.free s1 hp) (Same.trans s1 s') hp'
def spOdds (K : PySem.W.Frag) : Sp := fun vs H Q _ => ∃ (a : Addr) (arm mod : Nat) (feet : List Str) (told : List (Str × Int)) (e : Nat), vs = [.ref a, .int e] ∧ SheetAt K H a arm mod feet told ∧ feet.length ≤ 900 ∧ 1 ≤ e ∧ e ≤ 1000 ∧ ∀ p H', H p = none → Same H H' → H' p = some (.lst (((bandsOf feet).map (oddN e told)).map bV)) → Q (.ref p) H'
theorem ok_odds (B : Bi K mg) (m_Sheet_number : C8.Met P w K mg base 1 (He.ga K "Sheet") "number" (spNumber K) []) (F : FnP K "_odds_of" st_odds_of f fd) : FnOk P w K mg base CX0 2 f fd ["sheet", "share"] (spOdds K) := by
  refine F.ok sc_odds_of (fun vs H Q E h => ?_) (fun cdv A outer s H vs Q E hr h => ?_)
  · obtain ⟨a, arm, mod, feet, told, e, rfl, _⟩ := h
    rfl
  · obtain ⟨a, arm, mod, feet, told, e, rfl, hS, hl, he1, he2, k⟩ := h
    have G := B
    have cS := G.cls_Sheet
    have n4 := G.na_Sheet_bands
    obtain ⟨dx, bk, wd, ft, bs, td, h1, h2, h3, h4, h5, h6⟩ := hS.ex
    have hbl : (bandsOf feet).length ≤ 900 := Nat.le_trans (bandsOf_len _) hl
    refine ⟨_, PSs.nox ((pss_one (ps_ret (pe_lc (own := [("band", 2)]) rfl sc_odds_of.nd (pi_tup (pe_fld (pv 0) (by rfl))) (blkOk_by (own := [("band", 2)]) (N := ["sheet", "share", "band"]) (sc := defScope st_odds_of) (by decide +kernel)) (fun _ _ _ _ _ => (pg_name (i := 2) sc_odds_of.nd rfl (Or.inl rfl))) (fun _ _ _ _ _ => pts_nil) (fun _ _ _ _ _ => (pe_op op_mod (pe_op op_fdiv (C8.pe_mt m_Sheet_number hr (by decide) (pv 0) (pa_cons (pv 2) pa_nil)) (pv 1)) pe_int)))))), ?_⟩
    try dsimp only [cxOf]
    walk_at "go"
    refine w_lcT (xs := (bandsOf feet).map V.str) h5 (by rw [List.length_map]; exact Nat.lt_of_le_of_lt hbl (by decide)) (fun i acc => acc = (((bandsOf feet).map (oddN e told)).map bV).take i) rfl ?_ ?_
    · rintro i x H' acc hi s' rfl hai R S2 hR _
      obtain ⟨b, rfl, hb⟩ := str_at hi
      obtain ⟨z, hz1, hz2, hz3⟩ := told_snoc hS.tk (nodup_bandsOf feet) hb
      walk_at "go"
      refine ⟨rfl, ?_⟩
      walk_at "go"
      refine ⟨a, arm, mod, feet, told, b, z, rfl, hS.same s', hz2, ?_⟩
      walk_at "go"
      refine hR _ _ (Same.refl _) ?_
      have ho : (z / (e : Int)) % 2 = (((oddN e told b).toNat : Nat) : Int) := by
        unfold oddN
        rw [hz2]
        show (z / (e : Int)) % 2 = (((decide ((z / (e : Int)) % 2 = 1)).toNat : Nat) : Int)
        by_cases c : (z / (e : Int)) % 2 = 1
        · rw [decide_eq_true c, c]; rfl
        · rw [decide_eq_false c]
          show _ = (0 : Int)
          omega
      rw [ho, take_snoc (show (((bandsOf feet).map (oddN e told)).map bV)[i]? = some (bV (oddN e told b)) by rw [List.getElem?_map, List.getElem?_map, hb]; rfl)]
      rfl
    · rintro p H' acc hp s' hp' rfl
      rw [List.length_map, List.take_of_length_le (by rw [List.length_map, List.length_map]; exact Nat.le_refl _)] at hp'
      exact k p H' hp s' hp'
theorem am_low {w : List Str} {i j : Nat} {a b : Str} (ha : (bandsOf w)[i]? = some a) (hb : (bandsOf w)[j]? = some b) : Am (lowsW w) i j = Rk.cr w a b := by
  unfold Am
  have e : (lowsW w).getD i 0 = Rk.mk (Rk.rowB (Rk.cr w) (bandsOf w) a).reverse := by
    rw [List.getD_eq_getElem?_getD]
    unfold lowsW tabW
    rw [List.getElem?_map, List.getElem?_map, ha]; rfl
  rw [e, Rk.mk_bit, Rk.row_at, hb]; rfl
theorem band_at {w : List Str} {i : Nat} (h : i < (bandsOf w).length) : (bandsOf w)[i]? = some ((bandsOf w).getD i "") := getD_at h
theorem range_bands (w : List Str) : (List.range (bandsOf w).length).map (fun i => (bandsOf w).getD i "") = bandsOf w := by
  refine List.ext_getElem? fun i => ?_
  rw [List.getElem?_map]
  by_cases h : i < (bandsOf w).length
  · rw [List.getElem?_range h]
    show some ((bandsOf w).getD i "") = _
    rw [band_at h]
  · rw [List.getElem?_eq_none (by rw [List.length_range]; omega), List.getElem?_eq_none (by omega)]; rfl
/-- sums by places are sums by names -/
theorem gs_idx {w : List Str} {A : Nat → Nat → Bool} {cs : Nat → Bool} {c : Str → Bool} (hA : ∀ i j a b, (bandsOf w)[i]? = some a → (bandsOf w)[j]? = some b → A i j = Rk.cr w a b) (hc : ∀ i a, (bandsOf w)[i]? = some a → cs i = c a) : Rk.gs A (List.range (bandsOf w).length) cs = LotS w c := by
  unfold LotS
  have e := Rk.gs_map (Rk.cr w) (fun i => (bandsOf w).getD i "") (l := List.range (bandsOf w).length) List.nodup_range (fun i hi j hj h => nodup_inj (nodup_bandsOf w) (band_at (List.mem_range.mp hi)) (by rw [band_at (List.mem_range.mp hj)]; exact congrArg some h.symm)) c
  rw [range_bands] at e
  rw [e]
  exact Rk.gs_congr (fun i hi j hj => hA i j _ _ (band_at (List.mem_range.mp hi)) (band_at (List.mem_range.mp hj))) fun i hi => hc i _ (band_at (List.mem_range.mp hi))
def spBands (K : PySem.W.Frag) : Sp := fun vs H Q _ => ∃ (p : Addr) (feet : List Str), vs = [.ref p] ∧ H p = some (.lst (feet.map V.str)) ∧ IsWord feet ∧ feet.length ≤ 1000 ∧ ∀ (q : Addr) H', H q = none → Same H H' → H' q = some (.lst ((bandsOf feet).map V.str)) → Q (.ref q) H'
theorem ok_bands (B : Bi K mg) (c_l_mates : C8.Cal P w K mg base 1 "_law_mates" (spMates K) []) (F : FnP K "_law_bands" st_l_bands f fd) : FnOk P w K mg base CX0 2 f fd ["feet"] (spBands K) := by
  refine F.ok sc_l_bands (fun vs H Q E h => ?_) (fun cdv A outer s H vs Q E hr h => ?_)
  · obtain ⟨p, feet, rfl, _⟩ := h
    rfl
  · obtain ⟨p, feet, rfl, hp, hW, hl, k⟩ := h
    have G := B
    refine ⟨_, PSs.nox ((pss_cons (ps_set (i := 1) sc_l_bands.nd rfl (Or.inr rfl) (C8.pe_c c_l_mates hr (by decide) rfl (pa_cons (pv 0) pa_nil)))
      (pss_one (ps_ret (pe_lc (own := [("k", 2)]) rfl sc_l_bands.nd (pi_range1 (by rfl) G.range (pa_cons (pe_callB callLenS (by rfl) G.len PySem.boot_len (pa_cons (pv 0) pa_nil)) pa_nil)) (blkOk_by (own := [("k", 2)]) (N := ["feet", "mates", "k"]) (sc := defScope st_l_bands) (by decide +kernel)) (fun _ _ _ _ _ => (pg_name (i := 2) sc_l_bands.nd rfl (Or.inl rfl))) (fun _ _ _ _ _ => (pts_one (pt_cmpR op_gt (pe_ix (ix_listK (K := K) rfl) (pv 1) (pv 2) (fun _ _ => rfl)) (pv 2) (nomark _)))) (fun _ _ _ _ _ => (pe_ix (ix_listK (K := K) rfl) (pv 0) (pv 2) (fun _ _ => rfl)))))))), ?_⟩
    try dsimp only [cxOf]
    walk_at "go"
    refine ⟨p, feet, rfl, hp, hW, hl, fun q M H1 hq0 s1 hq hMl hMt => ?_⟩
    have hp1 := s1 _ _ hp
    walk_at "go"
    rw [List.length_map]
    refine w_lcR1 (by omega) (by omega) (by rw [Int.toNat_natCast]; exact Nat.lt_of_le_of_lt hl (by decide)) (fun i acc => acc = (bandsOf (feet.take i)).map V.str) rfl ?_ ?_
    · rintro i H' acc hi s' rfl hai R S2 hR hS2
      have hi : i < feet.length := by omega
      have hp' := s' _ _ hp1
      have hq' := s' _ _ hq
      have hb : feet[i]? = some feet[i] := List.getElem?_eq_getElem hi
      generalize feet[i] = b at hb
      have hn := pl_new hW hb
      have an : atI (feet.map V.str) (0 + (i : Int)) = some (.str b) := atI_of (k := i) (by omega) (by rw [List.getElem?_map, hb]; rfl)
      have am : atI (M.map fun m : Nat => V.int (m : Nat)) (0 + (i : Int)) = some (.int (mtW feet i : Nat)) := atI_of (k := i) (by omega) (by rw [List.getElem?_map, hMt i hi]; rfl)
      walk_at "go"
      refine ⟨rfl, ?_⟩
      walk_at "go"
      refine x_iteD (fun h => ?_) (fun h => ?_)
      · walk_at "go"
        refine hR _ _ (Same.refl _) ?_
        rw [take_snoc hb, bandsOf_snoc, if_neg fun z => hn.mp (by omega) ((mem_bandsOf _ _).mp z), List.map_append]
        rfl
      · refine hS2 _ (Same.refl _) ?_
        rw [take_snoc hb, bandsOf_snoc, if_pos ((mem_bandsOf _ _).mpr (Classical.byContradiction fun z => h (by have := hn.mpr z; omega)))]
    · rintro r H' acc hr s' hr' rfl
      rw [Int.toNat_natCast, List.take_length] at hr'
      exact k r H' (Same.free s1 hr) (Same.trans s1 s') hr'
theorem x_isNn2 {K : PySem.W.Frag} {H : Hp} {Q : VK} (h : Q (.bl false) H) : rIsi K [.non, .ty "int"] H Q := x_isTy .non (kit_ty (by decide +kernel)) h
theorem x_isNb {K : PySem.W.Frag} {H : Hp} {Q : VK} (h : Q (.bl false) H) : rIsi K [.non, .ty "bool"] H Q := x_isTy .non (kit_ty (by decide +kernel)) h
theorem x_isNl {K : PySem.W.Frag} {H : Hp} {Q : VK} (h : Q (.bl false) H) : rIsi K [.non, .ty "list"] H Q := x_isTy .non (kit_ty (by decide +kernel)) h
theorem x_isNt {K : PySem.W.Frag} {H : Hp} {Q : VK} (h : Q (.bl false) H) : rIsi K [.non, .ty "tuple"] H Q := x_isTy .non (kit_ty (by decide +kernel)) h
theorem x_isNd {K : PySem.W.Frag} {H : Hp} {Q : VK} (h : Q (.bl false) H) : rIsi K [.non, .ty "dict"] H Q := x_isTy .non (kit_ty (by decide +kernel)) h
def oV : Option Int → V
  | none => .non
  | some i => .int i
def spLikeO : Sp := fun vs H Q _ => ∃ i j : Option Int, vs = [oV i, oV j] ∧ Q (.bl (decide (i = j))) H
theorem ok_likeO (B : Bi K mg) (F : FnP K "_law_like" st_l_like f fd) : FnOk P w K mg base CX0 1 f fd ["told", "due"] spLikeO := by
  refine F.ok sc_l_like (fun vs H Q E h => ?_) (fun cdv A outer s H vs Q E hr h => ?_)
  · obtain ⟨i, j, rfl, _⟩ := h
    rfl
  · obtain ⟨i, j, rfl, k⟩ := h
    have G := B
    refine ⟨_, PSs.nox ((pss_cons (ps_if (PW.pt (pw_or (pt_val (pe_callB call_isi (by rfl) G.isinstance (by decide +kernel) (pa_cons (pv 1) (pa_cons (pe_bltn (v := .ty "list") (u := .type "list") (by rfl) G.list (by decide +kernel) rfl) pa_nil)))) (pw_or1 (pt_val (pe_callB call_isi (by rfl) G.isinstance (by decide +kernel) (pa_cons (pv 1) (pa_cons (pe_bltn (v := .ty "tuple") (u := .type "tuple") (by rfl) G.tuple (by decide +kernel) rfl) pa_nil)))))))
        (pss_cons ps_never
        (pss_one ps_never))
        pss_nil)
      (pss_cons (ps_if (pt_val (pe_callB call_isi (by rfl) G.isinstance (by decide +kernel) (pa_cons (pv 1) (pa_cons (pe_bltn (v := .ty "dict") (u := .type "dict") (by rfl) G.dict (by decide +kernel) rfl) pa_nil))))
        (pss_cons ps_never
        (pss_one ps_never))
        pss_nil)
      (pss_cons (ps_if (PW.pt (pw_or (pt_cmpR op_ne (pe_callB call_isi (by rfl) G.isinstance (by decide +kernel) (pa_cons (pv 0) (pa_cons (pe_bltn (v := .ty "bool") (u := .type "bool") (by rfl) G.bool (by decide +kernel) rfl) pa_nil))) (pe_callB call_isi (by rfl) G.isinstance (by decide +kernel) (pa_cons (pv 1) (pa_cons (pe_bltn (v := .ty "bool") (u := .type "bool") (by rfl) G.bool (by decide +kernel) rfl) pa_nil))) (nomark _)) (pw_or1 (pt_cmpR op_ne (pe_callB call_isi (by rfl) G.isinstance (by decide +kernel) (pa_cons (pv 0) (pa_cons (pe_bltn (v := .ty "int") (u := .type "int") (by rfl) G.int (by decide +kernel) rfl) pa_nil))) (pe_callB call_isi (by rfl) G.isinstance (by decide +kernel) (pa_cons (pv 1) (pa_cons (pe_bltn (v := .ty "int") (u := .type "int") (by rfl) G.int (by decide +kernel) rfl) pa_nil))) (nomark _)))))
        (pss_one (ps_ret pe_bl))
        pss_nil)
      (pss_one (ps_ret (pe_ifExp (pt_cmpR op_isNn (pv 1) pe_non (nomark _)) (pe_cmpR op_isNn (pv 0) pe_non (nomark _)) (pe_and (pe_cmpR op_eq (pe_callB call_isi (by rfl) G.isinstance (by decide +kernel) (pa_cons (pv 0) (pa_cons (pe_bltn (v := .ty "str") (u := .type "str") (by rfl) G.str (by decide +kernel) rfl) pa_nil))) (pe_callB call_isi (by rfl) G.isinstance (by decide +kernel) (pa_cons (pv 1) (pa_cons (pe_bltn (v := .ty "str") (u := .type "str") (by rfl) G.str (by decide +kernel) rfl) pa_nil))) (nomark _)) (pe_one (pe_cmpR op_eq (pv 0) (pv 1) (nomark _))))))))))), ?_⟩
    try dsimp only [cxOf]
    cases j with
    | none =>
      cases i with
      | none =>
        rw [decide_eq_true rfl] at k
        dsimp only [oV]
        walk_at "go"
        refine x_isNl ?_
        walk_at "go"
        refine x_isNt ?_
        walk_at "go"
        refine x_isNd ?_
        walk_at "go"
        refine x_isNb ?_
        walk_at "go"
        refine x_isNb ?_
        walk_at "go"
        rw [decide_eq_true rfl]
        walk_at "go"
        refine x_isNn2 ?_
        walk_at "go"
        refine x_isNn2 ?_
        walk_at "go"
        rw [decide_eq_true rfl]
        walk_at "go"
        rw [decide_eq_true rfl]
        walk_at "go"
        rw [decide_eq_true rfl]
        exact k
      | some i =>
        rw [decide_eq_false (show ¬((some i : Option Int) = none) from fun z => by cases z)] at k
        dsimp only [oV]
        walk_at "go"
        refine x_isNl ?_
        walk_at "go"
        refine x_isNt ?_
        walk_at "go"
        refine x_isNd ?_
        walk_at "go"
        refine x_isNb ?_
        walk_at "go"
        rw [decide_eq_true rfl]
        walk_at "go"
        refine x_isNn2 ?_
        walk_at "go"
        rw [decide_eq_false (show ¬(true = false) from fun z => by cases z)]
        walk_at "go"
        exact k
    | some j =>
      cases i with
      | none =>
        rw [decide_eq_false (show ¬((none : Option Int) = some j) from fun z => by cases z)] at k
        dsimp only [oV]
        walk_at "go"
        refine x_isNb ?_
        walk_at "go"
        rw [decide_eq_true rfl]
        walk_at "go"
        refine x_isNn2 ?_
        walk_at "go"
        rw [decide_eq_false (show ¬(false = true) from fun z => by cases z)]
        walk_at "go"
        exact k
      | some i =>
        have e : decide ((some i : Option Int) = some j) = decide (i = j) := decide_eq_decide.mpr ⟨fun z => Option.some.inj z, fun z => by rw [z]⟩
        rw [e] at k
        dsimp only [oV]
        walk_at "go"
        rw [decide_eq_true rfl]
        walk_at "go"
        rw [decide_eq_true rfl]
        walk_at "go"
        rw [decide_eq_false (fun z => by cases z)]
        walk_at "go"
        rw [decide_eq_true rfl]
        walk_at "go"
        exact k
def Tm (T : List (List Bool)) (i j : Nat) : Bool := (T.getD i []).getD j false
def spSums (K : PySem.W.Frag) : Sp := fun vs H Q _ => ∃ (bp tp : Addr) (cs : List Bool) (T : List (List Bool)), vs = [.ref bp, .ref tp] ∧ H bp = some (.lst (cs.map bV)) ∧ TblAt K H tp T ∧ T.length = cs.length ∧ cs.length ≤ 16 ∧ (∀ row ∈ T, row.length = cs.length) ∧ ∀ q H', H q = none → Same H H' → H' q = some (.lst ((Rk.sumsL (Tm T) (Cm cs) cs.length).map bV)) → Q (.ref q) H'
theorem pow16 {n : Nat} (h : n ≤ 16) : 2 ^ n ≤ 65536 := Nat.pow_le_pow_right (n := 2) (by omega) h
theorem ok_sums (B : Bi K mg) (F : FnP K "_law_sums" st_l_sums f fd) : FnOk P w K mg base CX0 1 f fd ["bits", "table"] (spSums K) := by
  refine F.ok sc_l_sums (fun vs H Q E h => ?_) (fun cdv A outer s H vs Q E hr h => ?_)
  · obtain ⟨bp, tp, cs, T, rfl, _⟩ := h
    rfl
  · obtain ⟨bp, tp, cs, T, rfl, hb, hT, hTl, hn, hrow, kk⟩ := h
    have G := B
    obtain ⟨rs, hT1, hT2, hT3⟩ := hT.ex
    refine ⟨_, PSs.nox ((pss_cons (ps_set (i := 2) sc_l_sums.nd rfl (Or.inr rfl) (pe_lst (pa_cons pe_int pa_nil)))
      (pss_cons (ps_for PassesOwn.never rfl (pi_range1 (by rfl) G.range (pa_cons (pe_callB callLenS (by rfl) G.len PySem.boot_len (pa_cons (pv 0) pa_nil)) pa_nil)) (pg_name (i := 3) sc_l_sums.nd rfl (Or.inr rfl))
        (pss_cons (ps_set (i := 4) sc_l_sums.nd rfl (Or.inr rfl) (pe_lst (pa_cons (pe_ix ix_list (pv 0) (pv 3) (fun _ _ => rfl)) pa_nil)))
        (pss_cons (ps_for PassesOwn.never rfl (pi_range1 (by rfl) G.range (pa_cons (pv 3) pa_nil)) (pg_name (i := 5) sc_l_sums.nd rfl (Or.inr rfl))
          (pss_one (ps_set (i := 4) sc_l_sums.nd rfl (Or.inr rfl) (pe_op op_cat (pv 4) (pe_lc (own := [("one", 6)]) rfl sc_l_sums.nd (pi_list (pv 4)) (blkOk_by (own := [("one", 6)]) (N := ["bits", "table", "sums", "k", "pars", "z", "one", "m"]) (sc := defScope st_l_sums) (by decide +kernel)) (fun _ _ _ _ _ => (pg_name (i := 6) sc_l_sums.nd rfl (Or.inl rfl))) (fun _ _ _ _ _ => pts_nil) (fun _ _ _ _ _ => (pe_op op_xor (pv 6) (pe_ix (ix_listK (K := K) rfl) (pe_ix (ix_listK (K := K) rfl) (pv 1) (pv 3) (fun _ _ => rfl)) (pv 5) (fun _ _ => rfl)))))))))
        (pss_one (ps_set (i := 2) sc_l_sums.nd rfl (Or.inr rfl) (pe_op op_cat (pv 2) (pe_lc (own := [("m", 7)]) rfl sc_l_sums.nd (pi_range1 (by rfl) G.range (pa_cons (pe_callB callLenS (by rfl) G.len PySem.boot_len (pa_cons (pv 2) pa_nil)) pa_nil)) (blkOk_by (own := [("m", 7)]) (N := ["bits", "table", "sums", "k", "pars", "z", "one", "m"]) (sc := defScope st_l_sums) (by decide +kernel)) (fun _ _ _ _ _ => (pg_name (i := 7) sc_l_sums.nd rfl (Or.inl rfl))) (fun _ _ _ _ _ => pts_nil) (fun _ _ _ _ _ => (pe_op op_xor (pe_ix (ix_listK (K := K) rfl) (pv 2) (pv 7) (fun _ _ => rfl)) (pe_ix (ix_listK (K := K) rfl) (pv 4) (pv 7) (fun _ _ => rfl)))))))))))
      (pss_one (ps_ret (pv 2)))))), ?_⟩
    try dsimp only [cxOf]
    walk_at "go"
    refine ⟨by show 1 ≤ sizeLine; decide, fun q0 hq0 => ?_⟩
    walk_at "go"
    rw [List.length_map]
    refine w_forR1 (by omega) (by omega) (fun k σ H' => Same H H' ∧ ∃ (sp : Addr) (u1 u2 u3 : Option V), H sp = none ∧ H' sp = some (.lst ((Rk.sumsL (Tm T) (Cm cs) k).map bV)) ∧ σ = [some (.ref bp), some (.ref tp), some (.ref sp), u1, u2, u3, none, none])
      ⟨Same.new hq0, q0, none, none, none, hq0, upd_same, rfl⟩ ?_ ?_
    · rintro k σ H' hk ⟨s', sp, u1, u2, u3, hsp0, hsp, rfl⟩
      have hk : k < cs.length := by omega
      have ez : (0 : Int) + (k : Int) = ((k : Nat) : Int) := by omega
      have ab : atI (cs.map bV) (0 + (k : Int)) = some (bV (Cm cs k)) := atI_of ez (by rw [List.getElem?_map, getD_at (d := false) hk]; rfl)
      have hb' := s' _ _ hb
      have hp16 := pow16 (show k ≤ 16 by omega)
      walk_at "go"
      refine ⟨by show 1 ≤ sizeLine; decide, fun q1 hq1 => ?_⟩
      have s1 := Same.trans s' (Same.new (o := HO.lst [bV (Cm cs k)]) hq1)
      have hsp1 := upd_old (o := HO.lst [bV (Cm cs k)]) hq1 hsp
      have hp1 : (upd H' q1 (.lst [bV (Cm cs k)])) q1 = some (.lst ((Rk.parsL (Tm T) (Cm cs) k 0).map bV)) := by
        rw [upd_same]
        show _ = some (HO.lst [bV (xor (Cm cs k) false)])
        rw [Bool.xor_false]
      revert s1 hsp1 hp1
      generalize upd H' q1 (.lst [bV (Cm cs k)]) = H1
      intro s1 hsp1 hp1
      walk_at "go"
      refine w_forR1 (by omega) (by omega) (fun z σ H' => Same H1 H' ∧ ∃ (pp : Addr) (u3 : Option V), H' pp = some (.lst ((Rk.parsL (Tm T) (Cm cs) k z).map bV)) ∧ σ = [some (.ref bp), some (.ref tp), some (.ref sp), some (.int (0 + (k : Int))), some (.ref pp), u3, none, none])
        ⟨Same.refl _, q1, u3, hp1, rfl⟩ ?_ ?_
      · rintro z σ H2 hz ⟨s2, pp, u3, hpp, rfl⟩
        have hz : z < k := by omega
        have ez2 : (0 : Int) + (z : Int) = ((z : Nat) : Int) := by omega
        have hz16 := pow16 (show z ≤ 16 by omega)
        have hrs : rs[k]? = some (rs.getD k 0) := getD_at (by omega)
        have hTk : T[k]? = some (T.getD k []) := getD_at (by omega)
        have hr1 := hT3 k _ _ hrs hTk
        have hrl := hrow _ (List.mem_of_getElem? hTk)
        have s12 := Same.trans s1 s2
        have hr2 := s12 _ _ hr1
        have ht2 := s12 _ _ hT1
        have at1 : atI (rs.map V.ref) (0 + (k : Int)) = some (.ref (rs.getD k 0)) := atI_of ez (by rw [List.getElem?_map, hrs]; rfl)
        have at2 : atI ((T.getD k []).map bV) (0 + (z : Int)) = some (.int (((Tm T k z).toNat : Nat) : Int)) := atI_of ez2 (by rw [List.getElem?_map, getD_at (d := false) (by omega)]; rfl)
        have hpl := Rk.parsL_len (Tm T) (Cm cs) k z
        walk_at "go"
        refine w_lcL (xs := (Rk.parsL (Tm T) (Cm cs) k z).map bV) (SqL.of hpp) (by rw [List.length_map, hpl]; exact Nat.lt_of_le_of_lt hz16 (by decide)) (fun i acc => acc = (((Rk.parsL (Tm T) (Cm cs) k z).map fun b => xor b (Tm T k z)).map bV).take i) rfl ?_ ?_
        · rintro i x H3 acc hi s3 rfl hai R S2 hR hS2
          obtain ⟨b, rfl, hb⟩ := bV_at hi
          have hr3 := s3 _ _ hr2
          have ht3 := s3 _ _ ht2
          walk_at "go"
          refine ⟨rfl, ?_⟩
          unfold bV
          walk_at "go"
          rw [bx_xor]
          refine hR _ _ (Same.refl _) ?_
          rw [take_snoc (show (((Rk.parsL (Tm T) (Cm cs) k z).map fun b => xor b (Tm T k z)).map bV)[i]? = some (bV (xor b (Tm T k z))) by rw [List.getElem?_map, List.getElem?_map, hb]; rfl)]
          rfl
        · rintro c H3 acc hc s3 hc3 rfl
          rw [List.length_map, List.take_of_length_le (by rw [List.length_map, List.length_map]; exact Nat.le_refl _)] at hc3
          have hpp3 := s3 _ _ hpp
          refine x_cat hpp3 hc3 (by rw [List.length_map, List.length_map, List.length_map, hpl]; exact Nat.le_trans (show _ ≤ 131072 by omega) (by decide)) fun q hq => ?_
          refine ⟨Same.trans s2 (Same.trans s3 (Same.new hq)), q, _, ?_, rfl⟩
          rw [upd_same, Rk.parsL_succ, List.map_append]
      · rintro σ H2 ⟨s2, pp, u3, hpp, rfl⟩
        rw [show ((0 : Int) + (k : Int)).toNat = k by omega] at hpp
        have hsp2 := s2 _ _ hsp1
        have hsl := Rk.sumsL_len (Tm T) (Cm cs) k
        have hpl := Rk.parsL_len (Tm T) (Cm cs) k k
        have hzl : (List.zipWith xor (Rk.sumsL (Tm T) (Cm cs) k) (Rk.parsL (Tm T) (Cm cs) k k)).length = 2 ^ k := by rw [List.length_zipWith, hsl, hpl, Nat.min_self]
        walk_at "go"
        rw [List.length_map, hsl]
        generalize hN : 2 ^ k = N at hp16 hsl hpl hzl
        refine w_lcR1 (by omega) (by omega) (by rw [Int.toNat_natCast]; exact Nat.lt_of_le_of_lt hp16 (by decide)) (fun i acc => acc = ((List.zipWith xor (Rk.sumsL (Tm T) (Cm cs) k) (Rk.parsL (Tm T) (Cm cs) k k)).map bV).take i) rfl ?_ ?_
        · rintro i H3 acc hi s3 rfl hai R S2 hR hS2
          have hi : i < N := by omega
          have ez3 : (0 : Int) + (i : Int) = ((i : Nat) : Int) := by omega
          obtain ⟨a, ha⟩ : ∃ a, (Rk.sumsL (Tm T) (Cm cs) k)[i]? = some a := ⟨_, getD_at (d := false) (by omega)⟩
          obtain ⟨b, hb⟩ : ∃ b, (Rk.parsL (Tm T) (Cm cs) k k)[i]? = some b := ⟨_, getD_at (d := false) (by omega)⟩
          have at1 : atI ((Rk.sumsL (Tm T) (Cm cs) k).map bV) (0 + (i : Int)) = some (.int (((a.toNat : Nat)) : Int)) := atI_of ez3 (by rw [List.getElem?_map, ha]; rfl)
          have at2 : atI ((Rk.parsL (Tm T) (Cm cs) k k).map bV) (0 + (i : Int)) = some (.int (((b.toNat : Nat)) : Int)) := atI_of ez3 (by rw [List.getElem?_map, hb]; rfl)
          have hsp3 := s3 _ _ hsp2
          have hpp3 := s3 _ _ hpp
          walk_at "go"
          refine ⟨rfl, ?_⟩
          walk_at "go"
          rw [bx_xor]
          refine hR _ _ (Same.refl _) ?_
          rw [take_snoc (show ((List.zipWith xor (Rk.sumsL (Tm T) (Cm cs) k) (Rk.parsL (Tm T) (Cm cs) k k)).map bV)[i]? = some (bV (xor a b)) by rw [List.getElem?_map, List.getElem?_zipWith, ha, hb]; rfl)]
          rfl
        · rintro c H3 acc hc s3 hc3 rfl
          rw [Int.toNat_natCast, List.take_of_length_le (by rw [List.length_map, hzl]; exact Nat.le_refl _)] at hc3
          have hsp3 := s3 _ _ hsp2
          refine x_cat hsp3 hc3 (by rw [List.length_map, List.length_map, hsl, hzl]; exact Nat.le_trans (show _ ≤ 131072 by omega) (by decide)) fun q hq => ?_
          have s13 := Same.trans s1 (Same.trans s2 s3)
          refine ⟨Same.trans s13 (Same.new hq), q, _, _, _, Same.free s13 hq, ?_, rfl⟩
          rw [upd_same, Rk.sumsL_succ, List.map_append]
    · rintro σ H' ⟨s', sp, u1, u2, u3, hsp0, hsp, rfl⟩
      rw [Int.toNat_natCast] at hsp
      walk_at "go"
      exact kk sp H' hsp0 s' hsp
def spSteered : Sp := fun vs H Q _ => ∃ (b l : Addr) (most : Nat) (od : Int), vs = [.ref b, .int most, .int od] ∧ BagAt H b l ∧ most ≤ 26 ∧ ∀ (o fa na : Addr) (S : Own) H', H o = none → BagAt H' b l → OwnAt H' o fa na S → S.Ok → S.feet.length ≤ 2 * most → Kp b H H' → Q (.ref o) H'
theorem ok_steered (B : Bi K mg) (c_l_draw : C8.Cal P w K mg base 1 "_law_draw" spDraw []) (c_l_of : C8.Cal P w K mg base 2 "_law_of" spOf [])
    (c_l_names : C8.Cal P w K mg base 2 "_law_names" spNames []) (c_l_word : C8.Cal P w K mg base 1 "_law_word" (spWord K) []) (c_l_shift : C8.Cal P w K mg base 4 "_law_shift" spShift [])
    (F : FnP K "_law_steered" st_l_steered f fd) : FnOk P w K mg base CX0 5 f fd ["bag", "most", "odd"] spSteered := by
  refine F.ok sc_l_steered (fun vs H Q E h => ?_) (fun cdv A outer s H vs Q E hr h => ?_)
  · obtain ⟨b, l, most, od, rfl, _⟩ := h
    rfl
  · obtain ⟨b, l, most, od, rfl, hB, hm, kk⟩ := h
    have G := B
    refine ⟨_, PSs.nox ((pss_cons (ps_set (i := 3) sc_l_steered.nd rfl (Or.inr rfl) (pe_op op_add pe_int (C8.pe_c c_l_draw hr (by decide) rfl (pa_cons (pv 0) (pa_cons pe_int pa_nil)))))
      (pss_cons (ps_set (i := 4) sc_l_steered.nd rfl (Or.inl rfl) (pe_op op_mul (pv 3) (C8.pe_c c_l_of hr (by decide) rfl (pa_cons (pv 0) (pa_cons (pe_lc (own := [("k", 10)]) rfl sc_l_steered.nd (pi_list (pe_lst (pa_cons pe_int (pa_cons pe_int (pa_cons pe_int (pa_cons pe_int (pa_cons pe_int (pa_cons pe_int pa_nil)))))))) (blkOk_by (own := [("k", 10)]) (N := ["bag", "most", "odd", "unit", "arm", "mod", "many", "hands", "names", "nums", "k", "num", "own"]) (sc := defScope st_l_steered) (by decide +kernel)) (fun _ _ _ _ _ => (pg_name (i := 10) sc_l_steered.nd rfl (Or.inl rfl))) (fun _ _ _ _ _ => (pts_one (pt_cmpR op_lt (pe_op op_mul (pv 10) (pv 3)) pe_int (nomark _)))) (fun _ _ _ _ _ => (pv 10))) pa_nil)))))
      (pss_cons (ps_set (i := 5) sc_l_steered.nd rfl (Or.inl rfl) (pe_op op_mul (pe_op op_mul pe_int (pv 3)) (C8.pe_c c_l_draw hr (by decide) rfl (pa_cons (pv 0) (pa_cons (pe_op op_add (pe_op op_fdiv pe_int (pe_op op_mul pe_int (pv 3))) pe_int) pa_nil)))))
      (pss_cons (ps_set (i := 6) sc_l_steered.nd rfl (Or.inl rfl) (C8.pe_c c_l_draw hr (by decide) rfl (pa_cons (pv 0) (pa_cons (pe_op op_add (pv 1) pe_int) pa_nil))))
      (pss_cons (ps_set (i := 7) sc_l_steered.nd rfl (Or.inl rfl) (C8.pe_c c_l_draw hr (by decide) rfl (pa_cons (pv 0) (pa_cons (pe_op op_add (pe_op op_fdiv (pv 6) pe_int) pe_int) pa_nil))))
      (pss_cons (ps_set (i := 8) sc_l_steered.nd rfl (Or.inl rfl) (C8.pe_c c_l_names hr (by decide) rfl (pa_cons (pv 0) (pa_cons (pv 6) pa_nil))))
      (pss_cons (ps_set (i := 9) sc_l_steered.nd rfl (Or.inl rfl) pe_dnewK)
      (pss_cons (ps_for PassesOwn.never rfl (pi_range1 (by rfl) G.range (pa_cons (pv 6) pa_nil)) (pg_name (i := 10) sc_l_steered.nd rfl (Or.inl rfl))
        (pss_cons (ps_set (i := 11) sc_l_steered.nd rfl (Or.inl rfl) (pe_op op_sub (C8.pe_c c_l_draw hr (by decide) rfl (pa_cons (pv 0) (pa_cons pe_int pa_nil))) pe_int))
        (pss_one (ps_dput (hu_of hr) (pv 9) (pe_ix ix_list (pv 8) (pv 10) (fun _ _ => rfl)) (pe_op op_mul (pv 3) (pe_ifExp (pt_cmpR op_lt (pv 10) (pe_op op_mul pe_int (pv 7)) (nomark _)) (pv 11) (pe_op op_add (pe_op op_mul pe_int (pv 11)) (pe_callTy call_intB (by rfl) G.int (by decide +kernel) (pa_cons (pe_and (pe_cmpR op_eq (pv 2) pe_int (nomark _)) (pe_one (pe_cmpR op_eq (pv 10) (pe_op op_sub (pv 6) pe_int) (nomark _)))) pa_nil))))) rfl))))
      (pss_cons (ps_set (i := 12) sc_l_steered.nd rfl (Or.inl rfl) (pe_lst (pa_cons (pv 4) (pa_cons (pv 5) (pa_cons (C8.pe_c c_l_word hr (by decide) rfl (pa_cons (pv 8) (pa_cons (pv 7) pa_nil))) (pa_cons (pv 9) pa_nil))))))
      (pss_cons (ps_for PassesOwn.never rfl (pi_range1 (by rfl) G.range (pa_cons (pe_op op_add pe_int (C8.pe_c c_l_draw hr (by decide) rfl (pa_cons (pv 0) (pa_cons pe_int pa_nil)))) pa_nil)) (pg_name (i := 10) sc_l_steered.nd rfl (Or.inl rfl))
        (pss_one (ps_expr (C8.pe_c c_l_shift hr (by decide) rfl (pa_cons (pv 0) (pa_cons (pv 12) pa_nil))))))
      (pss_one (ps_ret (pv 12)))))))))))))), ?_⟩
    try dsimp only [cxOf]
    walk_at "go"
    refine ⟨b, l, 4, rfl, hB, by decide, by decide, fun r1 H1 hr1 hB1 kp1 => ?_⟩
    walk_at "go"
    have eu : (1 : Int) + (r1 : Int) = ((1 + r1 : Nat) : Int) := by omega
    rw [eu]
    have hu1 : 1 ≤ 1 + r1 := by omega
    have hu2 : 1 + r1 ≤ 4 := by omega
    generalize 1 + r1 = unit at hu1 hu2 eu
    refine ⟨by show 6 ≤ sizeLine; decide, fun q1 hq1 => ?_⟩
    have hB1' := hB1.new (o := HO.lst (([1, 3, 5, 7, 9, 11] : List Int).map V.int)) hq1
    have hq1' : (upd H1 q1 (.lst (([1, 3, 5, 7, 9, 11] : List Int).map V.int))) q1 = some (.lst (([1, 3, 5, 7, 9, 11] : List Int).map V.int)) := upd_same
    have kp1' : Kp b H (upd H1 q1 (.lst (([1, 3, 5, 7, 9, 11] : List Int).map V.int))) := Kp.trans kp1 (Kp.of (Same.new hq1))
    show _
    have eL : [V.int 1, .int 3, .int 5, .int 7, .int 9, .int 11] = ([1, 3, 5, 7, 9, 11] : List Int).map V.int := rfl
    rw [eL]
    revert hB1' hq1' kp1'
    generalize (upd H1 q1 (.lst (([1, 3, 5, 7, 9, 11] : List Int).map V.int))) = H2
    intro hB2 hq2 kp2
    walk_at "go"
    refine w_lcL (xs := ([1, 3, 5, 7, 9, 11] : List Int).map V.int) (SqL.of hq2) (by decide) (fun i acc => ∃ ds : List Nat, acc = (ds.map fun d : Nat => V.int (d : Nat)) ∧ (∀ d ∈ ds, 1 ≤ d ∧ d * unit < 13) ∧ (1 ≤ i → 1 ≤ ds.length) ∧ ds.length ≤ i) ⟨[], rfl, fun d h => (by cases h), fun h => (by omega), Nat.le_refl _⟩ ?_ ?_
    · rintro i x H' acc hi s' ⟨ds, rfl, hds, hd1, hdl⟩ hai R S2 hR hS2
      obtain ⟨z, rfl, hz⟩ := int_at hi
      have hzb : ∀ y ∈ ([1, 3, 5, 7, 9, 11] : List Int), 1 ≤ y ∧ y ≤ 11 := by decide
      have hz2 := hzb z (List.mem_of_getElem? hz)
      obtain ⟨zn, rfl⟩ : ∃ zn : Nat, z = (zn : Int) := ⟨z.toNat, by omega⟩
      walk_at "go"
      refine ⟨rfl, ?_⟩
      walk_at "go"
      refine x_iteD (fun h => ?_) (fun h => ?_)
      · walk_at "go"
        refine hR _ _ (Same.refl _) ⟨ds ++ [zn], by rw [List.map_append]; rfl, fun d hd => ?_, fun _ => by rw [List.length_append, List.length_singleton]; omega, by rw [List.length_append, List.length_singleton]; omega⟩
        rcases List.mem_append.mp hd with e | e
        · exact hds d e
        · rw [List.mem_singleton.mp e]
          refine ⟨by omega, ?_⟩
          have : ((zn * unit : Nat) : Int) < 13 := by rw [Int.natCast_mul]; exact h
          omega
      · refine hS2 _ (Same.refl _) ⟨ds, rfl, hds, fun hi1 => ?_, by omega⟩
        rcases Nat.eq_zero_or_pos i with e | e
        · subst e
          have : (zn : Int) = 1 := (Option.some.inj hz).symm
          exfalso
          rw [this] at h
          omega
        · exact hd1 e
    · rintro q3 H3 acc hq3 s3 hq33 ⟨ds, rfl, hds, hd1, hdl⟩
      have hds1 := hd1 (by decide)
      have hdl : ds.length ≤ 6 := hdl
      have hB3 := hB2.same s3
      have nqb : q3 ≠ b := fun e => hB2.b_some (by rw [← e]; exact hq3)
      walk_at "go"
      refine ⟨b, l, q3, ds.map fun d : Nat => V.int (d : Nat), rfl, hB3, nqb, hq33, by rw [List.length_map]; omega, by rw [List.length_map]; omega, fun j v H4 hj hB4 kp4 => ?_⟩
      obtain ⟨d, rfl, hd⟩ := nat_at hj
      obtain ⟨hdd1, hdd2⟩ := hds d (List.mem_of_getElem? hd)
      have kp24 : Kp b H H4 := Kp.trans kp2 (Kp.trans (Kp.of s3) kp4)
      walk_at "go"
      have earm : (unit : Int) * (d : Int) = ((unit * d : Nat) : Int) := by rw [Int.natCast_mul]
      rw [earm]
      have ha1 : 1 ≤ unit * d := Nat.mul_pos hu1 hdd1
      have ha2 : unit * d ≤ 12 := by rw [Nat.mul_comm]; omega
      generalize unit * d = arm at ha1 ha2 earm
      refine ⟨b, l, (24 : Int) / (2 * (unit : Int)) + 1, rfl, hB4, ?_, ?_, fun r5 H5 hr5 hB5 kp5 => ?_⟩
      · have : (0 : Int) ≤ 24 / (2 * (unit : Int)) := Int.ediv_nonneg (by decide) (by omega)
        omega
      · have : (24 : Int) / (2 * (unit : Int)) ≤ 24 := Int.ediv_le_self _ (by decide)
        omega
      walk_at "go"
      have hmod : 2 * unit * r5 ≤ 24 := by
        have h1 : (r5 : Int) ≤ 24 / (2 * (unit : Int)) := by omega
        have h2 : (r5 : Int) * (2 * (unit : Int)) ≤ 24 := by
          have := Int.mul_le_mul_of_nonneg_right h1 (show (0 : Int) ≤ 2 * (unit : Int) by omega)
          have h3 := Int.ediv_mul_le 24 (show 2 * (unit : Int) ≠ 0 by omega)
          omega
        have h4 : ((2 * unit * r5 : Nat) : Int) = (r5 : Int) * (2 * (unit : Int)) := by
          rw [Int.natCast_mul, Int.natCast_mul, Int.mul_comm]; rfl
        omega
      have hmod1 : 2 * unit * r5 ≠ 1 := by
        rw [Nat.mul_assoc]; omega
      have emod : 2 * (unit : Int) * (r5 : Int) = ((2 * unit * r5 : Nat) : Int) := by rw [Int.natCast_mul, Int.natCast_mul]; rfl
      rw [emod]
      generalize 2 * unit * r5 = mod at hmod hmod1 emod
      have kp5' := Kp.trans kp24 kp5
      refine ⟨b, l, (most : Int) + 1, rfl, hB5, by omega, by omega, fun many H6 hmany hB6 kp6 => ?_⟩
      walk_at "go"
      have eh : (many : Int) / 2 + 1 = ((many / 2 + 1 : Nat) : Int) := by omega
      rw [eh]
      refine ⟨b, l, ((many / 2 + 1 : Nat) : Int), rfl, hB6, by omega, by omega, fun hands H7 hhands hB7 kp7 => ?_⟩
      walk_at "go"
      refine ⟨b, l, many, rfl, hB7, by omega, fun np ns H8 hnp0 hnp hnl hnd hnm hB8 kp8 => ?_⟩
      have nnb : np ≠ b := fun e => hB7.b_some (by rw [← e]; exact hnp0)
      have kp48 : Kp b H H8 := Kp.trans kp5' (Kp.trans kp6 (Kp.trans kp7 kp8))
      walk_at "go"
      intro nd hnd0
      have ndb : nd ≠ b := fun e => hB8.b_some (by rw [← e]; exact hnd0)
      have ndl : nd ≠ l := fun e => hB8.l_some (by rw [← e]; exact hnd0)
      have nnd : np ≠ nd := ne_of_none hnp hnd0
      walk_at "go"
      refine w_forR1 (by omega) (by omega) (fun i σ H' => BagAt H' b l ∧ (∀ a u, a ≠ b → a ≠ nd → H8 a = some u → H' a = some u) ∧ ∃ (M : List (Str × Int)) (u v t : Option V), σ = [some (.ref b), some (.int most), some (.int od), some (.int unit), some (.int arm), some (.int mod), some (.int many), some (.int hands), some (.ref np), some (.ref nd), u, v, t] ∧
        H' nd = some (.dK (dD V.int M)) ∧ M.map (·.1) = ns.take i ∧ ∀ p ∈ M, p.2.natAbs ≤ 1000) ⟨hB8.new hnd0, fun a u n1 n2 h => upd_old hnd0 h, [], none, none, none, rfl, upd_same, rfl, fun p hp => (by cases hp)⟩ ?_ ?_
      · rintro i σ H' hi ⟨hB', kk', M, u, v, t, rfl, hM, hMk, hMb⟩
        have hi : i < many := by omega
        obtain ⟨n, hn⟩ : ∃ n, ns[i]? = some n := ⟨ns[i]'(by omega), List.getElem?_eq_getElem (by omega)⟩
        walk_at "go"
        refine ⟨b, l, 13, rfl, hB', by decide, by decide, fun r H2 hr hB2 kp2 => ?_⟩
        have hM2 := kp2 _ _ ndb hM
        have hnp2 := kp2 _ _ nnb (kk' _ _ nnb nnd hnp)
        have an : atI (ns.map V.str) (0 + (i : Int)) = some (.str n) := atI_of (k := i) (by omega) (by rw [List.getElem?_map, hn]; rfl)
        have fin : ∀ (z : Int), z.natAbs ≤ 13 → ∀ (D : Ends) (σ : L2.St), D.nx σ (upd H2 nd (.dK (putK (dD V.int M) (.inr n) (V.int ((unit : Int) * z))))) → rDPut D σ (.int ((unit : Int) * z)) (.ref nd) (.str n) H2 := fun z hz D σ hD => x_dputS hM2 (by rw [dD_len]; have := congrArg List.length hMk; rw [List.length_map] at this; exact Nat.lt_of_le_of_lt (show _ ≤ 26 by rw [this, List.length_take]; omega) (by decide)) hD
        have res : ∀ (z : Int), z.natAbs ≤ 13 → BagAt (upd H2 nd (.dK (putK (dD V.int M) (.inr n) (V.int ((unit : Int) * z))))) b l ∧ (∀ a u, a ≠ b → a ≠ nd → H8 a = some u → (upd H2 nd (.dK (putK (dD V.int M) (.inr n) (V.int ((unit : Int) * z))))) a = some u) ∧ ∃ (M' : List (Str × Int)), (upd H2 nd (.dK (putK (dD V.int M) (.inr n) (V.int ((unit : Int) * z))))) nd = some (.dK (dD V.int M')) ∧ M'.map (·.1) = ns.take (i + 1) ∧ ∀ p ∈ M', p.2.natAbs ≤ 1000 := fun z hz => by
          refine ⟨hB2.upd ndb ndl, fun a u n1 n2 h => ?_, aPut M n ((unit : Int) * z), ?_, ?_, fun p hp => ?_⟩
          · rw [upd_ne n2]
            exact kp2 _ _ n1 (kk' _ _ n1 n2 h)
          · rw [upd_same, putK_dD]
          · rw [keys_put, hMk, if_neg, take_snoc hn]
            intro hm'
            obtain ⟨j, hj⟩ := List.getElem?_of_mem hm'
            rw [List.getElem?_take] at hj
            split at hj
            · rename_i hji
              have := nodup_inj hnd hj hn
              omega
            · cases hj
          · rcases mem_put hp with e | ⟨hp, _⟩
            · rw [e]
              show ((unit : Int) * z).natAbs ≤ 1000
              rw [Int.natAbs_mul, Int.natAbs_natCast]
              have h1 : unit * z.natAbs ≤ 4 * 13 := Nat.mul_le_mul hu2 hz
              omega
            · exact hMb p hp
        walk_at "go"
        refine x_iteD (fun h1 => ?_) (fun h1 => ?_)
        · walk_at "go"
          have hz : ((r : Int) - 6).natAbs ≤ 13 := by omega
          obtain ⟨e1, e2, M', e3, e4, e5⟩ := res _ hz
          exact fin _ hz _ _ ⟨e1, e2, M', _, _, _, rfl, e3, e4, e5⟩
        · walk_at "go"
          refine x_iteD (fun h2 => ?_) (fun h2 => ?_)
          · walk_at "go"
            refine x_intB ?_
            have hz : (2 * ((r : Int) - 6) + (if decide ((0 : Int) + (i : Int) = (many : Int) - 1) = true then 1 else 0)).natAbs ≤ 13 := by split <;> omega
            walk_at "go"
            obtain ⟨e1, e2, M', e3, e4, e5⟩ := res _ hz
            exact fin _ hz _ _ ⟨e1, e2, M', _, _, _, rfl, e3, e4, e5⟩
          · walk_at "go"
            refine x_intB ?_
            have hz : (2 * ((r : Int) - 6) + (if false = true then 1 else 0)).natAbs ≤ 13 := by
              rw [if_neg (by decide)]; omega
            walk_at "go"
            obtain ⟨e1, e2, M', e3, e4, e5⟩ := res _ hz
            exact fin _ hz _ _ ⟨e1, e2, M', _, _, _, rfl, e3, e4, e5⟩
      · rintro σ H' ⟨hB', kk', M, u, v, t, rfl, hM, hMk, hMb⟩
        have en : (many : Int).toNat = many := by omega
        rw [en, List.take_of_length_le (by omega)] at hMk
        have hnp' := kk' _ _ nnb nnd hnp
        have kpH : Kp b H H' := fun a u n h => kk' a u n (ne_of_none (kp48 a u n h) hnd0) (kp48 a u n h)
        have hMl : M.length = many := by
          have := congrArg List.length hMk
          rw [List.length_map] at this
          omega
        have okS : ∀ feet : List Str, feet.Perm (ns ++ ns) → (Own.mk arm mod feet M).Ok := fun feet hp => by
          refine ⟨ha1, ha2, hmod1, hmod, word_twice hp hnd hnm, ?_, by rw [hMk]; exact hnd, fun p hpm => ?_, fun n hn => ?_, hMb, by show M.length ≤ 400; omega⟩
          · show feet.length ≤ 400
            rw [hp.length_eq, List.length_append]
            omega
          · refine hp.mem_iff.mpr (List.mem_append_left _ ?_)
            rw [← hMk]
            exact List.mem_map_of_mem hpm
          · rw [hMk]
            rcases List.mem_append.mp (hp.mem_iff.mp hn) with q | q <;> exact q
        walk_at "go"
        refine ⟨np, ns, hands, rfl, hnp', by omega, by omega, fun q feet H2 hq0 hq hfp s2 => ?_⟩
        have hM2 := s2 _ _ hM
        have hB2 := hB'.same s2
        walk_at "go"
        refine ⟨by show 4 ≤ sizeLine; decide, fun o ho => ?_⟩
        have nob : o ≠ b := fun e => hB2.b_some (by rw [← e]; exact ho)
        have kpH2 : Kp b H H2 := Kp.trans kpH (Kp.of s2)
        have ho0 := Kp.free kpH2 nob ho
        have hfl : feet.length ≤ 2 * most := by
          rw [hfp.length_eq, List.length_append]
          omega
        have hO0 : OwnAt (upd H2 o (.lst [.int arm, .int mod, .ref q, .ref nd])) o q nd ⟨arm, mod, feet, M⟩ := ⟨upd_same, upd_old ho hq, upd_old ho hM2⟩
        have hB3 := hB2.new (o := HO.lst [V.int arm, .int mod, .ref q, .ref nd]) ho
        have kp3 : Kp b H (upd H2 o (.lst [.int arm, .int mod, .ref q, .ref nd])) := Kp.trans kpH2 (Kp.of (Same.new ho))
        revert hO0 hB3 kp3
        generalize upd H2 o (.lst [.int arm, .int mod, .ref q, .ref nd]) = H3
        intro hO0 hB3 kp3
        walk_at "go"
        refine ⟨b, l, 30, rfl, hB3, by decide, by decide, fun rt H4 hrt hB4 kp4 => ?_⟩
        obtain ⟨_, nqb, nndb, _⟩ := bag_own hB3 hO0
        have hO4 : OwnAt H4 o q nd ⟨arm, mod, feet, M⟩ := ⟨kp4 _ _ nob hO0.o_, kp4 _ _ nqb hO0.f_, kp4 _ _ nndb hO0.n_⟩
        walk_at "go"
        refine w_forR1 (by omega) (by omega) (fun i σ H' => BagAt H' b l ∧ Kp b H H' ∧ ∃ (fa na : Addr) (S : Own) (u v : Option V), OwnAt H' o fa na S ∧ S.Ok ∧ S.feet.length ≤ 2 * most ∧ σ = [some (.ref b), some (.int most), some (.int od), some (.int unit), some (.int arm), some (.int mod), some (.int many), some (.int hands), some (.ref np), some (.ref nd), u, v, some (.ref o)])
          ⟨hB4, Kp.trans kp3 kp4, q, nd, _, _, _, hO4, okS feet hfp, hfl, rfl⟩ ?_ ?_
        · rintro i σ H5 hi ⟨hB5, kp5, fa, na, S, u, v, hO5, hK5, hl5, rfl⟩
          walk_at "go"
          refine ⟨b, l, o, fa, na, S, rfl, hB5, hO5, hK5, fun t' fa' na' S' H6 hB6 hO6 hK6 hst kq6 => ?_⟩
          walk_at "go"
          refine ⟨hB6, Kq.new2 kq6 kp5 ho0, fa', na', S', _, _, hO6, hK6, ?_, rfl⟩
          rcases hst with e | st
          · rw [e]; exact hl5
          · rw [← st.perm.length_eq]; exact hl5
        · rintro σ H5 ⟨hB5, kp5, fa, na, S, u, v, hO5, hK5, hl5, rfl⟩
          walk_at "go"
          exact kk o fa na S H5 ho0 hB5 hO5 hK5 hl5 kp5
/-- what an own sheet needs so that its sign is told -/
structure OwnG (S : Own) : Prop where
  a1 : 1 ≤ S.arm
  a2 : S.arm ≤ 12
  m2 : S.mod ≤ 24
  wd : IsWord S.feet
  ln : S.feet.length ≤ 32
  nd : (S.nums.map (·.1)).Nodup
  kf : ∀ p ∈ S.nums, p.1 ∈ S.feet
  fk : ∀ n ∈ S.feet, n ∈ S.nums.map (·.1)
  bd : ∀ p ∈ S.nums, p.2.natAbs ≤ 1267650600228229401496703205376
  nl : S.nums.length ≤ 400
theorem Own.Ok.g {S : Own} (k : S.Ok) (h : S.feet.length ≤ 32) : OwnG S := ⟨k.a1, k.a2, k.m2, k.wd, h, k.nd, k.kf, k.fk, fun p hp => Nat.le_trans (k.bd p hp) (by decide), k.nl⟩
theorem Re.g {S : Own} {N : List (Str × Int)} (h : Re S N) (k : S.Ok) (hl : S.feet.length ≤ 32) (hb : ∀ p ∈ N, p.2.natAbs ≤ 1267650600228229401496703205376) : OwnG ⟨S.arm, S.mod, S.feet, N⟩ :=
  ⟨k.a1, k.a2, k.m2, k.wd, hl, by show (N.map (·.1)).Nodup; rw [h.ky]; exact k.nd, h.kf k, fun n hn => by show n ∈ N.map (·.1); rw [h.ky]; exact k.fk n hn, hb, by show N.length ≤ 400; rw [h.len]; exact k.nl⟩
theorem partN_dvd (S : Own) : ((partN S : Nat) : Int) ∣ (S.arm : Int) ∧ ((partN S : Nat) : Int) ∣ (S.mod : Int) ∧ ∀ p ∈ S.nums, ((partN S : Nat) : Int) ∣ p.2 :=
  (dvd_shareZ (d := partN S) (arm := S.arm) (mod := S.mod) (l := S.nums)).mp ((dvd_gcdZ _ _).mp (Nat.dvd_refl _))
theorem OwnG.bal {S : Own} (k : OwnG S) (h : hasB S.arm S.mod (partN S) = true) : Bal S (partN S) := by
  obtain ⟨d1, d2, d3⟩ := partN_dvd S
  unfold hasB at h
  rw [Bool.and_eq_true, decide_eq_true_iff, decide_eq_true_iff] at h
  exact ⟨(share_le k.a1).1, d1, d2, d3, h.1, h.2⟩
theorem hasB_not {arm mod e : Nat} (h : hasB arm mod e = false) : ((arm : Int) / (e : Int)) % 2 = 0 ∨ ((mod : Int) / (e : Int)) % 2 = 1 := by
  unfold hasB at h
  by_cases c1 : ((arm : Int) / (e : Int)) % 2 = 1
  · rw [decide_eq_true c1, Bool.true_and] at h
    have := of_decide_eq_false h
    omega
  · omega
theorem hasB_yes {arm mod e : Nat} (h : hasB arm mod e = true) : ((arm : Int) / (e : Int)) % 2 = 1 ∧ ((mod : Int) / (e : Int)) % 2 = 0 := by
  unfold hasB at h
  rwa [Bool.and_eq_true, decide_eq_true_iff, decide_eq_true_iff] at h
/-! ### told numbers: the share and the lots are those of the own ones -/
theorem told_lots {S : Own} (k : OwnG S) : (shareZ S.arm S.mod (toldOf S.mod (bandsOf S.feet) S.nums) = partN S) ∧ (hasB S.arm S.mod (partN S) = true → LotS S.feet (oddN (partN S) (toldOf S.mod (bandsOf S.feet) S.nums)) = LotS S.feet (oddN (partN S) S.nums)) := by
  refine ⟨share_told k.kf k.fk k.nd, fun h => ?_⟩
  have hB := k.bal h
  unfold LotS
  refine Rk.gs_congr (fun _ _ _ _ => rfl) fun b hb => ?_
  have hbf := (mem_bandsOf _ _).mp hb
  obtain ⟨z, gz, hz⟩ := aGet_of_mem (k.fk b hbf)
  have et : aGet (toldOf S.mod (bandsOf S.feet) S.nums) b = some (redN S.mod z) := by
    have hnd : ((toldOf S.mod (bandsOf S.feet) S.nums).map (·.1)).Nodup := by rw [toldOf_keys]; exact nodup_bandsOf _
    have hm : (b, redN S.mod z) ∈ toldOf S.mod (bandsOf S.feet) S.nums := List.mem_map.mpr ⟨b, hb, by rw [gz]; rfl⟩
    exact aGet_nodup hnd hm
  unfold oddN
  rw [et, gz]
  show decide ((redN S.mod z / _) % 2 = 1) = decide ((z / _) % 2 = 1)
  rw [red_par hB.pos hB.mod hB.even (hB.num _ hz)]
/-! ### defs that let errors out -/
theorem fun_ofD {K : PySem.W.Frag} {x qual : Str} {st : Stmt} {f : Addr} {fd : FuncData} {kws : List (Str × V)} (F : FunD K x qual (defArgs st) (defBody st) (defScope st) [] kws f fd) : Fun K x qual st f fd := by
  obtain ⟨c1, c2, c3, c4, c5, c6, c7, c8, c9, c10, q1, q2, q3, q4, _⟩ := F.ex
  rcases q4 with ⟨_, z⟩ | ⟨z, _⟩
  · subst z
    exact ⟨⟨c1, c2, c4, c5, c6, c7, c8, c9, c10, q1, q2, q3⟩, F.kp⟩
  · exact absurd rfl z
theorem x_raise1 {C : Addr} {g : Str} {W : WX} {ta : TA} {D : Ends} {σ : L2.St} {H : Hp} (h : ta σ H fun vs H1 => ∃ v, vs = [v] ∧ ∀ d, H1 d = none → W (.ref C) (some d) σ (upd H1 d (.xd [(g, v)]))) : tRaise1 C g W ta D σ H := h
/-- a def that lets errors out; their context is None -/
theorem ok_outN {K : PySem.W.Frag} {x qual : Str} {st : Stmt} {f : Addr} {fd : FuncData} {N ps : List Str} {k : Nat} {sp : Sp} {mg : Str → Option Value} {base : Heap} {P : Program} {w : World} (F : Fun K x qual st f fd) (S : FnScope N ps (defScope st)) (ln : ∀ vs H Q E, sp vs H Q E → vs.length = ps.length)
    (hb : ∀ (cdv : Value) (A : Around) (outer : List Env) (s : Shared) (H : Hp) (vs : List V) (Q : VK) (E : XK), Room k (A.deeper (envOfC qual (defScope st) s.heap.objs.size f cdv)) → sp vs H Q E →
      ∃ t, PSs (cxOf (L2N.CX P w) P w K mg base N qual (defScope st) f cdv A outer s H E) (defBody st) t ∧ t { nx := fun _ H' => Q .non H', rt := Q } (L2.start N vs) H) : FnOk P w K mg base (L2N.CX P w) (k + 1) f fd ps sp := by
  obtain ⟨c1, c2, c3, c4, c5, c6, c7, c8, c9, rfl, q1, q2⟩ := F.ex
  exact fn_of q1 q2 S ln fun A outer s H vs Q E hr hsp => hb c7 A outer s H vs Q E hr hsp
/-! ### texts alike, asked where an error is handled -/
def spLikeS : Sp := fun vs H Q _ => ∃ i j : Str, vs = [.str i, .str j] ∧ Q (.bl (decide (i = j))) H
theorem x_isSf {K : PySem.W.Frag} {H : Hp} {Q : VK} {z : Str} {n : String} (e : PySem.W.kitOne K (.type "str") (.type n) = some false) (h : Q (.bl false) H) : rIsi K [.str z, .ty n] H Q := x_isTy (.str _) e h
theorem ok_likeH (B : Bi K mg) (F : FnP K "_law_like" st_l_like f fd) : L2H.FnH P w K mg base CX0 1 f fd ["told", "due"] spLikeS := by
  obtain ⟨⟨oc, od, kV, doc, pm, an, cdv, ct, osl, rfl, lk, hcd⟩, kp⟩ := fun_ofD F
  refine L2H.fn_ofH lk hcd sc_l_like (fun vs H Q E h => ?_) (fun A outer s H vs Q E p hot hr h => ?_)
  · obtain ⟨i, j, rfl, _⟩ := h
    rfl
  · obtain ⟨i, j, rfl, k⟩ := h
    have G := B
    refine ⟨_, PSs.nox ((pss_cons (ps_if (PW.pt (pw_or (pt_val (pe_callB call_isi (by rfl) G.isinstance (by decide +kernel) (pa_cons (pv 1) (pa_cons (pe_bltn (v := .ty "list") (u := .type "list") (by rfl) G.list (by decide +kernel) rfl) pa_nil)))) (pw_or1 (pt_val (pe_callB call_isi (by rfl) G.isinstance (by decide +kernel) (pa_cons (pv 1) (pa_cons (pe_bltn (v := .ty "tuple") (u := .type "tuple") (by rfl) G.tuple (by decide +kernel) rfl) pa_nil)))))))
        (pss_cons ps_never
        (pss_one ps_never))
        pss_nil)
      (pss_cons (ps_if (pt_val (pe_callB call_isi (by rfl) G.isinstance (by decide +kernel) (pa_cons (pv 1) (pa_cons (pe_bltn (v := .ty "dict") (u := .type "dict") (by rfl) G.dict (by decide +kernel) rfl) pa_nil))))
        (pss_cons ps_never
        (pss_one ps_never))
        pss_nil)
      (pss_cons (ps_if (PW.pt (pw_or (pt_cmpR op_ne (pe_callB call_isi (by rfl) G.isinstance (by decide +kernel) (pa_cons (pv 0) (pa_cons (pe_bltn (v := .ty "bool") (u := .type "bool") (by rfl) G.bool (by decide +kernel) rfl) pa_nil))) (pe_callB call_isi (by rfl) G.isinstance (by decide +kernel) (pa_cons (pv 1) (pa_cons (pe_bltn (v := .ty "bool") (u := .type "bool") (by rfl) G.bool (by decide +kernel) rfl) pa_nil))) (nomark _)) (pw_or1 (pt_cmpR op_ne (pe_callB call_isi (by rfl) G.isinstance (by decide +kernel) (pa_cons (pv 0) (pa_cons (pe_bltn (v := .ty "int") (u := .type "int") (by rfl) G.int (by decide +kernel) rfl) pa_nil))) (pe_callB call_isi (by rfl) G.isinstance (by decide +kernel) (pa_cons (pv 1) (pa_cons (pe_bltn (v := .ty "int") (u := .type "int") (by rfl) G.int (by decide +kernel) rfl) pa_nil))) (nomark _)))))
        (pss_one (ps_ret pe_bl))
        pss_nil)
      (pss_one (ps_ret (pe_ifExp (pt_cmpR op_isNn (pv 1) pe_non (nomark _)) (pe_cmpR op_isNn (pv 0) pe_non (nomark _)) (pe_and (pe_cmpR op_eq (pe_callB call_isi (by rfl) G.isinstance (by decide +kernel) (pa_cons (pv 0) (pa_cons (pe_bltn (v := .ty "str") (u := .type "str") (by rfl) G.str (by decide +kernel) rfl) pa_nil))) (pe_callB call_isi (by rfl) G.isinstance (by decide +kernel) (pa_cons (pv 1) (pa_cons (pe_bltn (v := .ty "str") (u := .type "str") (by rfl) G.str (by decide +kernel) rfl) pa_nil))) (nomark _)) (pe_one (pe_cmpR op_eq (pv 0) (pv 1) (nomark _))))))))))), ?_⟩
    try dsimp only [cxOf, L2H.cxH]
    walk_at "go"
    refine x_isSf (kit_ty (by decide +kernel)) ?_
    walk_at "go"
    refine x_isSf (kit_ty (by decide +kernel)) ?_
    walk_at "go"
    refine x_isSf (kit_ty (by decide +kernel)) ?_
    walk_at "go"
    refine x_isSf (kit_ty (by decide +kernel)) ?_
    walk_at "go"
    refine x_isSf (kit_ty (by decide +kernel)) ?_
    walk_at "go"
    rw [decide_eq_true rfl]
    walk_at "go"
    refine x_isSf (kit_ty (by decide +kernel)) ?_
    walk_at "go"
    refine x_isSf (kit_ty (by decide +kernel)) ?_
    walk_at "go"
    rw [decide_eq_true rfl]
    walk_at "go"
    rw [decide_eq_false (fun z : V.str j = V.non => by cases z)]
    walk_at "go"
    rw [decide_eq_true rfl]
    walk_at "go"
    exact k
section
variable {σ : L2.St} {H : Hp} {Q : VK}
theorem x_callS {sp : Sp} {E : L2.St → XK} {tr : TA} (h : tr σ H fun vs H1 => sp vs H1 Q (E σ)) : tCallS sp E tr σ H Q := h
theorem x_xf {a C dd : Addr} {cls : Value} {g : Str} {fs : List (Str × V)} {v : V} {k : Nat} (ec : cls = .ref C) (e : σ[k]? = some (some (.ref a))) (hd : H dd = some (.xd fs)) (hl : fs.lookup g = some v) (h : Q v H) : tXf a cls (some dd) C g (tVar k) σ H Q :=
  x_var e ⟨rfl, ec, dd, fs, v, rfl, hd, hl, h⟩
end
theorem vals_rev {zs : List V} {ws : List Value} (r : Vals zs ws) : Vals zs.reverse ws.reverse := by
  have key : ∀ {zs : List V} {ws : List Value} (az : List V) (aw : List Value), Vals zs ws → Vals az aw → Vals (zs.reverseAux az) (ws.reverseAux aw) := by
    intro zs
    induction zs with
    | nil => intro ws az aw r q; cases r; exact q
    | cons z zs ih => intro ws az aw r q; cases r with | cons h t => (have k := ih (z :: az) (_ :: aw) t (.cons h q); exact k)
  exact key [] [] r .nil
theorem takesN0 {X : Cx} : L2N.Takes X (fun _ _ _ _ => False) := fun _ _ x => by
  obtain ⟨_, _, _, _, _, _, _, _, _, _, _, _, _, _, _, _, z⟩ := x
  exact z.elim
/-- a def that may be called, whatever it lets out -/
structure CalX (P : Program) (w : World) (K : PySem.W.Frag) (mg : Str → Option Value) (base : Heap) (k : Nat) (x : Str) (ps : List Str) (sp : Sp) : Prop where
  ex : ∃ (f : Addr) (fd : FuncData), FnOk P w K mg base (L2N.CX P w) k f fd ps sp ∧ mg x = some (.ref f) ∧ PySem.W.keepIn K (.ref f) = true ∧ Binds K fd ps []
/-- a def that may be called where an error is handled -/
structure CalH (P : Program) (w : World) (K : PySem.W.Frag) (mg : Str → Option Value) (base : Heap) (k : Nat) (x : Str) (ps : List Str) (sp : Sp) : Prop where
  ex : ∃ (f : Addr) (fd : FuncData), L2H.FnH P w K mg base CX0 k f fd ps sp ∧ mg x = some (.ref f) ∧ PySem.W.keepIn K (.ref f) = true ∧ Binds K fd ps []
theorem hot_suite {X : Cx} {a : Addr} {oe : Obj} {cls : Value} {d : Option Addr} {pn : List (Addr × Obj)} (hz : L2N.Zn cls d oe) (hf : ∃ vs, oe.data = .fields vs) : L2H.HotC (X.suite a ((a, oe) :: pn)) := by
  obtain ⟨vs, e⟩ := hf
  exact ⟨(a, oe), ⟨rfl, vs, e, hz.2.2 vs e⟩, List.mem_cons_self ..⟩
/-! ### the program's sums of lots -/
def spLotSums : Sp := fun vs H Q _ => ∃ (mp op : Addr) (ms : List Nat) (cs : List Bool), vs = [.ref mp, .ref op] ∧ H mp = some (.lst (ms.map fun m : Nat => V.int (m : Nat))) ∧ H op = some (.lst (cs.map bV)) ∧ ms.length = cs.length ∧ cs.length ≤ 12 ∧ ∀ p H', H p = none → Same H H' → H' p = some (.lst ((Rk.sumsL (Am ms) (Cm cs) cs.length).map bV)) → Q (.ref p) H'
theorem ok_lotsums (B : Bi K mg) (F : FnP K "lot_sums" st_lot_sums f fd) : FnOk P w K mg base CX0 1 f fd ["masks", "odds"] spLotSums := by
  refine F.ok sc_lot_sums (fun vs H Q E h => ?_) (fun cdv A outer s H vs Q E hr h => ?_)
  · obtain ⟨mp, op, ms, cs, rfl, _⟩ := h
    rfl
  · obtain ⟨mp, op, ms, cs, rfl, hM, hO, hml, hcl, kk⟩ := h
    have G := B
    refine ⟨_, PSs.nox ((pss_cons (ps_set (i := 2) sc_lot_sums.nd rfl (Or.inr rfl) (pe_lst (pa_cons pe_int pa_nil)))
      (pss_cons (ps_set (i := 3) sc_lot_sums.nd rfl (Or.inr rfl) (pe_lst (pa_cons pe_int pa_nil)))
      (pss_cons (ps_for PassesOwn.never rfl (pi_enum (by rfl) G.enumerate (pa_cons (pv 0) pa_nil)) (pg_tup rfl (pgs_cons (pg_name (i := 4) sc_lot_sums.nd rfl (Or.inr rfl)) (pgs_cons (pg_name (i := 5) sc_lot_sums.nd rfl (Or.inr rfl)) pgs_nil)))
        (pss_cons (ps_set (i := 6) sc_lot_sums.nd rfl (Or.inl rfl) (pe_op op_shlW pe_int (pv 4)))
        (pss_cons (ps_set (i := 3) sc_lot_sums.nd rfl (Or.inr rfl) (pe_op op_cat (pv 3) (pe_lc (own := [("lot", 7)]) rfl sc_lot_sums.nd (pi_range1 (by rfl) G.range (pa_cons (pv 6) pa_nil)) (blkOk_by (own := [("lot", 7)]) (N := ["masks", "odds", "digit_sums", "sums", "at", "mask", "many", "lot", "digit_sum"]) (sc := defScope st_lot_sums) (by decide +kernel)) (fun _ _ _ _ _ => (pg_name (i := 7) sc_lot_sums.nd rfl (Or.inl rfl))) (fun _ _ _ _ _ => pts_nil) (fun _ _ _ _ _ => (pe_op op_xor (pe_op op_xor (pe_ix (ix_listK (K := K) rfl) (pv 3) (pv 7) (fun _ _ => rfl)) (pe_ix (ix_listK (K := K) rfl) (pv 1) (pv 4) (fun _ _ => rfl))) (pe_ix (ix_listK (K := K) rfl) (pv 2) (pe_op op_and (pv 5) (pv 7)) (fun _ _ => rfl)))))))
        (pss_one (ps_set (i := 2) sc_lot_sums.nd rfl (Or.inr rfl) (pe_op op_cat (pv 2) (pe_lc (own := [("digit_sum", 8)]) rfl sc_lot_sums.nd (pi_list (pv 2)) (blkOk_by (own := [("digit_sum", 8)]) (N := ["masks", "odds", "digit_sums", "sums", "at", "mask", "many", "lot", "digit_sum"]) (sc := defScope st_lot_sums) (by decide +kernel)) (fun _ _ _ _ _ => (pg_name (i := 8) sc_lot_sums.nd rfl (Or.inl rfl))) (fun _ _ _ _ _ => pts_nil) (fun _ _ _ _ _ => (pe_op op_sub pe_int (pv 8))))))))))
      (pss_one (ps_ret (pv 3))))))), ?_⟩
    try dsimp only [cxOf]
    walk_at "go"
    refine ⟨by show 1 ≤ sizeLine; decide, fun d0 hd0 => ?_⟩
    walk_at "go"
    refine ⟨by show 1 ≤ sizeLine; decide, fun s0 hs0 => ?_⟩
    have sN : Same H (upd (upd H d0 (.lst [V.int 0])) s0 (.lst [V.int 0])) := Same.trans (Same.new hd0) (Same.new hs0)
    have hdN : (upd (upd H d0 (.lst [V.int 0])) s0 (.lst [V.int 0])) d0 = some (.lst ((Rk.dsL 0).map bV)) := upd_old hs0 upd_same
    have hsN : (upd (upd H d0 (.lst [V.int 0])) s0 (.lst [V.int 0])) s0 = some (.lst ((Rk.sumsL (Am ms) (Cm cs) 0).map bV)) := upd_same
    have hs00 : H s0 = none := Same.free (Same.new (o := HO.lst [V.int 0]) hd0) hs0
    revert sN hdN hsN
    generalize upd (upd H d0 (.lst [V.int 0])) s0 (.lst [V.int 0]) = H0
    intro sN hdN hsN
    walk_at "go"
    refine w_forEL (xs := ms.map fun m : Nat => V.int (m : Nat)) (SqL.of (sN _ _ hM)) (fun k σ H' => Same H H' ∧ ∃ (dp sp : Addr) (u4 u5 u6 : Option V), H sp = none ∧ H' dp = some (.lst ((Rk.dsL k).map bV)) ∧ H' sp = some (.lst ((Rk.sumsL (Am ms) (Cm cs) k).map bV)) ∧ σ = [some (.ref mp), some (.ref op), some (.ref dp), some (.ref sp), u4, u5, u6, none, none])
      ⟨sN, d0, s0, _, _, _, hs00, hdN, hsN, rfl⟩ (fun k σ H' ⟨s', _⟩ => SqL.of (s' _ _ hM)) ?_ ?_
    · rintro k x σ H' T hk ⟨s', dp, sp, u4, u5, u6, hsp0, hdp, hsp, rfl⟩ hTn
      obtain ⟨m, rfl, hm⟩ := nat_at hk
      have hkl : k < ms.length := (List.getElem?_eq_some_iff.mp hm).1
      have s2 := Same.trans s' (Same.new (o := HO.tup [V.int (k : Nat), .int (m : Nat)]) hTn)
      have hdp2 := upd_old (o := HO.tup [V.int (k : Nat), .int (m : Nat)]) hTn hdp
      have hsp2 := upd_old (o := HO.tup [V.int (k : Nat), .int (m : Nat)]) hTn hsp
      have hT2 : (upd H' T (.tup [V.int (k : Nat), .int (m : Nat)])) T = some (.tup [V.int (k : Nat), .int (m : Nat)]) := upd_same
      revert s2 hdp2 hsp2 hT2
      generalize upd H' T (.tup [V.int (k : Nat), .int (m : Nat)]) = H2
      intro s2 hdp2 hsp2 hT2
      have hO2 := s2 _ _ hO
      have hsh : CShl 1 ((k : Nat) : Int) := shl_ok (n := 1) (by decide) (by omega)
      have ek : (1 : Int) * 2 ^ ((k : Nat) : Int).toNat = ((2 ^ k : Nat) : Int) := by
        rw [Int.toNat_natCast, Int.one_mul, Int.natCast_pow]; rfl
      have hp12 : 2 ^ k ≤ 4096 := Nat.pow_le_pow_right (n := 2) (by omega) (show k ≤ 12 by omega)
      walk_at "go"
      rw [ek]
      have hsl := Rk.sumsL_len (Am ms) (Cm cs) k
      have hpl := Rk.parsL_len (Am ms) (Cm cs) k k
      have hdl := Rk.dsL_len k
      have hzl : (List.zipWith xor (Rk.sumsL (Am ms) (Cm cs) k) (Rk.parsL (Am ms) (Cm cs) k k)).length = 2 ^ k := by rw [List.length_zipWith, hsl, hpl, Nat.min_self]
      have hAm : ∀ y, Am ms k y = m.testBit y := fun y => by
        unfold Am
        rw [List.getD_eq_getElem?_getD, hm]; rfl
      walk_at "go"
      refine w_lcR1 (by omega) (by omega) (by rw [Int.toNat_natCast]; exact Nat.lt_of_le_of_lt hp12 (by decide)) (fun i acc => acc = ((List.zipWith xor (Rk.sumsL (Am ms) (Cm cs) k) (Rk.parsL (Am ms) (Cm cs) k k)).map bV).take i) rfl ?_ ?_
      · rintro i H3 acc hi s3 rfl hai R S2 hR hS2
        have hi : i < 2 ^ k := by omega
        have ez : (0 : Int) + (i : Int) = ((i : Nat) : Int) := by omega
        rw [ez]
        obtain ⟨a, ha⟩ : ∃ a, (Rk.sumsL (Am ms) (Cm cs) k)[i]? = some a := ⟨_, getD_at (d := false) (by omega)⟩
        have hb := Rk.pars_at (Am ms) (Cm cs) k k hi
        have hlt : m &&& i < 2 ^ k := Nat.lt_of_le_of_lt Nat.and_le_right hi
        have hd := Rk.dsL_at k hlt
        have at1 : atI ((Rk.sumsL (Am ms) (Cm cs) k).map bV) ((i : Nat) : Int) = some (.int ((a.toNat : Nat) : Int)) := atI_of rfl (by rw [List.getElem?_map, ha]; rfl)
        have at2 : atI (cs.map bV) ((k : Nat) : Int) = some (.int (((Cm cs k).toNat : Nat) : Int)) := atI_of rfl (by rw [List.getElem?_map, getD_at (d := false) (show k < cs.length by omega)]; rfl)
        have eand : Builtin.bitAnd ((m : Nat) : Int) ((i : Nat) : Int) = ((m &&& i : Nat) : Int) := by
          rw [PyProof.Rows.bitAnd_pp (Int.natCast_nonneg _) (Int.natCast_nonneg _)]; rfl
        have at3 : atI ((Rk.dsL k).map bV) (Builtin.bitAnd ((m : Nat) : Int) ((i : Nat) : Int)) = some (.int (((Rk.pk k (m &&& i)).toNat : Nat) : Int)) := atI_of eand (by rw [List.getElem?_map, hd]; rfl)
        have hsp3 := s3 _ _ hsp2
        have hdp3 := s3 _ _ hdp2
        have hO3 := s3 _ _ hO2
        walk_at "go"
        refine ⟨rfl, ?_⟩
        walk_at "go"
        rw [bx_xor, bx_xor]
        refine hR _ _ (Same.refl _) ?_
        have epk : Rk.pk k (m &&& i) = Rk.px (Rk.dn k) fun y => i.testBit y && Am ms k y := by
          rw [Rk.pk_and]
          exact Rk.px_congr fun y _ => by rw [hAm]
        rw [take_snoc (show ((List.zipWith xor (Rk.sumsL (Am ms) (Cm cs) k) (Rk.parsL (Am ms) (Cm cs) k k)).map bV)[i]? = some (bV (xor (xor a (Cm cs k)) (Rk.pk k (m &&& i)))) by rw [List.getElem?_map, List.getElem?_zipWith, ha, hb, epk, Bool.xor_assoc]; rfl)]
        rfl
      · rintro c H3 acc hc0 s3 hc rfl
        rw [Int.toNat_natCast, List.take_of_length_le (by rw [List.length_map, hzl]; exact Nat.le_refl _)] at hc
        have hsp3 := s3 _ _ hsp2
        have hdp3 := s3 _ _ hdp2
        refine x_cat hsp3 hc (by rw [List.length_map, List.length_map, hsl, hzl]; exact Nat.le_trans (show _ ≤ 8192 by omega) (by decide)) fun q hq => ?_
        have hq0 : H q = none := Same.free (Same.trans s2 s3) hq
        have hq4 : (upd H3 q (.lst ((Rk.sumsL (Am ms) (Cm cs) k).map bV ++ (List.zipWith xor (Rk.sumsL (Am ms) (Cm cs) k) (Rk.parsL (Am ms) (Cm cs) k k)).map bV))) q = some (.lst ((Rk.sumsL (Am ms) (Cm cs) (k + 1)).map bV)) := by
          rw [upd_same, Rk.sumsL_succ, List.map_append]
        have s4 := Same.trans s2 (Same.trans s3 (Same.new (o := HO.lst ((Rk.sumsL (Am ms) (Cm cs) k).map bV ++ (List.zipWith xor (Rk.sumsL (Am ms) (Cm cs) k) (Rk.parsL (Am ms) (Cm cs) k k)).map bV)) hq))
        have hdp4 := upd_old (o := HO.lst ((Rk.sumsL (Am ms) (Cm cs) k).map bV ++ (List.zipWith xor (Rk.sumsL (Am ms) (Cm cs) k) (Rk.parsL (Am ms) (Cm cs) k k)).map bV)) hq hdp3
        revert hq4 s4 hdp4
        generalize upd H3 q (.lst ((Rk.sumsL (Am ms) (Cm cs) k).map bV ++ (List.zipWith xor (Rk.sumsL (Am ms) (Cm cs) k) (Rk.parsL (Am ms) (Cm cs) k k)).map bV)) = H4
        intro hq4 s4 hdp4
        walk_at "go"
        refine w_lcL (xs := (Rk.dsL k).map bV) (SqL.of hdp4) (by rw [List.length_map, hdl]; exact Nat.lt_of_le_of_lt hp12 (by decide)) (fun i acc => acc = (((Rk.dsL k).map fun b => !b).map bV).take i) rfl ?_ ?_
        · rintro i x H5 acc hi s5 rfl hai R S2 hR hS2
          obtain ⟨b, rfl, hb⟩ := bV_at hi
          walk_at "go"
          refine ⟨rfl, ?_⟩
          unfold bV
          walk_at "go"
          refine hR _ _ (Same.refl _) ?_
          rw [take_snoc (show (((Rk.dsL k).map fun b => !b).map bV)[i]? = some (bV (!b)) by rw [List.getElem?_map, List.getElem?_map, hb]; rfl)]
          cases b <;> rfl
        · rintro d H5 acc hd0 s5 hd rfl
          rw [List.length_map, List.take_of_length_le (by rw [List.length_map, List.length_map]; exact Nat.le_refl _)] at hd
          have hdp5 := s5 _ _ hdp4
          have hq5 := s5 _ _ hq4
          refine x_cat hdp5 hd (by rw [List.length_map, List.length_map, List.length_map, hdl]; exact Nat.le_trans (show _ ≤ 8192 by omega) (by decide)) fun e he => ?_
          walk_at "go"
          refine ⟨Same.trans s4 (Same.trans s5 (Same.new he)), e, q, _, _, _, hq0, ?_, upd_old he hq5, rfl⟩
          rw [upd_same, ← List.map_append]
          rfl
    · rintro σ H' ⟨s', dp, sp, u4, u5, u6, hsp0, hdp, hsp, rfl⟩
      rw [List.length_map, hml] at hsp
      walk_at "go"
      exact kk sp H' hsp0 s' hsp
structure LenC (P : Program) (w : World) (K : PySem.W.Frag) (mg : Str → Option Value) (base : Heap) (n : Nat) (C : Addr) (sp : Sp) : Prop where
  ex : ∃ g, PySem.W.findIn K (.ref C) "__len__" = some (some (.ref g)) ∧ PySem.W.isFn K (.ref g) = true ∧ FnR P w K mg base L2.CX0 n g (fun vs H Q E => sp (vs ++ []) H Q E)
theorem call_lenC {X : Cx} {n j : Nat} {C : Addr} {sp : Sp} (c : LenC X.prog X.w X.K X.mg X.base n C sp) (hr : Room j X.A) (hj : n + 1 ≤ j) : CallR X (.builtin "len") (rLenOwn C fun vs H Q E => sp (vs ++ []) H Q E) := by
  obtain ⟨g, a, b, F⟩ := c.ex
  exact call_lenOwn a b F (hr.mono hj)
theorem x_lenOwn {C a dx : Addr} {fs : List (Str × V)} {H : Hp} {Q : VK} {sp : Sp} (e : H a = some (.ins C dx fs)) (h : sp [.ref a] H (fun z H' => ∃ m : Nat, z = .int (m : Nat) ∧ m < 1000000 ∧ Q z H') C8.E0) : rLenOwn C (fun vs H Q E => sp (vs ++ []) H Q E) [.ref a] H Q := ⟨a, dx, fs, rfl, e, h⟩
def spSLen (K : PySem.W.Frag) : Sp := fun vs H Q _ => ∃ (a : Addr) (arm mod : Nat) (feet : List Str) (told : List (Str × Int)), vs = [.ref a] ∧ SheetAt K H a arm mod feet told ∧ Q (.int ((bandsOf feet).length : Nat)) H
theorem ok_slen (B : Bi K mg) (F : FnM K "__len__" "Sheet.__len__" st_Sheet___len__ [] f fd) : FnOk P w K mg base CX0 1 f fd ["self"] (spSLen K) := by
  refine F.ok sc_Sheet___len__ (fun vs H Q E h => ?_) (fun cdv A outer s H vs Q E hr h => ?_)
  · obtain ⟨a, arm, mod, feet, told, rfl, _⟩ := h
    rfl
  · obtain ⟨a, arm, mod, feet, told, rfl, hS, k⟩ := h
    have G := B
    have cS := G.cls_Sheet
    have n4 := G.na_Sheet_bands
    obtain ⟨dx, bk, wd, ft, bs, td, h1, h2, h3, h4, h5, h6⟩ := hS.ex
    refine ⟨_, PSs.nox ((pss_one (ps_ret (pe_callB callLenS (by rfl) G.len PySem.boot_len (pa_cons (pe_fld (pv 0) (by rfl)) pa_nil))))), ?_⟩
    try dsimp only [cxOf]
    walk_at "go"
    refine x_lenT h5 ?_
    rw [List.length_map]
    exact k
def spLotsC (K : PySem.W.Frag) : Sp := fun vs H Q _ => ∃ (a : Addr) (arm mod : Nat) (feet : List Str) (told : List (Str × Int)), vs = [.ref a] ∧ SheetAt K H a arm mod feet told ∧ IsWord feet ∧ (bandsOf feet).length ≤ 12 ∧ feet.length ≤ 900 ∧ 1 ≤ arm ∧ arm ≤ 12 ∧ (∀ H', Same H H' → hasB arm mod (shareZ arm mod told) = false → Q .non H') ∧
  ∀ p (o : Int) H', Same H H' → hasB arm mod (shareZ arm mod told) = true → H' p = some (.tup [.int (((2 ^ (bandsOf feet).length : Nat) : Int) - o), .int o]) → 2 * o = ((2 ^ (bandsOf feet).length : Nat) : Int) - LotS feet (oddN (shareZ arm mod told) told) → Q (.ref p) H'
theorem ok_lotsC (B : Bi K mg) (l_Sheet : LenC P w K mg base 1 (He.ga K "Sheet") (spSLen K)) (c_share_of : C8.Cal P w K mg base 2 "share_of" (spShare K) []) (c_has_balance : C8.Cal P w K mg base 1 "_has_balance" (spHasB K) []) (c_masks_of : C8.Cal P w K mg base 3 "_masks_of" (spMasks K) []) (c_odds_of : C8.Cal P w K mg base 2 "_odds_of" (spOdds K) []) (c_lot_sums : C8.Cal P w K mg base 1 "lot_sums" spLotSums []) (F : FnP K "lots_counted" st_lots_counted f fd) : FnOk P w K mg base CX0 4 f fd ["sheet"] (spLotsC K) := by
  refine F.ok sc_lots_counted (fun vs H Q E h => ?_) (fun cdv A outer s H vs Q E hr h => ?_)
  · obtain ⟨a, arm, mod, feet, told, rfl, _⟩ := h
    rfl
  · obtain ⟨a, arm, mod, feet, told, rfl, hS, hW, hb12, hl, a1, a2, k1, k2⟩ := h
    have G := B
    have cS := G.cls_Sheet
    have n1 := G.na_Sheet_book
    obtain ⟨he1, he2⟩ := share_le (mod := mod) (told := told) a1
    generalize he : shareZ arm mod told = e at he1 he2 k1 k2
    obtain ⟨dx, bk, wd, ft, bs, td, h1, h2, h3, h4, h5, h6⟩ := hS.ex
    refine ⟨_, PSs.nox ((pss_cons (ps_if (pt_cmpR op_gt (pe_callB (call_lenC l_Sheet hr (by decide)) (by rfl) G.len PySem.boot_len (pa_cons (pv 0) pa_nil)) (C8.pe_gc rfl G.c_MOST_LOTS) (nomark _))
        (pss_one ps_never)
        pss_nil)
      (pss_cons (ps_set (i := 1) sc_lots_counted.nd rfl (Or.inl rfl) (C8.pe_c c_share_of hr (by decide) rfl (pa_cons (pv 0) pa_nil)))
      (pss_cons (ps_if (pt_not (pt_val (C8.pe_c c_has_balance hr (by decide) rfl (pa_cons (pe_fld (pv 0) (by rfl)) (pa_cons (pv 1) pa_nil)))))
        (pss_one (ps_ret pe_non))
        pss_nil)
      (pss_cons (ps_set (i := 2) sc_lots_counted.nd rfl (Or.inl rfl) (C8.pe_c c_lot_sums hr (by decide) rfl (pa_cons (C8.pe_c c_masks_of hr (by decide) rfl (pa_cons (pv 0) pa_nil)) (pa_cons (C8.pe_c c_odds_of hr (by decide) rfl (pa_cons (pv 0) (pa_cons (pv 1) pa_nil))) pa_nil))))
      (pss_cons (ps_set (i := 3) sc_lots_counted.nd rfl (Or.inl rfl) (pe_callB (cr_sum rfl) (by rfl) G.sum (by decide +kernel) (pa_cons (pv 2) pa_nil)))
      (pss_one (ps_ret (pe_tup (pa_cons (pe_op op_sub (pe_callB callLenS (by rfl) G.len PySem.boot_len (pa_cons (pv 2) pa_nil)) (pv 3)) (pa_cons (pv 3) pa_nil))))))))))), ?_⟩
    try dsimp only [cxOf]
    walk_at "go"
    refine x_lenOwn h1 ⟨a, arm, mod, feet, told, rfl, hS, _, rfl, by omega, ?_⟩
    walk_at "go"
    rw [decide_eq_false (by omega)]
    walk_at "go"
    refine ⟨a, arm, mod, feet, told, rfl, hS, hl, fun H1 s1 => ?_⟩
    rw [he]
    have hS1 := hS.same s1
    obtain ⟨dx, bk, wd, ft, bs, td, h1, h2, h3, h4, h5, h6⟩ := hS1.ex
    walk_at "go"
    refine ⟨bk, arm, mod, e, rfl, h2, he1, by omega, ?_⟩
    walk_at "go"
    cases hb : hasB arm mod e with
    | false =>
      walk_at "go"
      exact k1 _ s1 hb
    | true =>
      walk_at "go"
      refine ⟨a, arm, mod, feet, told, rfl, hS1, hW, hl, fun mp H2 hmp0 s2 hmp => ?_⟩
      walk_at "go"
      refine ⟨a, arm, mod, feet, told, e, rfl, hS1.same s2, hl, he1, by omega, fun op H3 hop0 s3 hop => ?_⟩
      walk_at "go"
      have wd := wd_of hW
      have ln : (lowsW feet).length = (bandsOf feet).length := by unfold lowsW; rw [List.length_map, tabW_len]
      refine ⟨mp, op, lowsW feet, (bandsOf feet).map (oddN e told), rfl, s3 _ _ hmp, hop, by rw [ln, List.length_map], by rw [List.length_map]; exact hb12, fun sp H4 hsp0 s4 hsp => ?_⟩
      rw [List.length_map] at hsp
      have egs := Rk.gap_gs (Am (lowsW feet)) (Cm ((bandsOf feet).map (oddN e told))) (bandsOf feet).length
      have hsl := Rk.sumsL_len (Am (lowsW feet)) (Cm ((bandsOf feet).map (oddN e told))) (bandsOf feet).length
      have e9 : Rk.gs (Am (lowsW feet)) (Rk.dn (bandsOf feet).length) (Cm ((bandsOf feet).map (oddN e told))) = LotS feet (oddN e told) := by
        rw [Rk.gs_perm (Rk.dn_perm _) (fun i hi j hj => by
          have hi := Rk.dn_mem.mp hi
          have hj := Rk.dn_mem.mp hj
          rw [am_low (band_at hi) (band_at hj), am_low (band_at hj) (band_at hi)]
          exact wd.sym _ _)]
        exact gs_idx (fun i j a b ha hb => am_low ha hb) fun i a ha => by
          show ((bandsOf feet).map (oddN e told)).getD i false = _
          rw [List.getD_eq_getElem?_getD, List.getElem?_map, ha]; rfl
      rw [e9] at egs
      revert hsp egs hsl
      generalize Rk.sumsL (Am (lowsW feet)) (Cm ((bandsOf feet).map (oddN e told))) (bandsOf feet).length = sL
      intro hsp egs hsl
      have eL : sL.map bV = (sL.map fun b : Bool => ((b.toNat : Nat) : Int)).map V.int := by rw [List.map_map]; rfl
      rw [eL] at hsp
      walk_at "go"
      refine x_sum (SqL.of hsp) ?_
      generalize (sL.map fun b : Bool => ((b.toNat : Nat) : Int)).sum = o at egs
      walk_at "go"
      rw [List.length_map, List.length_map, hsl]
      refine ⟨by show 2 ≤ sizeLine; decide, fun p hp => ?_⟩
      rw [hsl] at egs
      exact k2 p o _ (Same.trans s1 (Same.trans s2 (Same.trans s3 (Same.trans s4 (Same.new hp))))) hb upd_same (by omega)
/-! ### too many lots -/
theorem x_raise2 {C : Addr} {g g' : Str} {W : WX} {ta : TA} {D : Ends} {σ : L2.St} {H : Hp} (h : ta σ H fun vs H1 => ∃ v u, vs = [v, u] ∧ ∀ d, H1 d = none → W (.ref C) (some d) σ (upd H1 d (.xd [(g', u), (g, v)]))) : tRaise2 C g g' W ta D σ H := h
def spLotsX (K : PySem.W.Frag) (C : Addr) : Sp := fun vs H _ E => ∃ (a : Addr) (arm mod : Nat) (feet : List Str) (told : List (Str × Int)), vs = [.ref a] ∧ SheetAt K H a arm mod feet told ∧ feet.length ≤ 900 ∧ 12 < (bandsOf feet).length ∧ ∀ d H', Same H H' → H' d = some (.xd [("limit", .int 12), ("what", .str "lots")]) → E (.ref C) (some d) H'
theorem ok_lotsX (B : Bi K mg) (l_Sheet : LenC P w K mg base 1 (He.ga K "Sheet") (spSLen K)) (EM : Er2 P K mg "TooMany" (He.ga K "TooMany") "what" "limit") (F : FnP K "lots_counted" st_lots_counted f fd) : FnOk P w K mg base (L2N.CX P w) 4 f fd ["sheet"] (spLotsX K (He.ga K "TooMany")) := by
  refine ok_outN (fun_ofD F) sc_lots_counted (fun vs H Q E h => ?_) (fun cdv A outer s H vs Q E hr h => ?_)
  · obtain ⟨a, arm, mod, feet, told, rfl, _⟩ := h
    rfl
  · obtain ⟨a, arm, mod, feet, told, rfl, hS, hl, hb, k⟩ := h
    have G := B
    have cS := G.cls_Sheet
    have hbl : (bandsOf feet).length ≤ 900 := Nat.le_trans (bandsOf_len _) hl
    obtain ⟨dx, bk, wd, ft, bs, td, h1, h2, h3, h4, h5, h6⟩ := hS.ex
    refine ⟨_, ((pss_cons (ps_if (pt_cmpR op_gt (pe_callB (call_lenC l_Sheet hr (by decide)) (by rfl) G.len PySem.boot_len (pa_cons (pv 0) pa_nil)) (C8.pe_gc rfl G.c_MOST_LOTS) (nomark _))
        (pss_one (ps_raise2 rfl EM hr (L2N.takes_of rfl rfl rfl rfl) (by exact (pa_cons pe_str (pa_cons (C8.pe_gc rfl G.c_MOST_LOTS) pa_nil)))))
        pss_nil)
      (pss_cons ps_never
      (pss_cons ps_never
      (pss_cons ps_never
      (pss_cons ps_never
      (pss_one ps_never))))))), ?_⟩
    try dsimp only [cxOf]
    walk_at "go"
    refine x_lenOwn h1 ⟨a, arm, mod, feet, told, rfl, hS, _, rfl, by omega, ?_⟩
    walk_at "go"
    rw [decide_eq_true (by omega)]
    walk_at "go"
    refine x_raise2 ?_
    walk_at "go"
    exact ⟨_, _, rfl, fun d hd => k d _ (Same.new hd) upd_same⟩
/-! ### asked where an error is handled: scalars, lists of them -/
theorem _root_.L2H.RoomH.units {k : Nat} {A : Around} (r : L2H.RoomH k A) : A.units + 64 < cLine := by have := r.un; omega
def Scl (v : V) : Prop := (∃ s, v = .str s) ∨ ∃ i, v = .int i
theorem ok_likeHi (B : Bi K mg) (F : FnP K "_law_like" st_l_like f fd) : L2H.FnH P w K mg base CX0 1 f fd ["told", "due"] spLikeI := by
  obtain ⟨⟨oc, od, kV, doc, pm, an, cdv, ct, osl, rfl, lk, hcd⟩, kp⟩ := fun_ofD F
  refine L2H.fn_ofH lk hcd sc_l_like (fun vs H Q E h => ?_) (fun A outer s H vs Q E p hot hr h => ?_)
  · obtain ⟨i, j, rfl, _⟩ := h
    rfl
  · obtain ⟨i, j, rfl, k⟩ := h
    have G := B
    refine ⟨_, PSs.nox ((pss_cons (ps_if (PW.pt (pw_or (pt_val (pe_callB call_isi (by rfl) G.isinstance (by decide +kernel) (pa_cons (pv 1) (pa_cons (pe_bltn (v := .ty "list") (u := .type "list") (by rfl) G.list (by decide +kernel) rfl) pa_nil)))) (pw_or1 (pt_val (pe_callB call_isi (by rfl) G.isinstance (by decide +kernel) (pa_cons (pv 1) (pa_cons (pe_bltn (v := .ty "tuple") (u := .type "tuple") (by rfl) G.tuple (by decide +kernel) rfl) pa_nil)))))))
        (pss_cons ps_never
        (pss_one ps_never))
        pss_nil)
      (pss_cons (ps_if (pt_val (pe_callB call_isi (by rfl) G.isinstance (by decide +kernel) (pa_cons (pv 1) (pa_cons (pe_bltn (v := .ty "dict") (u := .type "dict") (by rfl) G.dict (by decide +kernel) rfl) pa_nil))))
        (pss_cons ps_never
        (pss_one ps_never))
        pss_nil)
      (pss_cons (ps_if (PW.pt (pw_or (pt_cmpR op_ne (pe_callB call_isi (by rfl) G.isinstance (by decide +kernel) (pa_cons (pv 0) (pa_cons (pe_bltn (v := .ty "bool") (u := .type "bool") (by rfl) G.bool (by decide +kernel) rfl) pa_nil))) (pe_callB call_isi (by rfl) G.isinstance (by decide +kernel) (pa_cons (pv 1) (pa_cons (pe_bltn (v := .ty "bool") (u := .type "bool") (by rfl) G.bool (by decide +kernel) rfl) pa_nil))) (nomark _)) (pw_or1 (pt_cmpR op_ne (pe_callB call_isi (by rfl) G.isinstance (by decide +kernel) (pa_cons (pv 0) (pa_cons (pe_bltn (v := .ty "int") (u := .type "int") (by rfl) G.int (by decide +kernel) rfl) pa_nil))) (pe_callB call_isi (by rfl) G.isinstance (by decide +kernel) (pa_cons (pv 1) (pa_cons (pe_bltn (v := .ty "int") (u := .type "int") (by rfl) G.int (by decide +kernel) rfl) pa_nil))) (nomark _)))))
        (pss_one (ps_ret pe_bl))
        pss_nil)
      (pss_one (ps_ret (pe_ifExp (pt_cmpR op_isNn (pv 1) pe_non (nomark _)) (pe_cmpR op_isNn (pv 0) pe_non (nomark _)) (pe_and (pe_cmpR op_eq (pe_callB call_isi (by rfl) G.isinstance (by decide +kernel) (pa_cons (pv 0) (pa_cons (pe_bltn (v := .ty "str") (u := .type "str") (by rfl) G.str (by decide +kernel) rfl) pa_nil))) (pe_callB call_isi (by rfl) G.isinstance (by decide +kernel) (pa_cons (pv 1) (pa_cons (pe_bltn (v := .ty "str") (u := .type "str") (by rfl) G.str (by decide +kernel) rfl) pa_nil))) (nomark _)) (pe_one (pe_cmpR op_eq (pv 0) (pv 1) (nomark _))))))))))), ?_⟩
    try dsimp only [cxOf, L2H.cxH]
    walk_at "go"
    rw [decide_eq_true rfl]
    walk_at "go"
    rw [decide_eq_true rfl]
    walk_at "go"
    rw [decide_eq_false (fun z : V.int j = V.non => by cases z)]
    walk_at "go"
    rw [decide_eq_true rfl]
    walk_at "go"
    exact k
def spLikeHC : Sp := fun vs H Q _ => ∃ v : V, vs = [v, v] ∧ Scl v ∧ Q (.bl true) H
theorem ok_likeHC (B : Bi K mg) (F : FnP K "_law_like" st_l_like f fd) : L2H.FnH P w K mg base CX0 1 f fd ["told", "due"] spLikeHC := by
  have FS : L2H.FnH P w K mg base CX0 1 f fd ["told", "due"] spLikeS := ok_likeH B F
  have FI : L2H.FnH P w K mg base CX0 1 f fd ["told", "due"] spLikeI := ok_likeHi B F
  refine ⟨fun vs H Q E h => ?_, fun A outer s H args us vs Q E p r hot pin e0 bt rv h => ?_⟩
  · obtain ⟨v, rfl, _⟩ := h
    rfl
  · obtain ⟨v, rfl, hv, k⟩ := h
    rcases hv with ⟨x, rfl⟩ | ⟨x, rfl⟩
    · exact FS.run A outer s H args us _ Q E p r hot pin e0 bt rv ⟨x, x, rfl, by rw [decide_eq_true rfl]; exact k⟩
    · exact FI.run A outer s H args us _ Q E p r hot pin e0 bt rv ⟨x, x, rfl, by rw [decide_eq_true rfl]; exact k⟩
theorem x_isLh {K : PySem.W.Frag} {H : Hp} {Q : VK} {p : Addr} {xs : List V} {n : String} {b : Bool} (h : H p = some (.lst xs)) (e : PySem.W.kitOne K (.type "list") (.type n) = some b) (k : Q (.bl b) H) : rIsi K [.ref p, .ty n] H Q := x_isTy (.lst h) e k
def spLikeHL (K : PySem.W.Frag) : Sp := fun vs H Q _ => ∃ (p q : Addr) (xs : List V), vs = [.ref p, .ref q] ∧ H p = some (.lst xs) ∧ H q = some (.lst xs) ∧ (∀ v ∈ xs, Scl v) ∧ xs.length ≤ 900 ∧ ∀ H', Same H H' → Q (.bl true) H'
theorem ok_likeHL (B : Bi K mg) (hC_l_like : CalH P w K mg base 1 "_law_like" ["told", "due"] spLikeHC) (F : FnP K "_law_like" st_l_like f fd) : L2H.FnH P w K mg base CX0 2 f fd ["told", "due"] (spLikeHL K) := by
  obtain ⟨f2, fd2, GL, gl2, kl2, bl2⟩ := hC_l_like.ex
  obtain ⟨⟨oc, od, kV, doc, pm, an, cdv, ct, osl, rfl, lk, hcd⟩, kp⟩ := fun_ofD F
  refine L2H.fn_ofH lk hcd sc_l_like (fun vs H Q E h => ?_) (fun A outer s H vs Q E pp hot hr h => ?_)
  · obtain ⟨p, q, xs, rfl, _⟩ := h
    rfl
  · obtain ⟨p, q, xs, rfl, hp, hq, hsc, hl, k⟩ := h
    have G := B
    have hotX : L2H.HotC (L2H.cxH CX0 P w K mg base ["told", "due", "k", "key"] "_law_like" (defScope st_l_like) f cdv A outer s H E pp).nox := ⟨pp, hot, List.mem_singleton_self _⟩
    refine ⟨_, PSs.nox ((pss_cons (ps_if (PW.pt (pw_or (pt_val (pe_callB call_isi (by rfl) G.isinstance (by decide +kernel) (pa_cons (pv 1) (pa_cons (pe_bltn (v := .ty "list") (u := .type "list") (by rfl) G.list (by decide +kernel) rfl) pa_nil)))) (pw_or1 (pt_val (pe_callB call_isi (by rfl) G.isinstance (by decide +kernel) (pa_cons (pv 1) (pa_cons (pe_bltn (v := .ty "tuple") (u := .type "tuple") (by rfl) G.tuple (by decide +kernel) rfl) pa_nil)))))))
        (pss_cons (ps_if (PW.pt (pw_or (pt_cmpR op_ne (pe_callB call_isi (by rfl) G.isinstance (by decide +kernel) (pa_cons (pv 0) (pa_cons (pe_bltn (v := .ty "list") (u := .type "list") (by rfl) G.list (by decide +kernel) rfl) pa_nil))) (pe_callB call_isi (by rfl) G.isinstance (by decide +kernel) (pa_cons (pv 1) (pa_cons (pe_bltn (v := .ty "list") (u := .type "list") (by rfl) G.list (by decide +kernel) rfl) pa_nil))) (nomark _)) (pw_or (pt_cmpR op_ne (pe_callB call_isi (by rfl) G.isinstance (by decide +kernel) (pa_cons (pv 0) (pa_cons (pe_bltn (v := .ty "tuple") (u := .type "tuple") (by rfl) G.tuple (by decide +kernel) rfl) pa_nil))) (pe_callB call_isi (by rfl) G.isinstance (by decide +kernel) (pa_cons (pv 1) (pa_cons (pe_bltn (v := .ty "tuple") (u := .type "tuple") (by rfl) G.tuple (by decide +kernel) rfl) pa_nil))) (nomark _)) (pw_or1 (pt_cmpR op_ne (pe_callB callLenS (by rfl) G.len PySem.boot_len (pa_cons (pv 0) pa_nil)) (pe_callB callLenS (by rfl) G.len PySem.boot_len (pa_cons (pv 1) pa_nil)) (nomark _))))))
          (pss_one ps_never)
          pss_nil)
        (pss_one (ps_ret (pe_cmpR (op_eqD hr.units) (pe_lcH hotX (own := [("k", 2)]) sc_l_like.nd (L2H.pi_range1H (by rfl) G.range (pa_cons (pe_callB callLenS (by rfl) G.len PySem.boot_len (pa_cons (pv 1) pa_nil)) pa_nil)) (blkOk_by (own := [("k", 2)]) (N := ["told", "due", "k", "key"]) (sc := defScope st_l_like) (by decide +kernel)) (fun _ _ _ _ _ _ hp => (pg_name (i := 2) sc_l_like.nd rfl (Or.inl rfl))) (fun _ _ _ _ _ _ hp => (pts_one (pt_not (pt_val (L2H.pe_callH (E := fun _ _ _ _ => False) GL ⟨hr.dp, hr.un⟩ (hot_blk hp) rfl gl2 kl2 bl2 (fun σ pins H s e s' I c => False.elim c) (by exact (pa_cons (pe_ix (ix_listK (K := K) rfl) (pv 0) (pv 2) (fun _ _ => rfl)) (pa_cons (pe_ix (ix_listK (K := K) rfl) (pv 1) (pv 2) (fun _ _ => rfl)) pa_nil)))))))) (fun _ _ _ _ _ _ hp => (pv 2))) (pe_lst pa_nil) (nomark _)))))
        pss_nil)
      (pss_cons ps_never
      (pss_cons ps_never
      (pss_one ps_never))))), ?_⟩
    try dsimp only [cxOf, L2H.cxH]
    walk_at "go"
    refine x_isLh (b := true) hq (kit_ty (by decide +kernel)) ?_
    walk_at "go"
    refine x_isLh (b := true) hp (kit_ty (by decide +kernel)) ?_
    walk_at "go"
    refine x_isLh (b := true) hq (kit_ty (by decide +kernel)) ?_
    walk_at "go"
    rw [decide_eq_true rfl]
    walk_at "go"
    refine x_isLh (b := false) hp (kit_ty (by decide +kernel)) ?_
    walk_at "go"
    refine x_isLh (b := false) hq (kit_ty (by decide +kernel)) ?_
    walk_at "go"
    rw [decide_eq_true rfl]
    walk_at "go"
    rw [decide_eq_true rfl]
    walk_at "go"
    refine w_lcR1 (by omega) (by omega) (by rw [Int.toNat_natCast]; exact Nat.lt_of_le_of_lt hl (by decide)) (fun i acc => acc = []) rfl ?_ ?_
    · rintro i H' acc hi s' rfl hai R S2 hR hS2
      have hi : i < xs.length := by omega
      have hx : xs[i]? = some xs[i] := List.getElem?_eq_getElem hi
      have hsx := hsc _ (List.mem_of_getElem? hx)
      generalize xs[i] = v at hx hsx
      have ax : atI xs (0 + (i : Int)) = some v := atI_of (k := i) (by omega) hx
      have hp' := s' _ _ hp
      have hq' := s' _ _ hq
      walk_at "go"
      refine ⟨rfl, ?_⟩
      walk_at "go"
      refine x_callS ?_
      walk_at "go"
      refine ⟨v, rfl, hsx, ?_⟩
      walk_at "go"
      exact hS2 _ (Same.refl _) rfl
    · rintro r H' acc hr0 s' hr' rfl
      walk_at "go"
      refine ⟨Nat.zero_le _, fun u hu => ?_⟩
      refine x_eqNil (l := []) (SqL.of (upd_old hu hr')) (SqL.of upd_same) (fun x hx => by cases hx) ?_
      rw [decide_eq_true rfl]
      walk_at "go"
      exact k _ (Same.trans s' (Same.new hu))
def spOr (sp sp' : Sp) : Sp := fun vs H Q E => sp vs H Q E ∨ sp' vs H Q E
theorem fnok_or {P : Program} {w : World} {K : PySem.W.Frag} {mg : Str → Option Value} {base : Heap} {CXx : CXT} {k : Nat} {f : Addr} {fd : FuncData} {ps : List Str} {sp sp' : Sp} (a : FnOk P w K mg base CXx k f fd ps sp) (b : FnOk P w K mg base CXx k f fd ps sp') : FnOk P w K mg base CXx k f fd ps (spOr sp sp') :=
  ⟨fun vs H Q E h => h.elim (a.len vs H Q E) (b.len vs H Q E), fun A outer s H args us vs Q E r e0 bt rv h => h.elim (a.run A outer s H args us vs Q E r e0 bt rv) (b.run A outer s H args us vs Q E r e0 bt rv)⟩
/-! ### pairs alike -/
def spLikeP (K : PySem.W.Frag) : Sp := fun vs H Q _ => ∃ (p q : Addr) (a b : Int), vs = [.ref p, .ref q] ∧ H p = some (.tup [.int a, .int b]) ∧ H q = some (.tup [.int a, .int b]) ∧ ∀ H', Same H H' → Q (.bl true) H'
theorem x_isPt {K : PySem.W.Frag} {H : Hp} {Q : VK} {p : Addr} {xs : List V} {n : String} {b : Bool} (h : H p = some (.tup xs)) (e : PySem.W.kitOne K (.type "tuple") (.type n) = some b) (k : Q (.bl b) H) : rIsi K [.ref p, .ty n] H Q := x_isTy (.tup h) e k
theorem ok_likeP (B : Bi K mg) (c_l_like : C8.Cal P w K mg base 1 "_law_like" spLikeO []) (F : FnP K "_law_like" st_l_like f fd) : FnOk P w K mg base CX0 2 f fd ["told", "due"] (spLikeP K) := by
  refine F.ok sc_l_like (fun vs H Q E h => ?_) (fun cdv A outer s H vs Q E hr h => ?_)
  · obtain ⟨p, q, a, b, rfl, _⟩ := h
    rfl
  · obtain ⟨p, q, a, b, rfl, hp, hq, k⟩ := h
    have G := B
    refine ⟨_, PSs.nox ((pss_cons (ps_if (PW.pt (pw_or (pt_val (pe_callB call_isi (by rfl) G.isinstance (by decide +kernel) (pa_cons (pv 1) (pa_cons (pe_bltn (v := .ty "list") (u := .type "list") (by rfl) G.list (by decide +kernel) rfl) pa_nil)))) (pw_or1 (pt_val (pe_callB call_isi (by rfl) G.isinstance (by decide +kernel) (pa_cons (pv 1) (pa_cons (pe_bltn (v := .ty "tuple") (u := .type "tuple") (by rfl) G.tuple (by decide +kernel) rfl) pa_nil)))))))
        (pss_cons (ps_if (PW.pt (pw_or (pt_cmpR op_ne (pe_callB call_isi (by rfl) G.isinstance (by decide +kernel) (pa_cons (pv 0) (pa_cons (pe_bltn (v := .ty "list") (u := .type "list") (by rfl) G.list (by decide +kernel) rfl) pa_nil))) (pe_callB call_isi (by rfl) G.isinstance (by decide +kernel) (pa_cons (pv 1) (pa_cons (pe_bltn (v := .ty "list") (u := .type "list") (by rfl) G.list (by decide +kernel) rfl) pa_nil))) (nomark _)) (pw_or (pt_cmpR op_ne (pe_callB call_isi (by rfl) G.isinstance (by decide +kernel) (pa_cons (pv 0) (pa_cons (pe_bltn (v := .ty "tuple") (u := .type "tuple") (by rfl) G.tuple (by decide +kernel) rfl) pa_nil))) (pe_callB call_isi (by rfl) G.isinstance (by decide +kernel) (pa_cons (pv 1) (pa_cons (pe_bltn (v := .ty "tuple") (u := .type "tuple") (by rfl) G.tuple (by decide +kernel) rfl) pa_nil))) (nomark _)) (pw_or1 (pt_cmpR op_ne (pe_callB callLenS (by rfl) G.len PySem.boot_len (pa_cons (pv 0) pa_nil)) (pe_callB callLenS (by rfl) G.len PySem.boot_len (pa_cons (pv 1) pa_nil)) (nomark _))))))
          (pss_one ps_never)
          pss_nil)
        (pss_one (ps_ret (pe_cmpR (op_eqD hr.units) (pe_lc (own := [("k", 2)]) rfl sc_l_like.nd (pi_range1 (by rfl) G.range (pa_cons (pe_callB callLenS (by rfl) G.len PySem.boot_len (pa_cons (pv 1) pa_nil)) pa_nil)) (blkOk_by (own := [("k", 2)]) (N := ["told", "due", "k", "key"]) (sc := defScope st_l_like) (by decide +kernel)) (fun _ _ _ _ _ => (pg_name (i := 2) sc_l_like.nd rfl (Or.inl rfl))) (fun _ _ _ _ _ => (pts_one (pt_not (pt_val (C8.pe_c c_l_like hr (by decide) rfl (pa_cons (pe_ix (ix_tupK (K := K) rfl) (pv 0) (pv 2) (fun _ _ => rfl)) (pa_cons (pe_ix (ix_tupK (K := K) rfl) (pv 1) (pv 2) (fun _ _ => rfl)) pa_nil))))))) (fun _ _ _ _ _ => (pv 2))) (pe_lst pa_nil) (nomark _)))))
        pss_nil)
      (pss_cons ps_never
      (pss_cons ps_never
      (pss_one ps_never))))), ?_⟩
    try dsimp only [cxOf]
    walk_at "go"
    refine x_isPt (b := false) hq (kit_ty (by decide +kernel)) ?_
    walk_at "go"
    refine x_isPt (b := true) hq (kit_ty (by decide +kernel)) ?_
    walk_at "go"
    refine x_isPt (b := false) hp (kit_ty (by decide +kernel)) ?_
    walk_at "go"
    refine x_isPt (b := false) hq (kit_ty (by decide +kernel)) ?_
    walk_at "go"
    rw [decide_eq_true rfl]
    walk_at "go"
    refine x_isPt (b := true) hp (kit_ty (by decide +kernel)) ?_
    walk_at "go"
    refine x_isPt (b := true) hq (kit_ty (by decide +kernel)) ?_
    walk_at "go"
    rw [decide_eq_true rfl]
    walk_at "go"
    refine x_lenT (SqT.of hp) ?_
    walk_at "go"
    refine x_lenT (SqT.of hq) ?_
    walk_at "go"
    rw [decide_eq_true rfl]
    walk_at "go"
    refine x_lenT (SqT.of hq) ?_
    walk_at "go"
    refine w_lcR1 (n := 2) (by decide) (by decide) (by decide) (fun i acc => acc = []) rfl ?_ ?_
    · rintro i H' acc hi s' rfl hai R S2 hR hS2
      have hi : i < 2 := hi
      obtain ⟨z, hz⟩ : ∃ z, atI [V.int a, .int b] (0 + (i : Int)) = some (.int z) := by
        match i, hi with
        | 0, _ => exact ⟨a, rfl⟩
        | 1, _ => exact ⟨b, rfl⟩
      have hp' := s' _ _ hp
      have hq' := s' _ _ hq
      walk_at "go"
      refine ⟨rfl, ?_⟩
      walk_at "go"
      refine ⟨some z, some z, rfl, ?_⟩
      rw [decide_eq_true rfl]
      walk_at "go"
      exact hS2 _ (Same.refl _) rfl
    · rintro r H' acc hr0 s' hr' rfl
      walk_at "go"
      refine ⟨Nat.zero_le _, fun u hu => ?_⟩
      refine x_eqNil (l := []) (SqL.of (upd_old hu hr')) (SqL.of upd_same) (fun x hx => by cases hx) ?_
      rw [decide_eq_true rfl]
      walk_at "go"
      exact k _ (Same.trans s' (Same.new hu))
def spMany (K : PySem.W.Frag) : Sp := fun vs H Q _ => ∃ (a : Addr) (arm mod : Nat) (feet : List Str) (told : List (Str × Int)), vs = [.ref a] ∧ SheetAt K H a arm mod feet told ∧ feet.length ≤ 900 ∧ 12 < (bandsOf feet).length ∧ ∀ H', Q (.bl true) H'
theorem ok_many (B : Bi K mg) (EM : Er2 P K mg "TooMany" (He.ga K "TooMany") "what" "limit") (gCE : mg "CombedError" = some (.ref (He.ga K "CombedError"))) (gBN : mg "BadNumber" = some (.ref (He.ga K "BadNumber"))) (bVE : mg "ValueError" = none)
    (k1 : PySem.W.kitOne K (.ref (He.ga K "TooMany")) (.ref (He.ga K "CombedError")) = some true) (k2 : PySem.W.kitOne K (.ref (He.ga K "TooMany")) (.type "ValueError") = some true) (k3 : PySem.W.kitOne K (.ref (He.ga K "TooMany")) (.ref (He.ga K "BadNumber")) = some false) (se : PySem.W.exmOne K (.ref (He.ga K "TooMany")) (.ref (He.ga K "TooMany")) = some true)
    (x_lots_counted : CalX P w K mg base 4 "lots_counted" ["sheet"] (spLotsX K (He.ga K "TooMany"))) (hL_l_like : CalH P w K mg base 2 "_law_like" ["told", "due"] (spLikeHL K)) (F : FnP K "_law_many" st_l_many f fd) : FnOk P w K mg base CX0 5 f fd ["made"] (spMany K) := by
  obtain ⟨f1, fd1, GT, gl, kl, bl⟩ := x_lots_counted.ex
  obtain ⟨f2, fd2, GL, gl2, kl2, bl2⟩ := hL_l_like.ex
  refine F.ok sc_l_many (fun vs H Q E h => ?_) (fun cdv A outer s H vs Q E hr h => ?_)
  · obtain ⟨a, arm, mod, feet, told, rfl, _⟩ := h
    rfl
  · obtain ⟨a, arm, mod, feet, told, rfl, hS, hl, hb, k⟩ := h
    have G := B
    have hr1 : Room 4 _ := hr
    have hr2 : Room 2 _ := hr.mono (by decide)
    refine ⟨_, PSs.nox (pss_cons (L2N.ps_try_as (i := 1) (tb := fun W => tDrop (tCallS (spLotsX K (He.ga K "TooMany")) (L2.WE W) (tCons (tVar 0) tNil)))
        (ts := fun a cls d => tSeq (tAsg (tAndV (tCB (rIsX K (He.ga K "TooMany") a cls d) (tCons (tVar 1) (tCons (tC (.ref (He.ga K "CombedError"))) tNil))) (tAndV (tCB (rIsX K (He.ga K "TooMany") a cls d) (tCons (tVar 1) (tCons (tC (.ty "ValueError")) tNil))) (tNotV (tCB (rIsX K (He.ga K "TooMany") a cls d) (tCons (tVar 1) (tCons (tC (.ref (He.ga K "BadNumber"))) tNil)))))) (gName 2))
          (tRet (tAndV (tVar 2) (tCallS (spLikeHL K) (fun _ _ _ _ => False) (tCons (tLst (tCons (tXf a cls d (He.ga K "TooMany") "what" (tVar 1)) (tCons (tXf a cls d (He.ga K "TooMany") "limit" (tVar 1)) tNil))) (tCons (tLst (tCons (tC (.str "lots")) (tCons (tC (.int 12)) tNil))) tNil)))))) (Wout := fun _ _ _ _ => False)
        rfl rfl sc_l_many.nd rfl rfl ⟨rfl, by decide, Or.inl EM.g⟩ takesN0
        (fun W pn xe tk _ => pss_one (ps_expr (pe_callS GT hr1 rfl gl kl bl (fun σ => L2N.passAt tk σ) (by exact (pa_cons (pv 0) pa_nil)))))
        (fun a oe cls d pn hz hf => pss_cons (ps_set (i := 2) sc_l_many.nd rfl (Or.inl rfl) (pe_and (pe_callB (call_isX EM.ec hz.zc hf) (by rfl) G.isinstance (by decide +kernel) (by exact (pa_cons (pv 1) (pa_cons (pe_glob rfl gCE rfl) pa_nil))))
            (pe_and (pe_callB (call_isX EM.ec hz.zc hf) (by rfl) G.isinstance (by decide +kernel) (by exact (pa_cons (pv 1) (pa_cons (pe_bltn (v := .ty "ValueError") (u := .type "ValueError") rfl bVE (by decide +kernel) rfl) pa_nil))))
              (pe_one (pe_not (pe_callB (call_isX EM.ec hz.zc hf) (by rfl) G.isinstance (by decide +kernel) (by exact (pa_cons (pv 1) (pa_cons (pe_glob rfl gBN rfl) pa_nil)))))))))
          (pss_one (ps_ret (pe_and (pv 2) (pe_one (L2H.pe_callH GL ⟨hr2.dp, hr2.un⟩ (hot_suite hz hf) rfl gl2 kl2 bl2 (fun σ pins H s e s' I c => False.elim c) (by exact (pa_cons (pe_lst (pa_cons (pe_xf EM.xf EM.nof hz.zc hf (pv 1)) (pa_cons (pe_xf EM.xf EM.nog hz.zc hf (pv 1)) pa_nil))) (pa_cons (pe_lst (pa_cons pe_str (pa_cons pe_int pa_nil))) pa_nil))))))))))
      (pss_one ps_never)), ?_⟩
    try dsimp only [cxOf]
    refine x_seq ?_
    refine x_drop (x_callS ?_)
    walk_at "go"
    refine ⟨a, arm, mod, feet, told, rfl, hS, hl, hb, fun d H1 s1 hd => ?_⟩
    refine ⟨true, se, fun _ x hx => ?_, fun z => by cases z⟩
    walk_at "go"
    refine ⟨_, _, true, d, _, rfl, rfl, hd, rfl, fun u r => r, k1, ?_⟩
    walk_at "go"
    refine ⟨_, _, true, d, _, rfl, rfl, hd, rfl, fun u r => r, k2, ?_⟩
    walk_at "go"
    refine ⟨_, _, false, d, _, rfl, rfl, hd, rfl, fun u r => r, k3, ?_⟩
    walk_at "go"
    refine x_callS ?_
    walk_at "go"
    refine x_xf rfl rfl hd rfl ?_
    walk_at "go"
    refine x_xf rfl rfl hd rfl ?_
    walk_at "go"
    refine ⟨by show 2 ≤ sizeLine; decide, fun p hp => ?_⟩
    walk_at "go"
    refine ⟨by show 2 ≤ sizeLine; decide, fun q hq => ?_⟩
    walk_at "go"
    refine ⟨p, q, [.str "lots", .int 12], rfl, upd_old hq upd_same, upd_same, fun v hv => ?_, by show 2 ≤ 900; decide, fun H2 s2 => ?_⟩
    · rcases List.mem_cons.mp hv with e | hv
      · exact .inl ⟨_, e⟩
      · exact .inr ⟨_, List.mem_singleton.mp hv⟩
    walk_at "go"
    exact k _
/-- the due counts -/
def DueP (S : Own) (v : V) (H : Hp) : Prop := (hasB S.arm S.mod (partN S) = false ∧ v = .non) ∨ (hasB S.arm S.mod (partN S) = true ∧ ∃ p o, v = .ref p ∧ H p = some (.tup [.int (((2 ^ (bandsOf S.feet).length : Nat) : Int) - o), .int o]) ∧ 2 * o = ((2 ^ (bandsOf S.feet).length : Nat) : Int) - LotS S.feet (oddN (partN S) S.nums))
def spLLots : Sp := fun vs H Q _ => ∃ (o fa na : Addr) (S : Own), vs = [.ref o] ∧ OwnAt H o fa na S ∧ OwnG S ∧ ∀ v H', Same H H' → DueP S v H' → Q v H'
theorem ok_llots (B : Bi K mg) (c_l_divisor : C8.Cal P w K mg base 1 "_law_divisor" (spLDiv K) []) (c_l_bands : C8.Cal P w K mg base 2 "_law_bands" (spBands K) []) (c_l_table : C8.Cal P w K mg base 2 "_law_table" (spLTable K) []) (c_l_sums : C8.Cal P w K mg base 1 "_law_sums" (spSums K) []) (F : FnP K "_law_lots" st_l_lots f fd) : FnOk P w K mg base CX0 3 f fd ["own"] spLLots := by
  refine F.ok sc_l_lots (fun vs H Q E h => ?_) (fun cdv A outer s H vs Q E hr h => ?_)
  · obtain ⟨o, fa, na, S, rfl, _⟩ := h
    rfl
  · obtain ⟨o, fa, na, S, rfl, hO, g, k⟩ := h
    have G := B
    have hO1 := hO.o_
    have hO3 := hO.n_
    have ga2 := g.a2
    have gm2 := g.m2
    have gln := g.ln
    refine ⟨_, PSs.nox ((pss_cons (ps_set (i := 1) sc_l_lots.nd rfl (Or.inr rfl) (C8.pe_c c_l_divisor hr (by decide) rfl (pa_cons (pe_op op_cat (pe_slice sl_list (pv 0) po_none (po_some pe_int)) (pe_listVals rfl (pe_ix ix_list (pv 0) pe_int (fun _ _ => rfl)) (by rfl) G.list (by decide +kernel))) pa_nil)))
      (pss_cons (ps_if (PW.pt (pw_or (pt_cmpR op_eq (pe_op op_mod (pe_callTy call_intI (by rfl) G.int (by decide +kernel) (pa_cons (pe_op op_fdiv (pe_ix ix_list (pv 0) pe_int (fun _ _ => rfl)) (pv 1)) pa_nil)) pe_int) pe_int (nomark _)) (pw_or1 (pt_cmpR op_eq (pe_op op_mod (pe_callTy call_intI (by rfl) G.int (by decide +kernel) (pa_cons (pe_op op_fdiv (pe_ix ix_list (pv 0) pe_int (fun _ _ => rfl)) (pv 1)) pa_nil)) pe_int) pe_int (nomark _)))))
        (pss_one (ps_ret pe_non))
        pss_nil)
      (pss_cons (ps_set (i := 2) sc_l_lots.nd rfl (Or.inl rfl) (C8.pe_c c_l_sums hr (by decide) rfl (pa_cons (pe_lc (own := [("name", 3)]) rfl sc_l_lots.nd (pi_list (C8.pe_c c_l_bands hr (by decide) rfl (pa_cons (pe_ix ix_list (pv 0) pe_int (fun _ _ => rfl)) pa_nil))) (blkOk_by (own := [("name", 3)]) (N := ["own", "part", "sums", "name"]) (sc := defScope st_l_lots) (by decide +kernel)) (fun _ _ _ _ _ => (pg_name (i := 3) sc_l_lots.nd rfl (Or.inl rfl))) (fun _ _ _ _ _ => pts_nil) (fun _ _ _ _ _ => (pe_op op_mod (pe_callTy call_intI (by rfl) G.int (by decide +kernel) (pa_cons (pe_op op_fdiv (pe_dget (hu_of hr) (pe_ix (ix_listK (K := K) rfl) (pv 0) pe_int (fun _ _ => rfl)) (pv 3) (fun _ _ => rfl)) (pv 1)) pa_nil)) pe_int))) (pa_cons (C8.pe_c c_l_table hr (by decide) rfl (pa_cons (pe_ix ix_list (pv 0) pe_int (fun _ _ => rfl)) pa_nil)) pa_nil))))
      (pss_one (ps_ret (pe_tup (pa_cons (pe_op op_sub (pe_callB callLenS (by rfl) G.len PySem.boot_len (pa_cons (pv 2) pa_nil)) (pe_callB (cr_sum rfl) (by rfl) G.sum (by decide +kernel) (pa_cons (pv 2) pa_nil))) (pa_cons (pe_callB (cr_sum rfl) (by rfl) G.sum (by decide +kernel) (pa_cons (pv 2) pa_nil)) pa_nil))))))))), ?_⟩
    try dsimp only [cxOf]
    walk_at "go"
    refine x_slL (SqL.of hO1) fun p hp => ?_
    have e2 : cutV [V.int (S.arm : Nat), .int (S.mod : Nat), .ref fa, .ref na] none (some 2) = [V.int (S.arm : Nat), .int (S.mod : Nat)] := rfl
    rw [e2]
    have hO3' := upd_old (o := HO.lst [V.int (S.arm : Nat), .int (S.mod : Nat)]) hp hO3
    have hO1' := upd_old (o := HO.lst [V.int (S.arm : Nat), .int (S.mod : Nat)]) hp hO1
    walk_at "go"
    intro q hq
    rw [valsD]
    refine x_cat (xs := [V.int (S.arm : Nat), .int (S.mod : Nat)]) (ys := (S.nums.map fun p => p.2).map V.int) (upd_old hq upd_same) upd_same (by rw [List.length_map, List.length_map]; have := g.nl; exact Nat.le_trans (show _ ≤ 1002 by show 2 + S.nums.length ≤ 1002; omega) (by decide)) fun r hr => ?_
    have s3 := Same.trans (Same.new hp) (Same.trans (Same.new (o := HO.lst ((S.nums.map fun p => p.2).map V.int)) hq) (Same.new (o := HO.lst ([V.int (S.arm : Nat), .int (S.mod : Nat)] ++ (S.nums.map fun p => p.2).map V.int)) hr))
    walk_at "go"
    refine ⟨r, (S.arm : Int) :: (S.mod : Int) :: S.nums.map fun p => p.2, rfl, SqL.of upd_same, fun z hz => ?_, ?_⟩
    · rcases List.mem_cons.mp hz with e | hz
      · rw [e, Int.natAbs_natCast]; omega
      · rcases List.mem_cons.mp hz with e | hz
        · rw [e, Int.natAbs_natCast]; omega
        · obtain ⟨p, hp, e⟩ := List.mem_map.mp hz
          rw [← e]
          exact g.bd p hp
    have ep : gcdZ ((S.arm : Int) :: (S.mod : Int) :: S.nums.map fun p => p.2) = partN S := rfl
    rw [ep]
    have hO4 := hO.same s3
    revert s3 hO4
    generalize (upd (upd (upd H p (.lst [V.int (S.arm : Nat), .int (S.mod : Nat)])) q (.lst ((S.nums.map fun p => p.2).map V.int))) r (.lst ([V.int (S.arm : Nat), .int (S.mod : Nat)] ++ (S.nums.map fun p => p.2).map V.int))) = H3
    intro s3 hO4
    have hO41 := hO4.o_
    obtain ⟨he1, he2⟩ := share_le (mod := S.mod) (told := S.nums) g.a1
    have he1 : 1 ≤ partN S := he1
    have he2 : partN S ≤ S.arm := he2
    unfold DueP at k
    generalize hpe : partN S = e at he1 he2 k
    walk_at "go"
    cases hb : hasB S.arm S.mod e with
    | false =>
      rcases hasB_not hb with h | h
      · rw [decide_eq_true h]
        walk_at "go"
        exact k _ _ s3 (.inl ⟨hb, rfl⟩)
      · by_cases h2 : ((S.arm : Int) / (e : Int)) % 2 = 0
        · rw [decide_eq_true h2]
          walk_at "go"
          exact k _ _ s3 (.inl ⟨hb, rfl⟩)
        · rw [decide_eq_false h2]
          walk_at "go"
          rw [decide_eq_true h]
          walk_at "go"
          exact k _ _ s3 (.inl ⟨hb, rfl⟩)
    | true =>
      obtain ⟨b1, b2⟩ := hasB_yes hb
      rw [decide_eq_false (by omega)]
      walk_at "go"
      rw [decide_eq_false (by omega)]
      walk_at "go"
      refine ⟨fa, S.feet, rfl, hO4.f_, g.wd, by omega, fun bp H4 hbp0 s4 hbp => ?_⟩
      have hO5 := hO4.same s4
      have hO51 := hO5.o_
      have hO53 := hO5.n_
      have hbl : (bandsOf S.feet).length ≤ 16 := by
        have h2 : 2 * (bandsOf S.feet).length = S.feet.length := by
          have hp : S.feet.Perm (bandsOf S.feet ++ bandsOf S.feet) := by
            rw [List.perm_iff_count]
            intro a
            rw [List.count_append]
            by_cases ha : a ∈ S.feet
            · rw [g.wd.two a ha, ((nodup_bandsOf S.feet).count), if_pos ((mem_bandsOf _ _).mpr ha)]
            · rw [List.count_eq_zero_of_not_mem ha, List.count_eq_zero_of_not_mem fun z => ha ((mem_bandsOf _ _).mp z)]
          have := hp.length_eq
          rw [List.length_append] at this
          omega
        omega
      walk_at "go"
      refine w_lcL (xs := (bandsOf S.feet).map V.str) (SqL.of hbp) (by rw [List.length_map]; exact Nat.lt_of_le_of_lt hbl (by decide)) (fun i acc => acc = (((bandsOf S.feet).map (oddN e S.nums)).map bV).take i) rfl ?_ ?_
      · rintro i x H' acc hi s' rfl hai R S2 hR _
        obtain ⟨b, rfl, hb⟩ := str_at hi
        obtain ⟨z, gz, _⟩ := aGet_of_mem (g.fk b ((mem_bandsOf _ _).mp (List.mem_of_getElem? hb)))
        have hO6 := s' _ _ hO51
        have hO7 := s' _ _ hO53
        walk_at "go"
        refine ⟨rfl, ?_⟩
        walk_at "go"
        refine x_dgetS (v := .int z) (.inl hO7) (by rw [valV_dD, gz]; rfl) ?_
        walk_at "go"
        refine hR _ _ (Same.refl _) ?_
        have ho : (z / (e : Int)) % 2 = (((oddN e S.nums b).toNat : Nat) : Int) := by
          unfold oddN
          rw [gz]
          show (z / (e : Int)) % 2 = (((decide ((z / (e : Int)) % 2 = 1)).toNat : Nat) : Int)
          by_cases c : (z / (e : Int)) % 2 = 1
          · rw [decide_eq_true c, c]; rfl
          · rw [decide_eq_false c]
            show _ = (0 : Int)
            omega
        rw [ho, take_snoc (show (((bandsOf S.feet).map (oddN e S.nums)).map bV)[i]? = some (bV (oddN e S.nums b)) by rw [List.getElem?_map, List.getElem?_map, hb]; rfl)]
        rfl
      · rintro cp H5 acc hcp s5 hcp' rfl
        rw [List.length_map, List.take_of_length_le (by rw [List.length_map, List.length_map]; exact Nat.le_refl _)] at hcp'
        have hO6 := hO5.same s5
        have hO61 := hO6.o_
        walk_at "go"
        refine ⟨fa, S.feet, rfl, hO6.f_, g.wd, by omega, fun tp H6 htp0 s6 hT => ?_⟩
        walk_at "go"
        refine ⟨cp, tp, (bandsOf S.feet).map (oddN e S.nums), tabW S.feet, rfl, s6 _ _ hcp', hT, by rw [tabW_len, List.length_map], by rw [List.length_map]; exact hbl, fun row hrow => ?_, fun sp H7 hsp0 s7 hsp => ?_⟩
        · obtain ⟨b, _, rfl⟩ := List.mem_map.mp hrow
          unfold Rk.rowB
          rw [List.length_map, List.length_map]
        walk_at "go"
        rw [List.length_map] at hsp ⊢
        have egs := Rk.gap_gs (Tm (tabW S.feet)) (Cm ((bandsOf S.feet).map (oddN e S.nums))) (bandsOf S.feet).length
        have hsl := Rk.sumsL_len (Tm (tabW S.feet)) (Cm ((bandsOf S.feet).map (oddN e S.nums))) (bandsOf S.feet).length
        have e9 : Rk.gs (Tm (tabW S.feet)) (Rk.dn (bandsOf S.feet).length) (Cm ((bandsOf S.feet).map (oddN e S.nums))) = LotS S.feet (oddN e S.nums) := by
          have hT2 : ∀ i j a b, (bandsOf S.feet)[i]? = some a → (bandsOf S.feet)[j]? = some b → Tm (tabW S.feet) i j = Rk.cr S.feet a b := fun i j a b ha hb => by
            unfold Tm tabW
            have e1 : ((bandsOf S.feet).map (Rk.rowB (Rk.cr S.feet) (bandsOf S.feet))).getD i [] = Rk.rowB (Rk.cr S.feet) (bandsOf S.feet) a := by
              rw [List.getD_eq_getElem?_getD, List.getElem?_map, ha]; rfl
            rw [e1, Rk.row_at, hb]; rfl
          have wd := wd_of g.wd
          rw [Rk.gs_perm (Rk.dn_perm _) (fun i hi j hj => by
            have hi := Rk.dn_mem.mp hi
            have hj := Rk.dn_mem.mp hj
            rw [hT2 i j _ _ (band_at hi) (band_at hj), hT2 j i _ _ (band_at hj) (band_at hi)]
            exact wd.sym _ _)]
          exact gs_idx hT2 fun i a ha => by
            show ((bandsOf S.feet).map (oddN e S.nums)).getD i false = _
            rw [List.getD_eq_getElem?_getD, List.getElem?_map, ha]; rfl
        rw [e9] at egs
        walk_at "go"
        rw [show ((bandsOf S.feet).map (oddN e S.nums)).length = (bandsOf S.feet).length from List.length_map ..]
        revert hsp egs hsl
        generalize Rk.sumsL (Tm (tabW S.feet)) (Cm ((bandsOf S.feet).map (oddN e S.nums))) (bandsOf S.feet).length = bs
        intro hsp egs hsl
        have eL : bs.map bV = (bs.map fun b : Bool => ((b.toNat : Nat) : Int)).map V.int := by rw [List.map_map]; rfl
        rw [eL] at hsp
        refine x_sum (SqL.of hsp) ?_
        walk_at "go"
        refine x_sum (SqL.of hsp) ?_
        walk_at "go"
        generalize (bs.map fun b : Bool => ((b.toNat : Nat) : Int)).sum = ob at egs
        rw [hsl] at egs ⊢
        refine ⟨by show 2 ≤ sizeLine; decide, fun pt hpt => ?_⟩
        exact k _ _ (Same.trans s3 (Same.trans s4 (Same.trans s5 (Same.trans s6 (Same.trans s7 (Same.new hpt)))))) (.inr ⟨hb, pt, ob, rfl, upd_same, by omega⟩)
theorem keys_len {S : Own} (k : S.Ok) : S.nums.length = (bandsOf S.feet).length := by
  have p : (S.nums.map (·.1)).Perm (bandsOf S.feet) := (List.perm_ext_iff_of_nodup k.nd (nodup_bandsOf _)).mpr fun a => by
    rw [mem_bandsOf]
    constructor
    · intro h
      obtain ⟨q, hq, e⟩ := List.mem_map.mp h
      rw [← e]
      exact k.kf q hq
    · exact k.fk a
  have := p.length_eq
  rwa [List.length_map] at this
theorem bands_two {w : List Str} (h : IsWord w) : 2 * (bandsOf w).length = w.length := by
  have hp : w.Perm (bandsOf w ++ bandsOf w) := by
    rw [List.perm_iff_count]
    intro a
    rw [List.count_append]
    by_cases ha : a ∈ w
    · rw [h.two a ha, ((nodup_bandsOf w).count), if_pos ((mem_bandsOf _ _).mpr ha)]
    · rw [List.count_eq_zero_of_not_mem ha, List.count_eq_zero_of_not_mem fun z => ha ((mem_bandsOf _ _).mp z)]
  have := hp.length_eq
  rw [List.length_append] at this
  omega
theorem red_ex {ks rows : List Nat} (h : Rk.Ech ks rows) : ∀ n : Nat, ∃ s, Rk.Span ks s ∧ (n ^^^ s = 0 ∨ (n ^^^ s ≠ 0 ∧ (n ^^^ s).log2 ∉ ks.map Nat.log2)) := by
  intro n
  induction n using Nat.strongRecOn with
  | _ n ih =>
    by_cases h0 : n = 0
    · exact ⟨0, Rk.Span.zero _, .inl (by rw [h0]; rfl)⟩
    · by_cases ht : n.log2 ∈ ks.map Nat.log2
      · obtain ⟨b, hb, e⟩ := List.mem_map.mp ht
        obtain ⟨s, hs, hr⟩ := ih (n ^^^ b) (Rk.xor_less h0 (h.pos b hb) e.symm)
        refine ⟨b ^^^ s, Rk.Span.add (Rk.Span.mem hb) hs, ?_⟩
        rw [← Nat.xor_assoc]
        exact hr
      · exact ⟨0, Rk.Span.zero _, .inr (by rw [Nat.xor_zero]; exact ⟨h0, ht⟩)⟩
theorem ech_ex (rows : List Nat) : ∃ ks, Rk.Ech ks rows := by
  suffices h : ∀ n (rows : List Nat), rows.length = n → ∃ ks, Rk.Ech ks rows from h _ rows rfl
  intro n
  induction n with
  | zero => intro rows h; rw [List.eq_nil_of_length_eq_zero h]; exact ⟨[], .nil⟩
  | succ n ih =>
    intro rows h
    have hne : rows ≠ [] := fun z => by rw [z] at h; cases h
    obtain ⟨rs, r, e⟩ : ∃ rs r, rows = rs ++ [r] := ⟨rows.dropLast, rows.getLast hne, (List.dropLast_concat_getLast hne).symm⟩
    subst e
    obtain ⟨ks, hk⟩ := ih rs (by rw [List.length_append] at h; simpa using h)
    obtain ⟨s, hs, hr⟩ := red_ex hk r
    rcases hr with z | ⟨z1, z2⟩
    · exact ⟨_, hk.same hs z⟩
    · exact ⟨_, hk.more hs z1 z2⟩
theorem ech_le {ks rows : List Nat} (h : Rk.Ech ks rows) : ks.length ≤ rows.length := by
  have e := h.cnt
  have hp : 0 < 2 ^ rows.length := Nat.pow_pos (by decide)
  have h1 : 2 ^ ks.length ≤ 2 ^ rows.length := by
    rw [← e]
    refine Nat.le_mul_of_pos_left _ (Nat.pos_of_ne_zero fun z => ?_)
    rw [z, Nat.zero_mul] at e
    omega
  exact (Nat.pow_le_pow_iff_right (by decide)).mp h1
/-- the gap of a word's lots -/
theorem gap_abs {w : List Str} (hW : IsWord w) {k : Nat} (hR : Rims w k) (c : Str → Bool) : ∃ h : Nat, h ≤ (bandsOf w).length ∧ (((bandsOf w).length : Int) + 1 - (k : Int)) / 2 = (h : Int) ∧ (LotS w c = 0 ∨ LotS w c = ((2 ^ ((bandsOf w).length - h) : Nat) : Int) ∨ LotS w c = -((2 ^ ((bandsOf w).length - h) : Nat) : Int)) := by
  obtain ⟨ks, hE⟩ := ech_ex ((tabW w).map fun row => Rk.mk row.reverse)
  have hK := ech_low hW hE
  have hle := ech_le hE
  rw [List.length_map, tabW_len] at hle
  obtain ⟨q1, q2⟩ := rims_law hW hR hK
  have wd := wd_of hW
  refine ⟨ks.length / 2, by omega, by omega, ?_⟩
  have hk2 : Rk.kerN (Rk.cr w) (bandsOf w) * 2 ^ (2 * (ks.length / 2)) = 2 ^ (bandsOf w).length := by
    have e : 2 * (ks.length / 2) = ks.length := by omega
    rw [e]
    exact hK
  rcases Rk.gs_abs (nodup_bandsOf w) (fun a _ b _ => wd.sym a b) (fun a _ => wd.diag a) c (by omega) hk2 with z | z
  · exact .inl z
  · refine .inr ?_
    have ep : ((2 ^ ((bandsOf w).length - ks.length / 2) : Nat) : Int) = 2 ^ ((bandsOf w).length - ks.length / 2) := by rw [Int.natCast_pow]; rfl
    rw [ep]
    have z : LotS w c * LotS w c = 2 ^ ((bandsOf w).length - ks.length / 2) * 2 ^ ((bandsOf w).length - ks.length / 2) := z
    generalize LotS w c = g at z
    generalize (2 : Int) ^ ((bandsOf w).length - ks.length / 2) = t at z
    have hz : (g - t) * (g + t) = 0 := by
      rw [Int.sub_mul, Int.mul_add, Int.mul_add, Int.mul_comm t g]
      omega
    rcases Int.mul_eq_zero.mp hz with a | a
    · exact .inl (by omega)
    · exact .inr (by omega)
theorem DueP.same {S : Own} {v : V} {H H' : Hp} (h : DueP S v H) (s : Same H H') : DueP S v H' := by
  rcases h with ⟨a, b⟩ | ⟨a, p, o, e, g, q⟩
  · exact .inl ⟨a, b⟩
  · exact .inr ⟨a, p, o, e, s _ _ g, q⟩
theorem DueP.kp {S : Own} {v : V} {H H' : Hp} {b l : Addr} (h : DueP S v H) (hB : BagAt H b l) (k : Kp b H H') : DueP S v H' := by
  rcases h with ⟨a, c⟩ | ⟨a, p, o, e, g, q⟩
  · exact .inl ⟨a, c⟩
  · refine .inr ⟨a, p, o, e, k _ _ (fun z => ?_) g, q⟩
    obtain ⟨_, _, _, _, _, _, h1, _⟩ := hB.ex
    rw [z, h1] at g
    cases g
theorem Step.dueP {S S' : Own} (h : Step S S') (k : S.Ok) (g : OwnG S) {v : V} {H : Hp} (hd : DueP S' v H) (hl : (bandsOf S'.feet).length = (bandsOf S.feet).length) : DueP S v H := by
  obtain ⟨e1, e2⟩ := h.same
  have ep := h.part k
  unfold DueP at hd ⊢
  rw [ep, e1, e2, hl] at hd
  rcases hd with z | ⟨a, p, o, e, q, r⟩
  · exact .inl z
  · rw [h.lots k.wd (g.bal a)] at r
    exact .inr ⟨a, p, o, e, q, r⟩
theorem Steps.dueP {S S' : Own} (h : Steps S S') (k0 : S.Ok) (k' : S'.Ok) (hl : S.feet.length ≤ 32) {v : V} {H : Hp} (hd : DueP S' v H) : DueP S v H := by
  induction h with
  | refl => exact hd
  | tail h k s ih =>
    refine ih k (s.dueP k (k.g (by rw [h.len]; exact hl)) hd ?_)
    have a := bands_two k'.wd
    have b := bands_two k.wd
    have c1 := h.len
    have c2 := (Steps.tail h k s).len
    omega
theorem lotsC_ok {S : Own} (g : OwnG S) (k : S.Ok) (hb : (bandsOf S.feet).length ≤ 12) {md : Addr} {H : Hp} {Q : VK} {E : XK} (hM : SheetAt K H md S.arm S.mod S.feet (toldOf S.mod (bandsOf S.feet) S.nums)) (hk : ∀ v H', Same H H' → DueP S v H' → Q v H') : spLotsC K [.ref md] H Q E := by
  obtain ⟨d1, d2⟩ := told_lots g
  have gl := g.ln
  refine ⟨md, S.arm, S.mod, S.feet, _, rfl, hM, g.wd, hb, by omega, g.a1, g.a2, fun H' s h => ?_, fun p o H' s h ht ho => ?_⟩
  · rw [d1] at h
    exact hk _ H' s (.inl ⟨h, rfl⟩)
  · rw [d1] at h ho
    rw [d2 h] at ho
    exact hk _ H' s (.inr ⟨h, p, o, rfl, ht, ho⟩)
theorem like_ok {S : Own} {v v' : V} {H : Hp} {Q : VK} {E : XK} (h : DueP S v H) (h' : DueP S v' H) (k : ∀ H', Same H H' → Q (.bl true) H') : spOr (spLikeP K) spLikeO [v, v'] H Q E := by
  rcases h with ⟨a, rfl⟩ | ⟨a, p, o, rfl, g, q⟩
  · rcases h' with ⟨a', rfl⟩ | ⟨a', _⟩
    · refine .inr ⟨none, none, rfl, ?_⟩
      rw [decide_eq_true rfl]
      exact k _ (Same.refl _)
    · rw [a] at a'; cases a'
  · rcases h' with ⟨a', _⟩ | ⟨a', p', o', rfl, g', q'⟩
    · rw [a] at a'; cases a'
    · have e : o = o' := by omega
      subst e
      exact .inl ⟨p, p', _, o, rfl, g, g', k⟩
def spLaw (K : PySem.W.Frag) : Sp := fun vs H Q _ => ∃ (a : Addr) (ns : List Int), vs = [.ref a] ∧ SqL K H a (ns.map V.int) ∧ ns.length ≤ 63 ∧ ∀ H', Q (.bl true) H'
theorem ok_law (B : Bi K mg) (c_l_bag : C8.Cal P w K mg base 1 "_law_bag" (spBag K) []) (c_l_draw : C8.Cal P w K mg base 1 "_law_draw" spDraw []) (c_l_sheet : C8.Cal P w K mg base 5 "_law_sheet" spLSheet []) (c_l_steered : C8.Cal P w K mg base 5 "_law_steered" spSteered []) (c_l_made : C8.Cal P w K mg base 5 "_law_made" (spMade K) [])
    (cU_l_like : C8.Cal P w K mg base 2 "_law_like" (spOr (spLikeP K) spLikeO) []) (c_l_moved : C8.Cal P w K mg base 5 "_law_moved" spMoved []) (c_l_lots : C8.Cal P w K mg base 3 "_law_lots" spLLots []) (c_l_rims : C8.Cal P w K mg base 2 "_law_rims" spLRims []) (c_l_many : C8.Cal P w K mg base 5 "_law_many" (spMany K) [])
    (c_lots_counted : C8.Cal P w K mg base 4 "lots_counted" (spLotsC K) []) (c_lots_counted_sheet : CalN P w K mg base 4 "lots_counted" (spLotsC K) 0 ["sheet"] (fun _ zs => zs))
    (F : FnP K "law" st_law f fd) : FnOk P w K mg base CX0 6 f fd ["script"] (spLaw K) := by
  have c_l_like := cU_l_like
  refine F.ok sc_law (fun vs H Q E h => ?_) (fun cdv A outer s H vs Q E hr h => ?_)
  · obtain ⟨a, ns, rfl, _⟩ := h
    rfl
  · obtain ⟨a, ns, rfl, hS, hl, kk⟩ := h
    have G := B
    refine ⟨_, PSs.nox ((pss_cons (ps_set (i := 1) sc_law.nd rfl (Or.inl rfl) (C8.pe_c c_l_bag hr (by decide) rfl (pa_cons (pv 0) pa_nil)))
      (pss_cons (ps_set (i := 2) sc_law.nd rfl (Or.inl rfl) (C8.pe_c c_l_draw hr (by decide) rfl (pa_cons (pv 1) (pa_cons pe_int pa_nil))))
      (pss_cons (ps_set (i := 3) sc_law.nd rfl (Or.inl rfl) (C8.pe_c c_l_sheet hr (by decide) rfl (pa_cons (pv 1) (pa_cons pe_int (pa_cons pe_int pa_nil)))))
      (C8.pss_cut (ps_if (pt_cmpR op_eq (pv 2) pe_int (nomark _))
        (pss_one (ps_set (i := 3) sc_law.nd rfl (Or.inl rfl) (C8.pe_c c_l_sheet hr (by decide) rfl (pa_cons (pv 1) (pa_cons pe_int (pa_cons pe_int pa_nil))))))
        (pss_one (ps_if (PW.pt (pw_or (pt_cmpR op_eq (pv 2) pe_int (nomark _)) (pw_or1 (pt_cmpR op_eq (pv 2) pe_int (nomark _)))))
          (pss_one (ps_set (i := 3) sc_law.nd rfl (Or.inl rfl) (C8.pe_c c_l_sheet hr (by decide) rfl (pa_cons (pv 1) (pa_cons pe_int (pa_cons pe_int pa_nil))))))
          (pss_one (ps_if (pt_cmpR op_eq (pe_op op_mod (pe_callTy call_intI (by rfl) G.int (by decide +kernel) (pa_cons (pv 2) pa_nil)) pe_int) pe_int (nomark _))
            (pss_one (ps_set (i := 3) sc_law.nd rfl (Or.inl rfl) (C8.pe_c c_l_steered hr (by decide) rfl (pa_cons (pv 1) (pa_cons pe_int (pa_cons (pe_op op_fdiv (pe_op op_mod (pe_callTy call_intI (by rfl) G.int (by decide +kernel) (pa_cons (pv 2) pa_nil)) pe_int) pe_int) pa_nil))))))
            pss_nil)))))
      (pss_cons (ps_set (i := 4) sc_law.nd rfl (Or.inl rfl) (C8.pe_c c_l_made hr (by decide) rfl (pa_cons (pv 3) pa_nil)))
      (pss_cons (ps_set (i := 5) sc_law.nd rfl (Or.inl rfl) (C8.pe_c c_l_steered hr (by decide) rfl (pa_cons (pv 1) (pa_cons pe_int (pa_cons (C8.pe_c c_l_draw hr (by decide) rfl (pa_cons (pv 1) (pa_cons pe_int pa_nil))) pa_nil)))))
      (pss_cons (ps_if (pt_not (pt_val (C8.pe_c c_l_like hr (by decide) rfl (pa_cons (C8.pe_c c_lots_counted hr (by decide) rfl (pa_cons (C8.pe_c c_l_made hr (by decide) rfl (pa_cons (pv 5) pa_nil)) pa_nil)) (pa_cons (C8.pe_c c_l_lots hr (by decide) rfl (pa_cons (pv 5) pa_nil)) pa_nil)))))
        (pss_one (ps_ret pe_bl))
        pss_nil)
      (pss_cons (ps_if (pt_cmpR op_gt (pe_callB call_lenDi (by rfl) G.len PySem.boot_len (pa_cons (pe_ix ix_list (pv 3) pe_int (fun _ _ => rfl)) pa_nil)) pe_int (nomark _))
        (pss_one (ps_ret (C8.pe_c c_l_many hr (by decide) rfl (pa_cons (pv 4) pa_nil))))
        pss_nil)
      (pss_cons (ps_set (i := 6) sc_law.nd rfl (Or.inl rfl) (C8.pe_c c_l_lots hr (by decide) rfl (pa_cons (pv 3) pa_nil)))
      (pss_cons (ps_if (pt_not (pt_val (C8.pe_c c_l_like hr (by decide) rfl (pa_cons (C8.pe_c c_lots_counted hr (by decide) rfl (pa_cons (pv 4) pa_nil)) (pa_cons (pv 6) pa_nil)))))
        (pss_one (ps_ret pe_bl))
        pss_nil)
      (pss_cons (ps_if (pt_cmpR op_eq (pv 2) pe_int (nomark _))
        (pss_one (ps_ret pe_bl))
        pss_nil)
      (C8.pss_cut (ps_if (pt_cmpR op_noNn (pv 6) pe_non (nomark _))
        (pss_cons (ps_set (i := 7) sc_law.nd rfl (Or.inl rfl) (pe_op op_fdiv (pe_op op_sub (pe_op op_add (pe_callB call_lenDi (by rfl) G.len PySem.boot_len (pa_cons (pe_ix ix_list (pv 3) pe_int (fun _ _ => rfl)) pa_nil)) pe_int) (pe_callB callLenS (by rfl) G.len PySem.boot_len (pa_cons (C8.pe_c c_l_rims hr (by decide) rfl (pa_cons (pv 3) pa_nil)) pa_nil))) pe_int))
        (pss_one (ps_if (PW.pt (pw_and (pt_cmpR op_ne (pe_callB callAbs (by rfl) G.abs (by decide +kernel) (pa_cons (pe_op op_sub (pe_ix ix_tup (pv 6) pe_int (fun _ _ => rfl)) (pe_ix ix_tup (pv 6) pe_int (fun _ _ => rfl))) pa_nil)) pe_int (nomark _)) (pw_and1 (pt_cmpR op_ne (pe_callB callAbs (by rfl) G.abs (by decide +kernel) (pa_cons (pe_op op_sub (pe_ix ix_tup (pv 6) pe_int (fun _ _ => rfl)) (pe_ix ix_tup (pv 6) pe_int (fun _ _ => rfl))) pa_nil)) (pe_op op_shlW pe_int (pe_op op_sub (pe_callB call_lenDi (by rfl) G.len PySem.boot_len (pa_cons (pe_ix ix_list (pv 3) pe_int (fun _ _ => rfl)) pa_nil)) (pv 7))) (nomark _)))))
          (pss_one (ps_ret pe_bl))
          pss_nil)))
        pss_nil)
      (pss_cons (ps_set (i := 8) sc_law.nd rfl (Or.inl rfl) (C8.pe_c c_l_moved hr (by decide) rfl (pa_cons (pv 1) (pa_cons (pv 3) (pa_cons pe_int pa_nil)))))
      (pss_one (ps_ret (pe_and (C8.pe_c c_l_like hr (by decide) rfl (pa_cons (pe_cN0 c_lots_counted_sheet hr (by decide) rfl (pk_cons (C8.pe_c c_l_made hr (by decide) rfl (pa_cons (pv 8) pa_nil)) pk_nil)) (pa_cons (pv 6) pa_nil))) (pe_one (C8.pe_c c_l_like hr (by decide) rfl (pa_cons (C8.pe_c c_lots_counted hr (by decide) rfl (pa_cons (pv 4) pa_nil)) (pa_cons (pv 6) pa_nil))))))))))))))))))))), ?_⟩
    try dsimp only [cxOf]
    walk_at "go"
    refine ⟨a, ns, rfl, hS, hl, fun b l H0 hb0 hl0 hB0 s0 => ?_⟩
    walk_at "go"
    refine ⟨b, l, 20, rfl, hB0, by decide, by decide, fun pick H1 hpick hB1 kp1 => ?_⟩
    walk_at "go"
    refine ⟨b, l, 0, 8, rfl, hB1, by decide, by decide, fun o0 fa0 na0 S0 H2 ho0 hB2 hO2 hK0 hlen0 kp2 => ?_⟩
    walk_at "go"
    refine x_cut (fun σ H' => BagAt H' b l ∧ ∃ (o fa na : Addr) (S : Own), OwnAt H' o fa na S ∧ S.Ok ∧ S.feet.length ≤ 32 ∧ σ = [some (.ref a), some (.ref b), some (.int (pick : Nat)), some (.ref o), none, none, none, none, none]) ?_ ?_
    · walk_at "go"
      refine x_iteD (fun h => ?_) (fun h => ?_)
      · walk_at "go"
        refine ⟨b, l, 12, 12, rfl, hB2, by decide, by decide, fun o fa na S H3 ho hB3 hO3 hK3 hlen3 kp3 => ?_⟩
        walk_at "go"
        exact ⟨hB3, o, fa, na, S, hO3, hK3, by omega, rfl⟩
      · walk_at "go"
        have h13 : ∀ (Q' : VK), (∀ (o fa na : Addr) (S : Own) H', H2 o = none → BagAt H' b l → OwnAt H' o fa na S → S.Ok → S.feet.length ≤ 2 * 16 → Kp b H2 H' → Q' (.ref o) H') → spLSheet [.ref b, .int 13, .int 16] H2 Q' C8.E0 := fun Q' q => ⟨b, l, 13, 16, rfl, hB2, by decide, by decide, q⟩
        refine x_iteD (fun h2 => ?_) (fun h2 => ?_)
        · walk_at "go"
          refine h13 _ fun o fa na S H3 ho hB3 hO3 hK3 hlen3 kp3 => ?_
          walk_at "go"
          exact ⟨hB3, o, fa, na, S, hO3, hK3, hlen3, rfl⟩
        · walk_at "go"
          refine x_iteD (fun h3 => ?_) (fun h3 => ?_)
          · walk_at "go"
            refine h13 _ fun o fa na S H3 ho hB3 hO3 hK3 hlen3 kp3 => ?_
            walk_at "go"
            exact ⟨hB3, o, fa, na, S, hO3, hK3, hlen3, rfl⟩
          · walk_at "go"
            refine x_iteD (fun h4 => ?_) (fun h4 => ?_)
            · walk_at "go"
              refine ⟨b, l, 8, _, rfl, hB2, by decide, fun o fa na S H3 ho hB3 hO3 hK3 hlen3 kp3 => ?_⟩
              walk_at "go"
              exact ⟨hB3, o, fa, na, S, hO3, hK3, by omega, rfl⟩
            · walk_at "go"
              exact ⟨hB2, o0, fa0, na0, S0, hO2, hK0, by omega, rfl⟩
    rintro σ H3 ⟨hB3, o, fa, na, S, hO3, hK, hln, rfl⟩
    have gS := hK.g hln
    have hb2 := bands_two hK.wd
    walk_at "go"
    refine ⟨o, fa, na, S, rfl, hO3, hK.a1, hK.a2, hK.m1, hK.m2, hK.wd, by omega, hK.kf, fun md H4 hmd0 s4 hMd4 => ?_⟩
    have hB4 := hB3.same s4
    have hO4 := hO3.same s4
    walk_at "go"
    refine ⟨b, l, 2, rfl, hB4, by decide, by decide, fun od H5 hod hB5 kp5 => ?_⟩
    have hO5 := hO4.kp hB4 kp5
    have hMd5 := hMd4.kp hB4 kp5
    walk_at "go"
    refine ⟨b, l, 5, _, rfl, hB5, by decide, fun xo xf xn X H6 hxo hB6 hX6 hKX hlX kp6 => ?_⟩
    have hO6 := hO5.kp hB5 kp6
    have hMd6 := hMd5.kp hB5 kp6
    have gX := hKX.g (by omega)
    have hbX := bands_two hKX.wd
    walk_at "go"
    refine ⟨xo, xf, xn, X, rfl, hX6, hKX.a1, hKX.a2, hKX.m1, hKX.m2, hKX.wd, by omega, hKX.kf, fun xm H7 hxm0 s7 hXm7 => ?_⟩
    have hX7 := hX6.same s7
    walk_at "go"
    refine lotsC_ok gX hKX (by omega) hXm7 fun v H8 s8 hv8 => ?_
    have hX8 := hX7.same s8
    walk_at "go"
    refine ⟨xo, xf, xn, X, rfl, hX8, gX, fun v2 H9 s9 hv9 => ?_⟩
    walk_at "go"
    refine like_ok (hv8.same s9) hv9 fun H10 s10 => ?_
    have s610 := Same.trans s7 (Same.trans s8 (Same.trans s9 s10))
    have hB10 := hB6.same s610
    have hO10 := hO6.same s610
    have hMd10 := hMd6.same s610
    have hO10o := hO10.o_
    have hO10n := hO10.n_
    walk_at "go"
    refine x_lenDi hO10n ?_
    rw [dD_len, keys_len hK]
    walk_at "go"
    refine x_iteD (fun hbig => ?_) (fun hsm => ?_)
    · walk_at "go"
      refine ⟨md, S.arm, S.mod, S.feet, _, rfl, hMd10, by omega, by omega, fun H11 => ?_⟩
      walk_at "go"
      exact kk _
    · have hb12 : (bandsOf S.feet).length ≤ 12 := by omega
      walk_at "go"
      refine ⟨o, fa, na, S, rfl, hO10, gS, fun due H11 s11 hdue11 => ?_⟩
      have hB11 := hB10.same s11
      have hO11 := hO10.same s11
      have hMd11 := hMd10.same s11
      walk_at "go"
      refine lotsC_ok gS hK hb12 hMd11 fun v H12 s12 hv12 => ?_
      walk_at "go"
      refine like_ok hv12 (hdue11.same s12) fun H13 s13 => ?_
      have s1113 := Same.trans s12 s13
      have hB13 := hB11.same s1113
      have hO13 := hO11.same s1113
      have hMd13 := hMd11.same s1113
      have hdue13 := hdue11.same s1113
      walk_at "go"
      refine x_iteD (fun h => ?_) (fun h => ?_)
      · walk_at "go"
        exact kk _
      walk_at "go"
      refine x_cut (fun σ H' => Same H13 H' ∧ ∃ u : Option V, σ = [some (.ref a), some (.ref b), some (.int (pick : Nat)), some (.ref o), some (.ref md), some (.ref xo), some due, u, none]) ?_ ?_
      · rcases id hdue13 with ⟨_, rfl⟩ | ⟨hasb, p, oo, rfl, hp, hoo⟩
        · walk_at "go"
          rw [decide_eq_true rfl]
          walk_at "go"
          exact ⟨Same.refl _, _, rfl⟩
        · walk_at "go"
          rw [decide_eq_false (fun z => by cases z)]
          have hO13o := hO13.o_
          have hO13n := hO13.n_
          walk_at "go"
          refine x_lenDi hO13n ?_
          rw [dD_len, keys_len hK]
          walk_at "go"
          refine ⟨o, fa, na, S, rfl, hO13, hK, fun rp xs H14 hrp0 s14 hrp hRm => ?_⟩
          obtain ⟨hh, hh1, hh2, hh3⟩ := gap_abs hK.wd hRm (oddN (partN S) S.nums)
          have hp14 := s14 _ _ hp
          have hO14 := hO13.same s14
          have hO14o := hO14.o_
          have hO14n := hO14.n_
          have a0 : atI [V.int (((2 ^ (bandsOf S.feet).length : Nat) : Int) - oo), .int oo] 0 = some (.int (((2 ^ (bandsOf S.feet).length : Nat) : Int) - oo)) := rfl
          have a1 : atI [V.int (((2 ^ (bandsOf S.feet).length : Nat) : Int) - oo), .int oo] 1 = some (.int oo) := rfl
          have egap : (((2 ^ (bandsOf S.feet).length : Nat) : Int) - oo) - oo = LotS S.feet (oddN (partN S) S.nums) := by omega
          have edv : (((bandsOf S.feet).length : Int) + 1 - ((xs.length : Nat) : Int)) / 2 = ((hh : Nat) : Int) := hh2
          walk_at "go"
          rw [edv]
          walk_at "go"
          rw [egap]
          have hsh : CShl 1 (((bandsOf S.feet).length : Int) - ((hh : Nat) : Int)) := by
            rw [show ((bandsOf S.feet).length : Int) - ((hh : Nat) : Int) = (((bandsOf S.feet).length - hh : Nat) : Int) by omega]
            exact shl_ok (n := 1) (by decide) (by omega)
          have e1 : (1 : Int) * 2 ^ (((bandsOf S.feet).length : Int) - ((hh : Nat) : Int)).toNat = ((2 ^ ((bandsOf S.feet).length - hh) : Nat) : Int) := by
            rw [show (((bandsOf S.feet).length : Int) - ((hh : Nat) : Int)).toNat = (bandsOf S.feet).length - hh by omega, Int.one_mul, Int.natCast_pow]
            rfl
          have hpos : (0 : Int) < ((2 ^ ((bandsOf S.feet).length - hh) : Nat) : Int) := by
            have : 0 < 2 ^ ((bandsOf S.feet).length - hh) := Nat.pow_pos (by decide)
            omega
          revert e1 hpos hh3 egap
          generalize LotS S.feet (oddN (partN S) S.nums) = gg
          generalize ((2 ^ ((bandsOf S.feet).length - hh) : Nat) : Int) = pw
          intro hh3 egap e1 hpos
          by_cases hz : gg = 0
          · rw [decide_eq_true (show (if gg < 0 then -gg else gg) = 0 by rw [hz]; rfl)]
            walk_at "go"
            exact ⟨s14, _, rfl⟩
          · have e0 : (if gg < 0 then -gg else gg) = pw := by
              rcases hh3 with z | z | z
              · exact absurd z hz
              · rw [if_neg (by omega), z]
              · rw [if_pos (by omega), z]; omega
            rw [decide_eq_false (show ¬ (if gg < 0 then -gg else gg) = 0 by rw [e0]; omega)]
            walk_at "go"
            refine x_lenDi hO14n ?_
            rw [dD_len, keys_len hK]
            walk_at "go"
            rw [egap, e1, e0, decide_eq_true rfl]
            walk_at "go"
            exact ⟨s14, _, rfl⟩
      · rintro σ H14 ⟨s14, u, rfl⟩
        have hB14 := hB13.same s14
        have hO14 := hO13.same s14
        have hMd14 := hMd13.same s14
        have hdue14 := hdue13.same s14
        walk_at "go"
        refine ⟨b, l, o, fa, na, S, 15, rfl, hB14, hO14, hK, by decide, by decide, fun t1 tf tn S' H15 ht10 hB15 hT15 hK' hst kp15 => ?_⟩
        have hMd15 := hMd14.kp hB14 kp15
        have hdue15 := hdue14.kp hB14 kp15
        have hb2' := bands_two hK'.wd
        have hll := hst.len
        have gS' := hK'.g (by omega)
        walk_at "go"
        refine ⟨t1, tf, tn, S', rfl, hT15, hK'.a1, hK'.a2, hK'.m1, hK'.m2, hK'.wd, by omega, hK'.kf, fun m H16 hm0 s16 hM16 => ?_⟩
        walk_at "go"
        refine ⟨rfl, rfl, ?_⟩
        refine lotsC_ok gS' hK' (by omega) hM16 fun v H17 s17 hv17 => ?_
        have hv17' := hst.dueP hK hK' hln hv17
        have s1517 := Same.trans s16 s17
        walk_at "go"
        refine like_ok hv17' (hdue15.same s1517) fun H18 s18 => ?_
        have hMd18 := (hMd15.same s1517).same s18
        have hdue18 := (hdue15.same s1517).same s18
        walk_at "go"
        refine lotsC_ok gS hK hb12 hMd18 fun v3 H19 s19 hv19 => ?_
        walk_at "go"
        refine like_ok hv19 (hdue18.same s19) fun H20 s20 => ?_
        exact kk _
end
theorem facts {P : Program} {w : World} {K : PySem.W.Frag} {h : Heap} {mg : Str → Option Value} {f : Addr} (X : K.In h) (G : h.Ns mainGlobals mg) (hfa : mg ("law" : Str) = some (.ref f)) (hP : ErP P "/claim/cut.py") (c : SaysZ fa fn ex er xb K) :
    ∃ fd : FuncData, (∀ (s : Shared) (v : Value), BindsTo s fd ⟨[v], []⟩ [("script", v)]) ∧ ∀ base : Heap, K.In base → base.Ns mainGlobals mg → FnOk P w K mg base CX0 6 f fd ["script"] (spLaw K) := by
  have cD := c.y.d
  have cE := c.y.e
  obtain ⟨fd_is_number, F_is_number⟩ := cD.def_ 0 (d := d_is_number) rfl
  obtain ⟨fd_reduced, F_reduced⟩ := cD.def_ 1 (d := d_reduced) rfl
  obtain ⟨fd_is_name, F_is_name⟩ := cD.def_ 2 (d := d_is_name) rfl
  obtain ⟨fd_is_word, F_is_word⟩ := cD.def_ 3 (d := d_is_word) rfl
  obtain ⟨fd_feet_of, F_feet_of⟩ := cD.def_ 4 (d := d_feet_of) rfl
  obtain ⟨fd_divisor, F_divisor⟩ := cD.def_ 5 (d := d_divisor) rfl
  obtain ⟨fd_Book_init, F_Book_init⟩ := cD.def_ 6 (d := d_Book_init) rfl
  obtain ⟨fd_Sheet_init, F_Sheet_init⟩ := cD.def_ 7 (d := d_Sheet_init) rfl
  obtain ⟨fd_Sheet_number, F_Sheet_number⟩ := cD.def_ 8 (d := d_Sheet_number) rfl
  obtain ⟨fd_Sheet_left, F_Sheet_left⟩ := cD.def_ 9 (d := d_Sheet_left) rfl
  obtain ⟨fd_Sheet_right, F_Sheet_right⟩ := cD.def_ 10 (d := d_Sheet_right) rfl
  obtain ⟨fd_Sheet___len__, F_Sheet___len__⟩ := cD.def_ 11 (d := d_Sheet___len__) rfl
  obtain ⟨fd_share_of, F_share_of⟩ := cD.def_ 12 (d := d_share_of) rfl
  obtain ⟨fd_mask_of, F_mask_of⟩ := cD.def_ 13 (d := d_mask_of) rfl
  obtain ⟨fd_spans_cross, F_spans_cross⟩ := cD.def_ 14 (d := d_spans_cross) rfl
  obtain ⟨fd_crossing_table, F_crossing_table⟩ := cD.def_ 15 (d := d_crossing_table) rfl
  obtain ⟨fd_has_balance, F_has_balance⟩ := cD.def_ 16 (d := d_has_balance) rfl
  obtain ⟨fd_masks_of, F_masks_of⟩ := cD.def_ 17 (d := d_masks_of) rfl
  obtain ⟨fd_odds_of, F_odds_of⟩ := cD.def_ 18 (d := d_odds_of) rfl
  obtain ⟨fd_lot_sums, F_lot_sums⟩ := cD.def_ 19 (d := d_lot_sums) rfl
  obtain ⟨fd_lots_counted, F_lots_counted⟩ := cD.def_ 20 (d := d_lots_counted) rfl
  obtain ⟨fd_l_bag, F_l_bag⟩ := cD.def_ 21 (d := d_l_bag) rfl
  obtain ⟨fd_l_draw, F_l_draw⟩ := cD.def_ 22 (d := d_l_draw) rfl
  obtain ⟨fd_l_of, F_l_of⟩ := cD.def_ 23 (d := d_l_of) rfl
  obtain ⟨fd_l_mixed, F_l_mixed⟩ := cD.def_ 24 (d := d_l_mixed) rfl
  obtain ⟨fd_l_like, F_l_like⟩ := cD.def_ 25 (d := d_l_like) rfl
  obtain ⟨fd_l_red, F_l_red⟩ := cD.def_ 26 (d := d_l_red) rfl
  obtain ⟨fd_l_divisor, F_l_divisor⟩ := cD.def_ 27 (d := d_l_divisor) rfl
  obtain ⟨fd_l_divisors, F_l_divisors⟩ := cD.def_ 28 (d := d_l_divisors) rfl
  obtain ⟨fd_l_arms, F_l_arms⟩ := cD.def_ 29 (d := d_l_arms) rfl
  obtain ⟨fd_l_names, F_l_names⟩ := cD.def_ 30 (d := d_l_names) rfl
  obtain ⟨fd_l_word, F_l_word⟩ := cD.def_ 31 (d := d_l_word) rfl
  obtain ⟨fd_l_slide, F_l_slide⟩ := cD.def_ 32 (d := d_l_slide) rfl
  obtain ⟨fd_l_do, F_l_do⟩ := cD.def_ 33 (d := d_l_do) rfl
  obtain ⟨fd_l_move, F_l_move⟩ := cD.def_ 34 (d := d_l_move) rfl
  obtain ⟨fd_l_twin, F_l_twin⟩ := cD.def_ 35 (d := d_l_twin) rfl
  obtain ⟨fd_l_shift, F_l_shift⟩ := cD.def_ 36 (d := d_l_shift) rfl
  obtain ⟨fd_l_sheet, F_l_sheet⟩ := cD.def_ 37 (d := d_l_sheet) rfl
  obtain ⟨fd_l_made, F_l_made⟩ := cD.def_ 38 (d := d_l_made) rfl
  obtain ⟨fd_l_mates, F_l_mates⟩ := cD.def_ 39 (d := d_l_mates) rfl
  obtain ⟨fd_l_bands, F_l_bands⟩ := cD.def_ 40 (d := d_l_bands) rfl
  obtain ⟨fd_l_table, F_l_table⟩ := cD.def_ 41 (d := d_l_table) rfl
  obtain ⟨fd_l_rims, F_l_rims⟩ := cD.def_ 42 (d := d_l_rims) rfl
  obtain ⟨fd_l_sums, F_l_sums⟩ := cD.def_ 43 (d := d_l_sums) rfl
  obtain ⟨fd_l_steered, F_l_steered⟩ := cD.def_ 44 (d := d_l_steered) rfl
  obtain ⟨fd_l_moved, F_l_moved⟩ := cD.def_ 45 (d := d_l_moved) rfl
  obtain ⟨fd_l_lots, F_l_lots⟩ := cD.def_ 46 (d := d_l_lots) rfl
  obtain ⟨fd_l_many, F_l_many⟩ := cD.def_ 47 (d := d_l_many) rfl
  obtain ⟨fd_law, F_law⟩ := cD.def_ 48 (d := d_law) rfl
  have g_is_number := He.glo_ok X G (cD.fact 0 (f := .glo "is_number") rfl)
  have g_reduced := He.glo_ok X G (cD.fact 1 (f := .glo "reduced") rfl)
  have g_is_name := He.glo_ok X G (cD.fact 2 (f := .glo "is_name") rfl)
  have g_is_word := He.glo_ok X G (cD.fact 3 (f := .glo "is_word") rfl)
  have g_feet_of := He.glo_ok X G (cD.fact 4 (f := .glo "_feet_of") rfl)
  have g_divisor := He.glo_ok X G (cD.fact 5 (f := .glo "divisor") rfl)
  have g_share_of := He.glo_ok X G (cD.fact 6 (f := .glo "share_of") rfl)
  have g_mask_of := He.glo_ok X G (cD.fact 7 (f := .glo "mask_of") rfl)
  have g_spans_cross := He.glo_ok X G (cD.fact 8 (f := .glo "_spans_cross") rfl)
  have g_crossing_table := He.glo_ok X G (cD.fact 9 (f := .glo "crossing_table") rfl)
  have g_has_balance := He.glo_ok X G (cD.fact 10 (f := .glo "_has_balance") rfl)
  have g_masks_of := He.glo_ok X G (cD.fact 11 (f := .glo "_masks_of") rfl)
  have g_odds_of := He.glo_ok X G (cD.fact 12 (f := .glo "_odds_of") rfl)
  have g_lot_sums := He.glo_ok X G (cD.fact 13 (f := .glo "lot_sums") rfl)
  have g_lots_counted := He.glo_ok X G (cD.fact 14 (f := .glo "lots_counted") rfl)
  have g_l_bag := He.glo_ok X G (cD.fact 15 (f := .glo "_law_bag") rfl)
  have g_l_draw := He.glo_ok X G (cD.fact 16 (f := .glo "_law_draw") rfl)
  have g_l_of := He.glo_ok X G (cD.fact 17 (f := .glo "_law_of") rfl)
  have g_l_mixed := He.glo_ok X G (cD.fact 18 (f := .glo "_law_mixed") rfl)
  have g_l_like := He.glo_ok X G (cD.fact 19 (f := .glo "_law_like") rfl)
  have g_l_red := He.glo_ok X G (cD.fact 20 (f := .glo "_law_red") rfl)
  have g_l_divisor := He.glo_ok X G (cD.fact 21 (f := .glo "_law_divisor") rfl)
  have g_l_divisors := He.glo_ok X G (cD.fact 22 (f := .glo "_law_divisors") rfl)
  have g_l_arms := He.glo_ok X G (cD.fact 23 (f := .glo "_law_arms") rfl)
  have g_l_names := He.glo_ok X G (cD.fact 24 (f := .glo "_law_names") rfl)
  have g_l_word := He.glo_ok X G (cD.fact 25 (f := .glo "_law_word") rfl)
  have g_l_slide := He.glo_ok X G (cD.fact 26 (f := .glo "_law_slide") rfl)
  have g_l_do := He.glo_ok X G (cD.fact 27 (f := .glo "_law_do") rfl)
  have g_l_move := He.glo_ok X G (cD.fact 28 (f := .glo "_law_move") rfl)
  have g_l_twin := He.glo_ok X G (cD.fact 29 (f := .glo "_law_twin") rfl)
  have g_l_shift := He.glo_ok X G (cD.fact 30 (f := .glo "_law_shift") rfl)
  have g_l_sheet := He.glo_ok X G (cD.fact 31 (f := .glo "_law_sheet") rfl)
  have g_l_made := He.glo_ok X G (cD.fact 32 (f := .glo "_law_made") rfl)
  have g_l_mates := He.glo_ok X G (cD.fact 33 (f := .glo "_law_mates") rfl)
  have g_l_bands := He.glo_ok X G (cD.fact 34 (f := .glo "_law_bands") rfl)
  have g_l_table := He.glo_ok X G (cD.fact 35 (f := .glo "_law_table") rfl)
  have g_l_rims := He.glo_ok X G (cD.fact 36 (f := .glo "_law_rims") rfl)
  have g_l_sums := He.glo_ok X G (cD.fact 37 (f := .glo "_law_sums") rfl)
  have g_l_steered := He.glo_ok X G (cD.fact 38 (f := .glo "_law_steered") rfl)
  have g_l_moved := He.glo_ok X G (cD.fact 39 (f := .glo "_law_moved") rfl)
  have g_l_lots := He.glo_ok X G (cD.fact 40 (f := .glo "_law_lots") rfl)
  have g_l_many := He.glo_ok X G (cD.fact 41 (f := .glo "_law_many") rfl)
  have g_law := He.glo_ok X G (cD.fact 42 (f := .glo "law") rfl)
  have g_Book := He.glo_ok X G (cD.fact 43 (f := .glo "Book") rfl)
  have g_Sheet := He.glo_ok X G (cD.fact 44 (f := .glo "Sheet") rfl)
  have g_CombedError := He.glo_ok X G (cD.fact 45 (f := .glo "CombedError") rfl)
  have g_BadNumber := He.glo_ok X G (cD.fact 46 (f := .glo "BadNumber") rfl)
  have E_TooMany : Er2 P K mg "TooMany" (He.ga K "TooMany") "what" "limit" := ErD.er2 (d := er_TooMany) X G hP (c.ok 0) (c.wv 0) rfl PySem.F.excBase_ValueError PySem.F.store_ValueError PySem.W.kxs_ValueError su_TooMany
  obtain ⟨xb12, xb34⟩ := Bool.and_eq_true_iff.mp (show (_ && _) = true from c.xok)
  obtain ⟨xb1, xb2⟩ := Bool.and_eq_true_iff.mp xb12
  obtain ⟨xb3, xb4⟩ := Bool.and_eq_true_iff.mp xb34
  have k1_TooMany := of_decide_eq_true xb1
  have k2_TooMany := of_decide_eq_true xb2
  have k3_TooMany := of_decide_eq_true xb3
  have se_TooMany := of_decide_eq_true xb4
  have B : Bi K mg := ⟨He.free_ok X G (cD.fact 47 (f := .free "len") rfl), He.free_ok X G (cD.fact 48 (f := .free "int") rfl), He.free_ok X G (cD.fact 49 (f := .free "list") rfl), He.free_ok X G (cD.fact 50 (f := .free "range") rfl), He.free_ok X G (cD.fact 51 (f := .free "abs") rfl), He.free_ok X G (cD.fact 52 (f := .free "isinstance") rfl), He.free_ok X G (cD.fact 53 (f := .free "bool") rfl), He.free_ok X G (cD.fact 54 (f := .free "str") rfl), He.free_ok X G (cD.fact 55 (f := .free "dict") rfl), He.free_ok X G (cD.fact 56 (f := .free "tuple") rfl), He.free_ok X G (cD.fact 57 (f := .free "all") rfl), He.free_ok X G (cD.fact 58 (f := .free "max") rfl), He.free_ok X G (cD.fact 59 (f := .free "enumerate") rfl), He.free_ok X G (cD.fact 60 (f := .free "sum") rfl), He.free_ok X G (cD.fact 61 (f := .free "ValueError") rfl), (let ⟨t, e⟩ := He.int_ok X G (cD.fact 62 (f := .int "MOST_ARMS" 12) rfl); ⟨_, e, t, rfl⟩), (let ⟨t, e⟩ := He.int_ok X G (cD.fact 63 (f := .int "MOST_MODULUS" 24) rfl); ⟨_, e, t, rfl⟩), (let ⟨t, e⟩ := He.int_ok X G (cD.fact 64 (f := .int "LONGEST" 3) rfl); ⟨_, e, t, rfl⟩), (let ⟨t, e⟩ := He.int_ok X G (cD.fact 65 (f := .int "MOST_LOTS" 12) rfl); ⟨_, e, t, rfl⟩), (let ⟨t, e⟩ := He.str_ok X G (cD.fact 66 (f := .str "DIGITS" "0123456789") rfl); ⟨_, e, t, rfl⟩), (let ⟨t, e⟩ := He.str_ok X G (cD.fact 67 (f := .str "LETTERS" "abcdefghijklmnopqrstuvwxyz") rfl); ⟨_, e, t, rfl⟩), He.cls_ok (cD.fact 68 (f := .cls "Sheet") rfl), He.noat_ok (cD.fact 69 (f := .noat "Sheet" "book") rfl), He.noat_ok (cD.fact 70 (f := .noat "Sheet" "word") rfl), He.noat_ok (cD.fact 71 (f := .noat "Sheet" "_feet") rfl), He.noat_ok (cD.fact 72 (f := .noat "Sheet" "bands") rfl), He.noat_ok (cD.fact 73 (f := .noat "Sheet" "_told") rfl), He.cls_ok (cD.fact 74 (f := .cls "Book") rfl), He.noat_ok (cD.fact 75 (f := .noat "Book" "arms") rfl), He.noat_ok (cD.fact 76 (f := .noat "Book" "modulus") rfl), bltB_ok X G (List.all_eq_true.mp cE ("gcd", "math.gcd") (by decide))⟩
  have e := hfa.symm.trans g_law
  cases e
  have b := FunD.bindsA (ps := ["script"]) F_law fun _ _ _ _ _ _ us hl => match us, hl with | [_], _ => rfl
  refine ⟨fd_law, fun s v => b s [v] rfl, fun base _ _ => ?_⟩
  have o_is_number : FnOk P w K mg base CX0 1 (He.fAd K ("is_number", none)) fd_is_number ["value"] (spIsNum) := by apply ok_isnum <;> assumption
  have c_is_number : C8.Cal P w K mg base 1 "is_number" (spIsNum) [] := ⟨_, _, _, _, o_is_number, g_is_number, F_is_number.kp, F_is_number.bindsN fun _ _ _ _ _ _ us hl => match us, hl with | [_], _ => rfl, .nil⟩
  have o_reduced : FnOk P w K mg base CX0 1 (He.fAd K ("reduced", none)) fd_reduced ["book", "n"] (spReduced K) := by apply ok_reduced <;> assumption
  have c_reduced : C8.Cal P w K mg base 1 "reduced" (spReduced K) [] := ⟨_, _, _, _, o_reduced, g_reduced, F_reduced.kp, F_reduced.bindsN fun _ _ _ _ _ _ us hl => match us, hl with | [_, _], _ => rfl, .nil⟩
  have o_is_name : FnOk P w K mg base CX0 1 (He.fAd K ("is_name", none)) fd_is_name ["text"] (spIsName) := by apply ok_isname <;> assumption
  have c_is_name : C8.Cal P w K mg base 1 "is_name" (spIsName) [] := ⟨_, _, _, _, o_is_name, g_is_name, F_is_name.kp, F_is_name.bindsN fun _ _ _ _ _ _ us hl => match us, hl with | [_], _ => rfl, .nil⟩
  have o_is_word : FnOk P w K mg base CX0 2 (He.fAd K ("is_word", none)) fd_is_word ["word"] (spIsWord K) := by apply ok_isword <;> assumption
  have c_is_word : C8.Cal P w K mg base 2 "is_word" (spIsWord K) [] := ⟨_, _, _, _, o_is_word, g_is_word, F_is_word.kp, F_is_word.bindsN fun _ _ _ _ _ _ us hl => match us, hl with | [_], _ => rfl, .nil⟩
  have o_feet_of : FnOk P w K mg base CX0 1 (He.fAd K ("_feet_of", none)) fd_feet_of ["word"] (spFeet K) := by apply ok_feet <;> assumption
  have c_feet_of : C8.Cal P w K mg base 1 "_feet_of" (spFeet K) [] := ⟨_, _, _, _, o_feet_of, g_feet_of, F_feet_of.kp, F_feet_of.bindsN fun _ _ _ _ _ _ us hl => match us, hl with | [_], _ => rfl, .nil⟩
  have o_divisor : FnR P w K mg base CX0 1 (He.fAd K ("divisor", none)) (spDivisor) := by apply ok_divisor <;> assumption
  have c_divisor_star : CalS P w K mg base 1 "divisor" (spDivisor) := ⟨_, o_divisor, g_divisor, F_divisor.kp⟩
  have o_Book_init : FnOk P w K mg base CX0 2 (He.fAd K ("Book", some "__init__")) fd_Book_init ["self", "arms", "modulus"] (spBook K) := by apply ok_book <;> assumption
  obtain ⟨ds_Book_init2, v_Book_init2, b_Book_init2⟩ : ∃ ds, Vals ((d_Book_init.dvs K).drop 1) ds ∧ Binds K fd_Book_init ["self", "arms", "modulus"] ds := F_Book_init.binds1 3 1 (by intro z; cases z) (by rfl) fun T kV doc pm an cdv ct us its l1 l2 => match us, its, l1, l2 with | [_, _, _], [_], _, _ => ⟨_, rfl, rfl⟩
  have mk_Book_2 : C8.Mak P w K mg base 2 "Book" (He.ga K "Book") (spBook K) [] := ⟨_, _, _, _, He.mkr_ok (cD.fact 77 (f := .mkr "Book") rfl), o_Book_init, g_Book, b_Book_init2, v_Book_init2⟩
  have o_Sheet_init : FnOk P w K mg base CX0 3 (He.fAd K ("Sheet", some "__init__")) fd_Sheet_init ["self", "book", "word", "numbers"] (spSheet K) := by apply ok_sheet <;> assumption
  obtain ⟨ds_Sheet_init3, v_Sheet_init3, b_Sheet_init3⟩ : ∃ ds, Vals ((d_Sheet_init.dvs K).drop 1) ds ∧ Binds K fd_Sheet_init ["self", "book", "word", "numbers"] ds := F_Sheet_init.binds1 4 1 (by intro z; cases z) (by rfl) fun T kV doc pm an cdv ct us its l1 l2 => match us, its, l1, l2 with | [_, _, _, _], [_], _, _ => ⟨_, rfl, rfl⟩
  have mk_Sheet_3 : C8.Mak P w K mg base 3 "Sheet" (He.ga K "Sheet") (spSheet K) [] := ⟨_, _, _, _, He.mkr_ok (cD.fact 78 (f := .mkr "Sheet") rfl), o_Sheet_init, g_Sheet, b_Sheet_init3, v_Sheet_init3⟩
  have o_Sheet_number : FnOk P w K mg base CX0 1 (He.fAd K ("Sheet", some "number")) fd_Sheet_number ["self", "band"] (spNumber K) := by apply ok_number <;> assumption
  have m_Sheet_number : C8.Met P w K mg base 1 (He.ga K "Sheet") "number" (spNumber K) [] := ⟨_, _, _, _, B.cls_Sheet, He.meth_ok (cD.fact 79 (f := .meth "Sheet" "number") rfl), o_Sheet_number, F_Sheet_number.bindsN fun _ _ _ _ _ _ us hl => match us, hl with | [_, _], _ => rfl, .nil⟩
  have o_Sheet_left : FnOk P w K mg base CX0 1 (He.fAd K ("Sheet", some "left")) fd_Sheet_left ["self", "band"] (spSide K true) := by apply ok_left <;> assumption
  have m_Sheet_left : C8.Met P w K mg base 1 (He.ga K "Sheet") "left" (spSide K true) [] := ⟨_, _, _, _, B.cls_Sheet, He.meth_ok (cD.fact 80 (f := .meth "Sheet" "left") rfl), o_Sheet_left, F_Sheet_left.bindsN fun _ _ _ _ _ _ us hl => match us, hl with | [_, _], _ => rfl, .nil⟩
  have o_Sheet_right : FnOk P w K mg base CX0 1 (He.fAd K ("Sheet", some "right")) fd_Sheet_right ["self", "band"] (spSide K false) := by apply ok_right <;> assumption
  have m_Sheet_right : C8.Met P w K mg base 1 (He.ga K "Sheet") "right" (spSide K false) [] := ⟨_, _, _, _, B.cls_Sheet, He.meth_ok (cD.fact 81 (f := .meth "Sheet" "right") rfl), o_Sheet_right, F_Sheet_right.bindsN fun _ _ _ _ _ _ us hl => match us, hl with | [_, _], _ => rfl, .nil⟩
  have o_Sheet___len__ : FnOk P w K mg base CX0 1 (He.fAd K ("Sheet", some "__len__")) fd_Sheet___len__ ["self"] (spSLen K) := by apply ok_slen <;> assumption
  have m_Sheet___len__ : C8.Met P w K mg base 1 (He.ga K "Sheet") "__len__" (spSLen K) [] := ⟨_, _, _, _, B.cls_Sheet, He.meth_ok (cD.fact 82 (f := .meth "Sheet" "__len__") rfl), o_Sheet___len__, F_Sheet___len__.bindsN fun _ _ _ _ _ _ us hl => match us, hl with | [_], _ => rfl, .nil⟩
  have l_Sheet : LenC P w K mg base 1 (He.ga K "Sheet") (spSLen K) := ⟨_, (He.meth_ok (cD.fact 82 (f := .meth "Sheet" "__len__") rfl)).at_, (He.meth_ok (cD.fact 82 (f := .meth "Sheet" "__len__") rfl)).fn, FnOk.raw o_Sheet___len__ (F_Sheet___len__.bindsN fun _ _ _ _ _ _ us hl => match us, hl with | [_], _ => rfl) .nil⟩
  have o_share_of : FnOk P w K mg base CX0 2 (He.fAd K ("share_of", none)) fd_share_of ["sheet"] (spShare K) := by apply ok_share <;> assumption
  have c_share_of : C8.Cal P w K mg base 2 "share_of" (spShare K) [] := ⟨_, _, _, _, o_share_of, g_share_of, F_share_of.kp, F_share_of.bindsN fun _ _ _ _ _ _ us hl => match us, hl with | [_], _ => rfl, .nil⟩
  have o_mask_of : FnOk P w K mg base CX0 1 (He.fAd K ("mask_of", none)) fd_mask_of ["items"] (spMaskOf K) := by apply ok_maskof <;> assumption
  have c_mask_of : C8.Cal P w K mg base 1 "mask_of" (spMaskOf K) [] := ⟨_, _, _, _, o_mask_of, g_mask_of, F_mask_of.kp, F_mask_of.bindsN fun _ _ _ _ _ _ us hl => match us, hl with | [_], _ => rfl, .nil⟩
  have o_spans_cross : FnOk P w K mg base CX0 1 (He.fAd K ("_spans_cross", none)) fd_spans_cross ["span", "other"] (spSpans K) := by apply ok_spans <;> assumption
  have c_spans_cross : C8.Cal P w K mg base 1 "_spans_cross" (spSpans K) [] := ⟨_, _, _, _, o_spans_cross, g_spans_cross, F_spans_cross.kp, F_spans_cross.bindsN fun _ _ _ _ _ _ us hl => match us, hl with | [_, _], _ => rfl, .nil⟩
  have o_crossing_table : FnOk P w K mg base CX0 2 (He.fAd K ("crossing_table", none)) fd_crossing_table ["sheet"] (spTable K) := by apply ok_table <;> assumption
  have c_crossing_table : C8.Cal P w K mg base 2 "crossing_table" (spTable K) [] := ⟨_, _, _, _, o_crossing_table, g_crossing_table, F_crossing_table.kp, F_crossing_table.bindsN fun _ _ _ _ _ _ us hl => match us, hl with | [_], _ => rfl, .nil⟩
  have o_has_balance : FnOk P w K mg base CX0 1 (He.fAd K ("_has_balance", none)) fd_has_balance ["book", "share"] (spHasB K) := by apply ok_hasb <;> assumption
  have c_has_balance : C8.Cal P w K mg base 1 "_has_balance" (spHasB K) [] := ⟨_, _, _, _, o_has_balance, g_has_balance, F_has_balance.kp, F_has_balance.bindsN fun _ _ _ _ _ _ us hl => match us, hl with | [_, _], _ => rfl, .nil⟩
  have o_masks_of : FnOk P w K mg base CX0 3 (He.fAd K ("_masks_of", none)) fd_masks_of ["sheet"] (spMasks K) := by apply ok_masks <;> assumption
  have c_masks_of : C8.Cal P w K mg base 3 "_masks_of" (spMasks K) [] := ⟨_, _, _, _, o_masks_of, g_masks_of, F_masks_of.kp, F_masks_of.bindsN fun _ _ _ _ _ _ us hl => match us, hl with | [_], _ => rfl, .nil⟩
  have o_odds_of : FnOk P w K mg base CX0 2 (He.fAd K ("_odds_of", none)) fd_odds_of ["sheet", "share"] (spOdds K) := by apply ok_odds <;> assumption
  have c_odds_of : C8.Cal P w K mg base 2 "_odds_of" (spOdds K) [] := ⟨_, _, _, _, o_odds_of, g_odds_of, F_odds_of.kp, F_odds_of.bindsN fun _ _ _ _ _ _ us hl => match us, hl with | [_, _], _ => rfl, .nil⟩
  have o_lot_sums : FnOk P w K mg base CX0 1 (He.fAd K ("lot_sums", none)) fd_lot_sums ["masks", "odds"] (spLotSums) := by apply ok_lotsums <;> assumption
  have c_lot_sums : C8.Cal P w K mg base 1 "lot_sums" (spLotSums) [] := ⟨_, _, _, _, o_lot_sums, g_lot_sums, F_lot_sums.kp, F_lot_sums.bindsN fun _ _ _ _ _ _ us hl => match us, hl with | [_, _], _ => rfl, .nil⟩
  have o_lots_counted : FnOk P w K mg base CX0 4 (He.fAd K ("lots_counted", none)) fd_lots_counted ["sheet"] (spLotsC K) := by apply ok_lotsC <;> assumption
  have c_lots_counted : C8.Cal P w K mg base 4 "lots_counted" (spLotsC K) [] := ⟨_, _, _, _, o_lots_counted, g_lots_counted, F_lots_counted.kp, F_lots_counted.bindsN fun _ _ _ _ _ _ us hl => match us, hl with | [_], _ => rfl, .nil⟩
  have c_lots_counted_sheet : CalN P w K mg base 4 "lots_counted" (spLotsC K) 0 ["sheet"] (fun _ zs => zs) := ⟨_, _, _, fun _ ws => ws, o_lots_counted, g_lots_counted, F_lots_counted.kp, kbn_of F_lots_counted (fun _ _ _ _ _ _ us ws h1 h2 => match us, ws, h1, h2 with | [], [_], _, _ => rfl) fun _ r => r⟩
  have o_lotsX : FnOk P w K mg base (L2N.CX P w) 4 (He.fAd K ("lots_counted", none)) fd_lots_counted ["sheet"] (spLotsX K (He.ga K "TooMany")) := by apply ok_lotsX <;> assumption
  have x_lots_counted : CalX P w K mg base 4 "lots_counted" ["sheet"] (spLotsX K (He.ga K "TooMany")) := ⟨_, _, o_lotsX, g_lots_counted, F_lots_counted.kp, F_lots_counted.bindsN fun _ _ _ _ _ _ us hl => match us, hl with | [_], _ => rfl⟩
  have o_l_bag : FnOk P w K mg base CX0 1 (He.fAd K ("_law_bag", none)) fd_l_bag ["script"] (spBag K) := by apply ok_bag <;> assumption
  have c_l_bag : C8.Cal P w K mg base 1 "_law_bag" (spBag K) [] := ⟨_, _, _, _, o_l_bag, g_l_bag, F_l_bag.kp, F_l_bag.bindsN fun _ _ _ _ _ _ us hl => match us, hl with | [_], _ => rfl, .nil⟩
  have o_l_draw : FnOk P w K mg base CX0 1 (He.fAd K ("_law_draw", none)) fd_l_draw ["bag", "many"] (spDraw) := by apply ok_draw <;> assumption
  have c_l_draw : C8.Cal P w K mg base 1 "_law_draw" (spDraw) [] := ⟨_, _, _, _, o_l_draw, g_l_draw, F_l_draw.kp, F_l_draw.bindsN fun _ _ _ _ _ _ us hl => match us, hl with | [_, _], _ => rfl, .nil⟩
  have o_l_of : FnOk P w K mg base CX0 2 (He.fAd K ("_law_of", none)) fd_l_of ["bag", "things"] (spOf) := by apply ok_of <;> assumption
  have c_l_of : C8.Cal P w K mg base 2 "_law_of" (spOf) [] := ⟨_, _, _, _, o_l_of, g_l_of, F_l_of.kp, F_l_of.bindsN fun _ _ _ _ _ _ us hl => match us, hl with | [_, _], _ => rfl, .nil⟩
  have o_l_mixed : FnOk P w K mg base CX0 2 (He.fAd K ("_law_mixed", none)) fd_l_mixed ["bag", "things"] (spMixed K) := by apply ok_mixed <;> assumption
  have c_l_mixed : C8.Cal P w K mg base 2 "_law_mixed" (spMixed K) [] := ⟨_, _, _, _, o_l_mixed, g_l_mixed, F_l_mixed.kp, F_l_mixed.bindsN fun _ _ _ _ _ _ us hl => match us, hl with | [_, _], _ => rfl, .nil⟩
  have o_l_like : FnOk P w K mg base CX0 1 (He.fAd K ("_law_like", none)) fd_l_like ["told", "due"] (spLikeO) := by apply ok_likeO <;> assumption
  have c_l_like : C8.Cal P w K mg base 1 "_law_like" (spLikeO) [] := ⟨_, _, _, _, o_l_like, g_l_like, F_l_like.kp, F_l_like.bindsN fun _ _ _ _ _ _ us hl => match us, hl with | [_, _], _ => rfl, .nil⟩
  have oC_l_like : L2H.FnH P w K mg base CX0 1 (He.fAd K ("_law_like", none)) fd_l_like ["told", "due"] spLikeHC := by apply ok_likeHC <;> assumption
  have hC_l_like : CalH P w K mg base 1 "_law_like" ["told", "due"] spLikeHC := ⟨_, _, oC_l_like, g_l_like, F_l_like.kp, F_l_like.bindsN fun _ _ _ _ _ _ us hl => match us, hl with | [_, _], _ => rfl⟩
  have oL_l_like : L2H.FnH P w K mg base CX0 2 (He.fAd K ("_law_like", none)) fd_l_like ["told", "due"] (spLikeHL K) := by apply ok_likeHL <;> assumption
  have hL_l_like : CalH P w K mg base 2 "_law_like" ["told", "due"] (spLikeHL K) := ⟨_, _, oL_l_like, g_l_like, F_l_like.kp, F_l_like.bindsN fun _ _ _ _ _ _ us hl => match us, hl with | [_, _], _ => rfl⟩
  have oP_l_like : FnOk P w K mg base CX0 2 (He.fAd K ("_law_like", none)) fd_l_like ["told", "due"] (spLikeP K) := by apply ok_likeP <;> assumption
  have cU_l_like : C8.Cal P w K mg base 2 "_law_like" (spOr (spLikeP K) spLikeO) [] := ⟨_, _, _, _, fnok_or oP_l_like (o_l_like.mono (by decide)), g_l_like, F_l_like.kp, F_l_like.bindsN fun _ _ _ _ _ _ us hl => match us, hl with | [_, _], _ => rfl, .nil⟩
  have bVE := B.ValueError
  have o_l_red : FnOk P w K mg base CX0 1 (He.fAd K ("_law_red", none)) fd_l_red ["mod", "num"] (spRed) := by apply ok_red <;> assumption
  have c_l_red : C8.Cal P w K mg base 1 "_law_red" (spRed) [] := ⟨_, _, _, _, o_l_red, g_l_red, F_l_red.kp, F_l_red.bindsN fun _ _ _ _ _ _ us hl => match us, hl with | [_, _], _ => rfl, .nil⟩
  have o_l_divisor : FnOk P w K mg base CX0 1 (He.fAd K ("_law_divisor", none)) fd_l_divisor ["nums"] (spLDiv K) := by apply ok_ldiv <;> assumption
  have c_l_divisor : C8.Cal P w K mg base 1 "_law_divisor" (spLDiv K) [] := ⟨_, _, _, _, o_l_divisor, g_l_divisor, F_l_divisor.kp, F_l_divisor.bindsN fun _ _ _ _ _ _ us hl => match us, hl with | [_], _ => rfl, .nil⟩
  have o_l_divisors : FnOk P w K mg base CX0 1 (He.fAd K ("_law_divisors", none)) fd_l_divisors ["num"] (spDivs) := by apply ok_divs <;> assumption
  have c_l_divisors : C8.Cal P w K mg base 1 "_law_divisors" (spDivs) [] := ⟨_, _, _, _, o_l_divisors, g_l_divisors, F_l_divisors.kp, F_l_divisors.bindsN fun _ _ _ _ _ _ us hl => match us, hl with | [_], _ => rfl, .nil⟩
  have o_l_arms : FnOk P w K mg base CX0 2 (He.fAd K ("_law_arms", none)) fd_l_arms ["bag"] (spArms) := by apply ok_arms <;> assumption
  have c_l_arms : C8.Cal P w K mg base 2 "_law_arms" (spArms) [] := ⟨_, _, _, _, o_l_arms, g_l_arms, F_l_arms.kp, F_l_arms.bindsN fun _ _ _ _ _ _ us hl => match us, hl with | [_], _ => rfl, .nil⟩
  have o_l_names : FnOk P w K mg base CX0 2 (He.fAd K ("_law_names", none)) fd_l_names ["bag", "many"] (spNames) := by apply ok_names <;> assumption
  have c_l_names : C8.Cal P w K mg base 2 "_law_names" (spNames) [] := ⟨_, _, _, _, o_l_names, g_l_names, F_l_names.kp, F_l_names.bindsN fun _ _ _ _ _ _ us hl => match us, hl with | [_, _], _ => rfl, .nil⟩
  have o_l_word : FnOk P w K mg base CX0 1 (He.fAd K ("_law_word", none)) fd_l_word ["names", "hands"] (spWord K) := by apply ok_word <;> assumption
  have c_l_word : C8.Cal P w K mg base 1 "_law_word" (spWord K) [] := ⟨_, _, _, _, o_l_word, g_l_word, F_l_word.kp, F_l_word.bindsN fun _ _ _ _ _ _ us hl => match us, hl with | [_, _], _ => rfl, .nil⟩
  have o_l_slide : FnOk P w K mg base CX0 2 (He.fAd K ("_law_slide", none)) fd_l_slide ["own", "p", "s"] (spSlide) := by apply ok_slide <;> assumption
  have c_l_slide : C8.Cal P w K mg base 2 "_law_slide" (spSlide) [] := ⟨_, _, _, _, o_l_slide, g_l_slide, F_l_slide.kp, F_l_slide.bindsN fun _ _ _ _ _ _ us hl => match us, hl with | [_, _, _], _ => rfl, .nil⟩
  have o_l_do : FnOk P w K mg base CX0 3 (He.fAd K ("_law_do", none)) fd_l_do ["own", "text"] (spDo K) := by apply ok_do <;> assumption
  have c_l_do : C8.Cal P w K mg base 3 "_law_do" (spDo K) [] := ⟨_, _, _, _, o_l_do, g_l_do, F_l_do.kp, F_l_do.bindsN fun _ _ _ _ _ _ us hl => match us, hl with | [_, _], _ => rfl, .nil⟩
  have o_l_move : FnOk P w K mg base CX0 2 (He.fAd K ("_law_move", none)) fd_l_move ["bag", "own"] (spMove) := by apply ok_move <;> assumption
  have c_l_move : C8.Cal P w K mg base 2 "_law_move" (spMove) [] := ⟨_, _, _, _, o_l_move, g_l_move, F_l_move.kp, F_l_move.bindsN fun _ _ _ _ _ _ us hl => match us, hl with | [_, _], _ => rfl, .nil⟩
  have o_l_twin : FnOk P w K mg base CX0 1 (He.fAd K ("_law_twin", none)) fd_l_twin ["own"] (spTwin) := by apply ok_twin <;> assumption
  have c_l_twin : C8.Cal P w K mg base 1 "_law_twin" (spTwin) [] := ⟨_, _, _, _, o_l_twin, g_l_twin, F_l_twin.kp, F_l_twin.bindsN fun _ _ _ _ _ _ us hl => match us, hl with | [_], _ => rfl, .nil⟩
  have o_l_shift : FnOk P w K mg base CX0 4 (He.fAd K ("_law_shift", none)) fd_l_shift ["bag", "own"] (spShift) := by apply ok_shift <;> assumption
  have c_l_shift : C8.Cal P w K mg base 4 "_law_shift" (spShift) [] := ⟨_, _, _, _, o_l_shift, g_l_shift, F_l_shift.kp, F_l_shift.bindsN fun _ _ _ _ _ _ us hl => match us, hl with | [_, _], _ => rfl, .nil⟩
  have o_l_sheet : FnOk P w K mg base CX0 5 (He.fAd K ("_law_sheet", none)) fd_l_sheet ["bag", "low", "most"] (spLSheet) := by apply ok_lsheet <;> assumption
  have c_l_sheet : C8.Cal P w K mg base 5 "_law_sheet" (spLSheet) [] := ⟨_, _, _, _, o_l_sheet, g_l_sheet, F_l_sheet.kp, F_l_sheet.bindsN fun _ _ _ _ _ _ us hl => match us, hl with | [_, _, _], _ => rfl, .nil⟩
  have o_l_made : FnOk P w K mg base CX0 5 (He.fAd K ("_law_made", none)) fd_l_made ["own"] (spMade K) := by apply ok_made <;> assumption
  have c_l_made : C8.Cal P w K mg base 5 "_law_made" (spMade K) [] := ⟨_, _, _, _, o_l_made, g_l_made, F_l_made.kp, F_l_made.bindsN fun _ _ _ _ _ _ us hl => match us, hl with | [_], _ => rfl, .nil⟩
  have o_l_mates : FnOk P w K mg base CX0 1 (He.fAd K ("_law_mates", none)) fd_l_mates ["feet"] (spMates K) := by apply ok_mates <;> assumption
  have c_l_mates : C8.Cal P w K mg base 1 "_law_mates" (spMates K) [] := ⟨_, _, _, _, o_l_mates, g_l_mates, F_l_mates.kp, F_l_mates.bindsN fun _ _ _ _ _ _ us hl => match us, hl with | [_], _ => rfl, .nil⟩
  have o_l_bands : FnOk P w K mg base CX0 2 (He.fAd K ("_law_bands", none)) fd_l_bands ["feet"] (spBands K) := by apply ok_bands <;> assumption
  have c_l_bands : C8.Cal P w K mg base 2 "_law_bands" (spBands K) [] := ⟨_, _, _, _, o_l_bands, g_l_bands, F_l_bands.kp, F_l_bands.bindsN fun _ _ _ _ _ _ us hl => match us, hl with | [_], _ => rfl, .nil⟩
  have o_l_table : FnOk P w K mg base CX0 2 (He.fAd K ("_law_table", none)) fd_l_table ["feet"] (spLTable K) := by apply ok_ltable <;> assumption
  have c_l_table : C8.Cal P w K mg base 2 "_law_table" (spLTable K) [] := ⟨_, _, _, _, o_l_table, g_l_table, F_l_table.kp, F_l_table.bindsN fun _ _ _ _ _ _ us hl => match us, hl with | [_], _ => rfl, .nil⟩
  have o_l_rims : FnOk P w K mg base CX0 2 (He.fAd K ("_law_rims", none)) fd_l_rims ["own"] (spLRims) := by apply ok_lrims <;> assumption
  have c_l_rims : C8.Cal P w K mg base 2 "_law_rims" (spLRims) [] := ⟨_, _, _, _, o_l_rims, g_l_rims, F_l_rims.kp, F_l_rims.bindsN fun _ _ _ _ _ _ us hl => match us, hl with | [_], _ => rfl, .nil⟩
  have o_l_sums : FnOk P w K mg base CX0 1 (He.fAd K ("_law_sums", none)) fd_l_sums ["bits", "table"] (spSums K) := by apply ok_sums <;> assumption
  have c_l_sums : C8.Cal P w K mg base 1 "_law_sums" (spSums K) [] := ⟨_, _, _, _, o_l_sums, g_l_sums, F_l_sums.kp, F_l_sums.bindsN fun _ _ _ _ _ _ us hl => match us, hl with | [_, _], _ => rfl, .nil⟩
  have o_l_steered : FnOk P w K mg base CX0 5 (He.fAd K ("_law_steered", none)) fd_l_steered ["bag", "most", "odd"] (spSteered) := by apply ok_steered <;> assumption
  have c_l_steered : C8.Cal P w K mg base 5 "_law_steered" (spSteered) [] := ⟨_, _, _, _, o_l_steered, g_l_steered, F_l_steered.kp, F_l_steered.bindsN fun _ _ _ _ _ _ us hl => match us, hl with | [_, _, _], _ => rfl, .nil⟩
  have o_l_moved : FnOk P w K mg base CX0 5 (He.fAd K ("_law_moved", none)) fd_l_moved ["bag", "own", "many"] (spMoved) := by apply ok_moved <;> assumption
  have c_l_moved : C8.Cal P w K mg base 5 "_law_moved" (spMoved) [] := ⟨_, _, _, _, o_l_moved, g_l_moved, F_l_moved.kp, F_l_moved.bindsN fun _ _ _ _ _ _ us hl => match us, hl with | [_, _, _], _ => rfl, .nil⟩
  have o_l_lots : FnOk P w K mg base CX0 3 (He.fAd K ("_law_lots", none)) fd_l_lots ["own"] (spLLots) := by apply ok_llots <;> assumption
  have c_l_lots : C8.Cal P w K mg base 3 "_law_lots" (spLLots) [] := ⟨_, _, _, _, o_l_lots, g_l_lots, F_l_lots.kp, F_l_lots.bindsN fun _ _ _ _ _ _ us hl => match us, hl with | [_], _ => rfl, .nil⟩
  have o_l_many : FnOk P w K mg base CX0 5 (He.fAd K ("_law_many", none)) fd_l_many ["made"] (spMany K) := by apply ok_many <;> assumption
  have c_l_many : C8.Cal P w K mg base 5 "_law_many" (spMany K) [] := ⟨_, _, _, _, o_l_many, g_l_many, F_l_many.kp, F_l_many.bindsN fun _ _ _ _ _ _ us hl => match us, hl with | [_], _ => rfl, .nil⟩
  have o_law : FnOk P w K mg base CX0 6 (He.fAd K ("law", none)) fd_law ["script"] (spLaw K) := by apply ok_law <;> assumption
  exact o_law
end Cb
open PySem PySem.W PySem.Calls PyProof.Rows
theorem PySem.Challenge.cw_combed_k23_whole_lots_counted_holds : PySem.Challenge.rw_combed_k23_whole_lots_counted.Holds := by
  w_on; o_law
  refine HandSHeadRun.head_imp (r := OpenLaw.row PySem.Challenge.rw_combed_k23_whole_lots_counted) (q := view (OpenLaw.row PySem.Challenge.rw_combed_k23_whole_lots_counted).prog [0, 77]) (H := Cb.hk) (ob := Cb.ob) (M := 5000) (loose := Cb.names) (d := HandSHeadRun.topDef (OpenLaw.row PySem.Challenge.rw_combed_k23_whole_lots_counted).prog 77) (kwd := []) Cb.ob_eq Cb.run (by kernel_rfl) (by kernel_rfl) (by kernel_rfl) (by rfl) (by first | assumption | decide +kernel) (by decide +kernel) ⟨rfl, rfl, rfl, rfl, rfl, by decide +kernel⟩ ?hw ?hc
  case hw => w_witness2
  case hc =>
    refine L2.walk_ofE (l := PySem.Challenge.rw_combed_k23_whole_lots_counted) (n := 63) (k := 6) (x := "script") (CX := L2.CX0) rfl (by decide) (by kernel_rfl) ⟨rfl, by decide, by decide⟩ ?F (fun _ _ _ _ z => z)
    intro w mg fa h Y G hmg0
    obtain ⟨K, KX, c⟩ := Y
    have hmg : mg ("law" : PySem.Str) = some (.ref fa) := by
      have e : (HandSHeadRun.topDef (OpenLaw.row PySem.Challenge.rw_combed_k23_whole_lots_counted).prog 77).name = ("law" : PySem.Str) := by kernel_rfl
      rw [← e]
      exact hmg0
    obtain ⟨fd, hb, hF⟩ := Cb.facts (P := (PySem.Challenge.rw_combed_k23_whole_lots_counted).prog) (w := w) KX G hmg ⟨by kernel_rfl, by kernel_rfl⟩ c
    exact ⟨K, fd, Cb.spLaw K, KX, hb, fun H a ns hl _ hS => ⟨a, ns, rfl, hS, hl, fun _ => rfl⟩, hF⟩
#print axioms PySem.Challenge.cw_combed_k23_whole_lots_counted_holds
