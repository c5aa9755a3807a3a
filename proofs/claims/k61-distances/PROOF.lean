import PyProof.Rows.All
import Wide.All
import OpenK.AllK
import Wide.FinOn
import HandS.ForMost
import HandS.Flt
import HandS.RaiseMore
import HandS.Wide
import HandS.TupAny
import HandS.Codes
import HandS.Conv
import PyProof.ListStr
import PySem.Challenge.RW_everycoin_k61_distances_of_words
set_option Elab.async false
set_option linter.all false
set_option maxRecDepth 100000
namespace Go
open PySem PySem.Spec PyProof.Rows L2
/-- kept but for st -/
def Kp (st : Addr) (H H' : Hp) : Prop := ∀ b o, b ≠ st → H b = some o → H' b = some o
theorem Kp.refl (st : Addr) (H : Hp) : Kp st H H := fun _ _ _ h => h
theorem Kp.trans {st : Addr} {H H1 H2 : Hp} (a : Kp st H H1) (b : Kp st H1 H2) : Kp st H H2 := fun c o n h => b c o n (a c o n h)
theorem Kp.new {st p : Addr} {H H1 : Hp} {o : HO} (a : Kp st H H1) (h : H1 p = none) : Kp st H (upd H1 p o) := fun b u n e => by
  rw [upd_ne (ne_of_none (a b u n e) h)]; exact a b u n e
theorem Kp.at {st : Addr} {H H1 : Hp} {o : HO} (a : Kp st H H1) : Kp st H (upd H1 st o) := fun b u n e => by
  rw [upd_ne n]; exact a b u n e
theorem Kp.mut {st p : Addr} {H H1 : Hp} {o : HO} (a : Kp st H H1) (h : H p = none) : Kp st H (upd H1 p o) := fun b u n e => by
  rw [upd_ne (ne_of_none e h)]; exact a b u n e
theorem Kp.of_same {st : Addr} {H H1 : Hp} (a : Same H H1) : Kp st H H1 := fun b u _ e => a b u e
theorem Same.new {p : Addr} {H H1 : Hp} {o : HO} (a : Same H H1) (h : H1 p = none) : Same H (upd H1 p o) := fun b u e => by
  rw [upd_ne (ne_of_none (a b u e) h)]; exact a b u e
theorem Same.mut {p : Addr} {H H1 : Hp} {o : HO} (a : Same H H1) (h : H p = none) : Same H (upd H1 p o) := fun b u e => by
  rw [upd_ne (ne_of_none e h)]; exact a b u e
theorem ne_fr {H : Hp} {a b : Addr} {o : HO} (h : H b = none) (e : H a = some o) : a ≠ b := ne_of_none e h
theorem free_upd {H : Hp} {p q : Addr} {o : HO} (h : upd H p o q = none) : H q = none ∧ q ≠ p := by
  by_cases e : q = p
  · rw [e, upd_same] at h; cases h
  · rw [upd_ne e] at h; exact ⟨h, e⟩
theorem at_upd {H : Hp} {p q : Addr} {o : HO} {u : Option HO} (n : q ≠ p) (h : H q = u) : upd H p o q = u := by rw [upd_ne n]; exact h
section
variable {K : PySem.W.Frag} {H H1 : Hp} {a p st : Addr} {o : HO} {xs : List V}
theorem sqL_ext (k : ∀ u, H a = some u → H1 a = some u) (h : SqL K H a xs) : SqL K H1 a xs := by
  rcases h with (h | ⟨o, h⟩) | h
  · exact .inl (.inl (k _ h))
  · exact .inl (.inr ⟨o, k _ h⟩)
  · exact .inr h
theorem sqT_ext (k : ∀ u, H a = some u → H1 a = some u) (h : SqT K H a xs) : SqT K H1 a xs := by
  rcases h with (h | ⟨o, h⟩) | h
  · exact .inl (.inl (k _ h))
  · exact .inl (.inr ⟨o, k _ h⟩)
  · exact .inr h
theorem sqL_new (n : H p = none) (h : SqL K H a xs) : SqL K (upd H p o) a xs := sqL_ext (fun u e => at_upd (ne_of_none e n) e) h
theorem sqT_new (n : H p = none) (h : SqT K H a xs) : SqT K (upd H p o) a xs := sqT_ext (fun u e => at_upd (ne_of_none e n) e) h
theorem sqL_ne (n : a ≠ p) (h : SqL K H a xs) : SqL K (upd H p o) a xs := sqL_ext (fun u e => at_upd n e) h
theorem sqT_ne (n : a ≠ p) (h : SqT K H a xs) : SqT K (upd H p o) a xs := sqT_ext (fun u e => at_upd n e) h
theorem sqL_same (s : Same H H1) (h : SqL K H a xs) : SqL K H1 a xs := sqL_ext (fun u e => s _ _ e) h
theorem sqT_same (s : Same H H1) (h : SqT K H a xs) : SqT K H1 a xs := sqT_ext (fun u e => s _ _ e) h
theorem sqL_kp (s : Kp st H H1) (n : a ≠ st) (h : SqL K H a xs) : SqL K H1 a xs := sqL_ext (fun u e => s _ _ n e) h
theorem sqT_kp (s : Kp st H H1) (n : a ≠ st) (h : SqT K H a xs) : SqT K H1 a xs := sqT_ext (fun u e => s _ _ n e) h
end
theorem atI_some {α : Type} {xs : List α} {i : Int} (h0 : 0 ≤ i) (h1 : i < xs.length) : atI xs i = some (xs[i.toNat]'(by omega)) := by
  obtain ⟨j, rfl⟩ := Int.eq_ofNat_of_zero_le h0
  exact atI_nat (List.getElem?_eq_getElem (by omega))
theorem atI_map {α β : Type} {f : α → β} {xs : List α} {i : Int} (h0 : 0 ≤ i) (h1 : i < xs.length) : atI (xs.map f) i = some (f (xs[i.toNat]'(by omega))) := by
  rw [atI_some h0 (by rw [List.length_map]; exact h1), List.getElem_map]
theorem ixN_some {n : Nat} {i : Int} (h0 : 0 ≤ i) (h1 : i < n) : ixN n i = some i.toNat := by
  unfold ixN; rw [if_pos h0, if_pos h1]
/-! ### one step of a reading -/
section
variable {σ : L2.St} {H : Hp}
theorem g_seq {t u : TS} {D : Ends} (h : t { D with nx := u D } σ H) : tSeq t u D σ H := h
theorem g_asg {te : TE} {g : TG} {D : Ends} (h : te σ H fun x H1 => g x σ H1 D.nx) : tAsg te g D σ H := h
theorem g_name {i : Nat} {v : V} {Q : L2.St → Hp → Prop} (h : Q (σ.set i (some v)) H) : gName i v σ H Q := h
theorem g_sub {to ti : TE} {t : TSet} {v : V} {Q : L2.St → Hp → Prop} (h : to σ H fun o H1 => ti σ H1 fun i H2 => t o i v H2 fun H3 => Q σ H3) : gSub to ti t v σ H Q := h
theorem g_op {r : R2} {ta tb : TE} {Q : VK} (h : ta σ H fun x H1 => tb σ H1 fun y H2 => r x y H2 Q) : tOp r ta tb σ H Q := h
theorem g_un {r : V → Hp → VK → Prop} {ta : TE} {Q : VK} (h : ta σ H fun x H1 => r x H1 Q) : tUn r ta σ H Q := h
theorem g_c {v : V} {Q : VK} (h : Q v H) : tC v σ H Q := h
theorem g_cb {r : List V → Hp → VK → Prop} {t : TA} {Q : VK} (h : t σ H fun vs H1 => r vs H1 Q) : tCB r t σ H Q := h
theorem g_call {sp : Sp} {dvs : List V} {E : XK} {t : TA} {Q : VK} (h : t σ H fun vs H1 => sp (vs ++ dvs) H1 Q E) : tCall sp dvs E t σ H Q := h
theorem g_cons {ta : TE} {tr : TA} {Q : List V → Hp → Prop} (h : ta σ H fun x H1 => tr σ H1 fun xs H2 => Q (x :: xs) H2) : tCons ta tr σ H Q := h
theorem g_nil {Q : List V → Hp → Prop} (h : Q [] H) : tNil σ H Q := h
theorem g_test {t : TE} {Q : Bool → Hp → Prop} (h : t σ H fun x H' => ∃ k, x = .bl k ∧ Q k H') : tTest t σ H Q := h
theorem g_tB {t : TE} {Q : Bool → Hp → Prop} (h : t σ H fun x H' => ∃ k, x = .bl k ∧ Q k H') : tB t σ H Q := h
theorem g_bl {b : Bool} {Q : Bool → Hp → Prop} (h : Q b H) : ∃ k, V.bl b = .bl k ∧ Q k H := ⟨b, rfl, h⟩
theorem g_ifs {c : TT} {t u : TS} {D : Ends} (h : c σ H fun b H1 => if b = true then t D σ H1 else u D σ H1) : tIfS c t u D σ H := h
theorem g_if {c : TT} {t u : TE} {Q : VK} (h : c σ H fun b H1 => if b = true then t σ H1 Q else u σ H1 Q) : tIf c t u σ H Q := h
theorem g_and {t u : TT} {Q : Bool → Hp → Prop} (h : t σ H fun c H1 => if c = true then u σ H1 Q else Q false H1) : tAnd t u σ H Q := h
theorem g_or {t u : TT} {Q : Bool → Hp → Prop} (h : t σ H fun c H1 => if c = true then Q true H1 else u σ H1 Q) : tOr t u σ H Q := h
theorem g_not {t : TT} {Q : Bool → Hp → Prop} (h : t σ H fun c H1 => Q (!c) H1) : tNot t σ H Q := h
theorem g_ret {te : TE} {D : Ends} (h : te σ H D.rt) : tRet te D σ H := h
theorem g_next {D : Ends} (h : D.nx σ H) : tNext D σ H := h
theorem g_drop {te : TE} {D : Ends} (h : te σ H fun _ H1 => D.nx σ H1) : tDrop te D σ H := h
theorem g_sl {r : V → Option Int → Option Int → Hp → VK → Prop} {te : TE} {tl th : TO} {Q : VK} (h : te σ H fun x H1 => tl σ H1 fun l H2 => th σ H2 fun u H3 => r x l u H3 Q) : tSl r te tl th σ H Q := h
theorem g_nopart {Q : Option Int → Hp → Prop} (h : Q none H) : tNoPart σ H Q := h
theorem g_part {t : TE} {Q : Option Int → Hp → Prop} (h : t σ H fun x H1 => ∃ i, x = .int i ∧ Q (some i) H1) : tPart t σ H Q := h
theorem g_int {i : Int} {Q : Int → Hp → Prop} (h : Q i H) : ∃ k, V.int i = .int k ∧ Q k H := ⟨i, rfl, h⟩
theorem g_bm {K : PySem.W.Frag} {T : String} {r : V → List V → Hp → VK → Prop} {to : TE} {t : TA} {Q : VK} (h : to σ H fun x H1 => tyV K T x H1 ∧ t σ H1 fun xs H2 => r x xs H2 Q) : tBM K T r to t σ H Q := h
theorem g_yes {Q : Bool → Hp → Prop} (h : Q true H) : tYes σ H Q := h
theorem g_ixL {K : PySem.W.Frag} {p : Addr} {xs : List V} {i : Int} {v : V} {Q : VK} (h : SqL K H p xs) (e : atI xs i = some v) (q : Q v H) : rIxL K (.ref p) (.int i) H Q := ⟨_, _, _, _, rfl, rfl, h, e, q⟩
theorem g_ixT {K : PySem.W.Frag} {p : Addr} {xs : List V} {i : Int} {v : V} {Q : VK} (h : SqT K H p xs) (e : atI xs i = some v) (q : Q v H) : rIxT K (.ref p) (.int i) H Q := ⟨_, _, _, _, rfl, rfl, h, e, q⟩
theorem g_setL {p : Addr} {xs : List V} {k : Int} {j : Nat} {v : V} {Q : Hp → Prop} (h : H p = some (.lst xs)) (e : ixN xs.length k = some j) (q : Q (upd H p (.lst (xs.set j v)))) : rSetL (.ref p) (.int k) v H Q := ⟨_, _, _, _, rfl, rfl, h, e, q⟩
/-- a for's turns, over what it walks -/
def ForW (J : It) (g : TG) (tb : TS) (D : Ends) (σ : L2.St) (H1 : Hp) : Prop := ∃ W : Nat → Nat → L2.St → Hp → Prop, (∃ m, W 0 m σ H1) ∧ ∀ i m σ H, W i m σ H →
  (J.stop i H ∧ D.nx σ H) ∨ (J.go i H ∧ ∃ N : L2.St → Hp → Prop, (∀ σ' H', N σ' H' → ∃ m', m' < m ∧ W (i + 1) m' σ' H') ∧ ∀ x H', J.yld i H x H' → g x σ H' fun σ2 H2 => tb { D with nx := N, ct := N, bk := D.nx } σ2 H2)
theorem g_for {wi : TI} {g : TG} {tb : TS} {D : Ends} (h : wi σ H fun J H1 => ForW J g tb D σ H1) : tFor wi g tb D σ H := h
theorem g_rng1 {ta : TA} {R : It → Hp → Prop} (h : ta σ H fun vs H1 => ∃ j : Int, vs = [.int j] ∧ -(2 ^ 62) ≤ j ∧ j < 2 ^ 62 ∧ R (Itr 0 j.toNat) H1) : iRng1 ta σ H R := h
theorem g_rng2 {ta : TA} {R : It → Hp → Prop} (h : ta σ H fun vs H1 => ∃ i j : Int, vs = [.int i, .int j] ∧ (-(2 ^ 62) ≤ i ∧ i < 2 ^ 62 ∧ -(2 ^ 62) ≤ j ∧ j < 2 ^ 62) ∧ R (Itr i (j - i).toNat) H1) : iRng2 ta σ H R := h
theorem g_rng3 {ta : TA} {R : It → Hp → Prop} (h : ta σ H fun vs H1 => ∃ (i j c : Int) (n : Nat), vs = [.int i, .int j, .int c] ∧ RgC i j c n ∧ R (Itc i c n) H1) : iRng3 ta σ H R := h
theorem g_list {K : PySem.W.Frag} {tl : TE} {R : It → Hp → Prop} (h : tl σ H fun x H1 => ∃ a, x = .ref a ∧ (∃ xs, SqL K H1 a xs) ∧ R (Itl K a) H1) : iList K tl σ H R := h
theorem g_itup {K : PySem.W.Frag} {tl : TE} {R : It → Hp → Prop} (h : tl σ H fun x H1 => ∃ a, x = .ref a ∧ (∃ xs, SqT K H1 a xs) ∧ R (Itt K a) H1) : iTup K tl σ H R := h
theorem forW_list {K : PySem.W.Frag} {a : Addr} (xs : List V) {g : TG} {tb : TS} {D : Ends} (Pv : Nat → L2.St → Hp → Prop) (h0 : Pv 0 σ H) (hl : ∀ i σ H, i ≤ xs.length → Pv i σ H → SqL K H a xs)
    (hs : ∀ i x σ H, xs[i]? = some x → Pv i σ H → g x σ H fun σ2 H2 => tb { D with nx := Pv (i + 1), ct := Pv (i + 1), bk := D.nx } σ2 H2) (hd : ∀ σ H, Pv xs.length σ H → D.nx σ H) : ForW (Itl K a) g tb D σ H := for_list Pv h0 hl hs hd
theorem forW_tup {K : PySem.W.Frag} {a : Addr} (xs : List V) {g : TG} {tb : TS} {D : Ends} (Pv : Nat → L2.St → Hp → Prop) (h0 : Pv 0 σ H) (hl : ∀ i σ H, i ≤ xs.length → Pv i σ H → SqT K H a xs)
    (hs : ∀ i x σ H, xs[i]? = some x → Pv i σ H → g x σ H fun σ2 H2 => tb { D with nx := Pv (i + 1), ct := Pv (i + 1), bk := D.nx } σ2 H2) (hd : ∀ σ H, Pv xs.length σ H → D.nx σ H) : ForW (Itt K a) g tb D σ H := for_tup Pv h0 hl hs hd
theorem forW_range {lo : Int} {n : Nat} {g : TG} {tb : TS} {D : Ends} (Pv : Nat → L2.St → Hp → Prop) (h0 : Pv 0 σ H)
    (hs : ∀ i σ H, i < n → Pv i σ H → g (.int (lo + i)) σ H fun σ2 H2 => tb { D with nx := Pv (i + 1), ct := Pv (i + 1), bk := D.nx } σ2 H2) (hd : ∀ σ H, Pv n σ H → D.nx σ H) : ForW (Itr lo n) g tb D σ H := for_range Pv h0 hs hd
theorem forW_rangeC {lo c : Int} {n : Nat} {g : TG} {tb : TS} {D : Ends} (Pv : Nat → L2.St → Hp → Prop) (h0 : Pv 0 σ H)
    (hs : ∀ i σ H, i < n → Pv i σ H → g (.int (lo + (i : Nat) * c)) σ H fun σ2 H2 => tb { D with nx := Pv (i + 1), ct := Pv (i + 1), bk := D.nx } σ2 H2) (hd : ∀ σ H, Pv n σ H → D.nx σ H) : ForW (Itc lo c n) g tb D σ H := for_rangeC Pv h0 hs hd
/-- a comprehension's turns -/
def LcW (J : It) (g : TG) (tt : TT) (te : TE) (vs : List Nat) (σ : L2.St) (H1 : Hp) (D : Addr) (Qd : Hp → Prop) : Prop := ∃ W : Nat → Nat → Hp → Prop, (∃ m, W 0 m (upd H1 D (.lst []))) ∧ ∀ i m H, W i m H →
  (J.stop i H ∧ Qd H) ∨ (J.go i H ∧ ∃ Nx : Hp → Prop, (∀ H', Nx H' → ∃ m', m' < m ∧ W (i + 1) m' H') ∧ ∀ x H', J.yld i H x H' → g x (wipe σ vs) H' fun σ2 H2 => wipe σ2 vs = wipe σ vs ∧ tt σ2 H2 fun b H3 =>
    if b = true then te σ2 H3 fun y H4 => ∃ acc, H4 D = some (.lst acc) ∧ acc.length < sizeLine ∧ Nx (upd H4 D (.lst (acc ++ [y]))) else Nx H3)
theorem g_lc {wi : TI} {g : TG} {tt : TT} {te : TE} {vs : List Nat} {Q : VK} (h : wi σ H fun J H1 => ∀ D, H1 D = none → LcW J g tt te vs σ H1 D fun H' => Q (.ref D) H') : tLc wi g tt te vs σ H Q := h
theorem lcW_list {K : PySem.W.Frag} {a : Addr} (xs : List V) {g : TG} {tt : TT} {te : TE} {vs : List Nat} {H1 : Hp} {D : Addr} {Qd : Hp → Prop} (Pv : Nat → Hp → Prop) (h0 : Pv 0 (upd H1 D (.lst []))) (hl : ∀ i H, i ≤ xs.length → Pv i H → SqL K H a xs)
    (hs : ∀ i x H, xs[i]? = some x → Pv i H → g x (wipe σ vs) H fun σ2 H2 => wipe σ2 vs = wipe σ vs ∧ tt σ2 H2 fun b H3 =>
      if b = true then te σ2 H3 fun y H4 => ∃ acc, H4 D = some (.lst acc) ∧ acc.length < sizeLine ∧ Pv (i + 1) (upd H4 D (.lst (acc ++ [y]))) else Pv (i + 1) H3) (hd : ∀ H, Pv xs.length H → Qd H) : LcW (Itl K a) g tt te vs σ H1 D Qd := lc_list Pv h0 hl hs hd
theorem lcW_range {lo : Int} {n : Nat} {g : TG} {tt : TT} {te : TE} {vs : List Nat} {H1 : Hp} {D : Addr} {Qd : Hp → Prop} (Pv : Nat → Hp → Prop) (h0 : Pv 0 (upd H1 D (.lst [])))
    (hs : ∀ i H, i < n → Pv i H → g (.int (lo + i)) (wipe σ vs) H fun σ2 H2 => wipe σ2 vs = wipe σ vs ∧ tt σ2 H2 fun b H3 =>
      if b = true then te σ2 H3 fun y H4 => ∃ acc, H4 D = some (.lst acc) ∧ acc.length < sizeLine ∧ Pv (i + 1) (upd H4 D (.lst (acc ++ [y]))) else Pv (i + 1) H3) (hd : ∀ H, Pv n H → Qd H) : LcW (Itr lo n) g tt te vs σ H1 D Qd := lc_range Pv h0 hs hd
theorem g_lst {t : TA} {Q : VK} (h : t σ H fun xs H1 => xs.length ≤ sizeLine ∧ ∀ p, H1 p = none → Q (.ref p) (upd H1 p (.lst xs))) : tLst t σ H Q := h
theorem g_tup {t : TA} {Q : VK} (h : t σ H fun xs H1 => xs.length ≤ sizeLine ∧ ∀ p, H1 p = none → Q (.ref p) (upd H1 p (.tup xs))) : tTup t σ H Q := h
theorem g_cut {t u : TS} {D : Ends} (Mid : L2.St → Hp → Prop) (h1 : t { D with nx := Mid } σ H) (h2 : ∀ σ' H', Mid σ' H' → u D σ' H') : C8.tCut t u D σ H := ⟨Mid, h1, h2⟩
theorem g_aug {i : Nat} {te : TE} {ti : TIp} {D : Ends} {x : V} (e : σ[i]? = some (some x)) (h : te σ H fun y H1 => ti x y H1 fun z H2 => D.nx (σ.set i (some z)) H2) : tAug i te ti D σ H := ⟨x, e, h⟩
theorem g_ite {b : Bool} {A B : Prop} (h1 : b = true → A) (h2 : b = false → B) : if b = true then A else B := by
  cases b
  · exact iteF (h2 rfl)
  · exact iteT (h1 rfl)
theorem g_itd {c : Prop} [Decidable c] {A B : Prop} (h1 : c → A) (h2 : ¬ c → B) : if decide c = true then A else B := by
  by_cases h : c
  · rw [decide_eq_true h]; exact iteT (h1 h)
  · rw [decide_eq_false h]; exact iteF (h2 h)
theorem g_itnd {c : Prop} [Decidable c] {A B : Prop} (h1 : ¬ c → A) (h2 : c → B) : if (!decide c) = true then A else B := by
  by_cases h : c
  · rw [decide_eq_true h]; exact iteF (h2 h)
  · rw [decide_eq_false h]; exact iteT (h1 h)
end
/-- a test, what follows shown once -/
def tCutT (t : TT) : TT := fun σ H Q => ∃ M : Bool → Hp → Prop, t σ H M ∧ ∀ b H', M b H' → Q b H'
theorem pt_cutT {X : Cx} {e : Expr} {t : TT} (h : PT X e t) : PT X e (tCutT t) := ⟨fun pins s σ H Q I hq => by
  obtain ⟨M, h1, h2⟩ := hq
  exact thn (h.run pins s σ H M I h1) fun b s' ⟨H', I', q⟩ => ⟨H', I', h2 _ _ q⟩⟩
/-- an expression, what follows shown once -/
def tCutE (t : TE) : TE := fun σ H Q => ∃ M : VK, t σ H M ∧ ∀ b H', M b H' → Q b H'
theorem pe_cutE {X : Cx} {e : Expr} {t : TE} (h : PE X e t) : PE X e (tCutE t) := ⟨fun pins s σ H Q I hq => by
  obtain ⟨M, h1, h2⟩ := hq
  exact thn (h.run pins s σ H M I h1) fun u s' ⟨v, H', I', r, q⟩ => ⟨v, H', I', r, h2 _ _ q⟩⟩
/-- list(text) -/
theorem call_list_strV {X : Cx} (hc : X.calm = true) : CallR X (.type "list") (fun xs H Q => ∃ z : Str, xs = [.str z] ∧ z.length ≤ sizeLine ∧ ∀ l, H l = none → Q (.ref l) (upd H l (.lst (z.cps.toList.map fun c => V.str ⟨#[c]⟩)))) := by
  intro pins s σ H xs us Q I r h
  obtain ⟨z, rfl, hz, q⟩ := h
  obtain ⟨u, rfl, t, rfl⟩ := vals1 r
  refine PySem.call_list_str (I.ok.hd hc) z t (fun h' tk acc' c' hk e hi => ?_) hz
  refine ⟨.ref s.heap.objs.size, upd H s.heap.objs.size (.lst (z.cps.toList.map fun c => V.str ⟨#[c]⟩)), I.laid hk (Nat.le_refl _) (show ObjOk X.prog X.w _ _ _ (.lst (z.cps.toList.map fun c => V.str ⟨#[c]⟩)) from ⟨?_, acc'.toList, c', ?_, ?_⟩), rfl, q _ (I.hok.fresh (Nat.le_refl _))⟩
  · rw [List.length_map]; exact hz
  · refine vals_of_at (by rw [List.length_map, Array.length_toList, Array.length_toList, hi.1]) fun j x w h1 h2 => ?_
    obtain ⟨c, u, hcj, rfl⟩ := hi.2 j w (by rw [← Array.getElem?_toList]; exact h2)
    rw [List.getElem?_map, Array.getElem?_toList, hcj] at h1
    cases h1
    exact ⟨u, rfl⟩
  · exact e
end Go
namespace K61
/-! the mathematics: edit distances with costs -/
def m3 (a b c : Int) : Int := min (min a b) c
def likeC : List (List Nat) := [[98, 112], [99, 107, 113], [100, 116], [102, 118, 119], [105, 121], [109, 110], [115, 122]]
def turnP (c d : Nat) : Int := if likeC.any (fun g => decide (c ∈ g) && decide (d ∈ g)) then 1 else 2
def turnL (c d : Nat) : Int := if c = d then 0 else turnP c d
theorem turnP_ge (c d : Nat) : 1 ≤ turnP c d ∧ turnP c d ≤ 2 := by unfold turnP; split <;> omega
theorem turnL_ge (c d : Nat) : 0 ≤ turnL c d ∧ turnL c d ≤ 2 := by
  unfold turnL; have := turnP_ge c d; split <;> omega
theorem any_congr {α : Type} {l : List α} {f g : α → Bool} (h : ∀ x, f x = g x) : l.any f = l.any g := by
  induction l with
  | nil => rfl
  | cons a r ih => simp only [List.any_cons, h, ih]
theorem turnP_comm (c d : Nat) : turnP c d = turnP d c := by
  unfold turnP
  rw [any_congr fun g => Bool.and_comm _ _]
theorem turnL_comm (c d : Nat) : turnL c d = turnL d c := by
  unfold turnL
  by_cases h : c = d
  · subst h; rfl
  · rw [if_neg h, if_neg (fun e => h e.symm), turnP_comm]
/-- the distance, by the heads -/
def dd : List Nat → List Nat → Int
  | [], ys => 2 * (ys.length : Int)
  | x :: xs, [] => 2 * ((x :: xs).length : Int)
  | x :: xs, y :: ys => m3 (turnL x y + dd xs ys) (2 + dd xs (y :: ys)) (2 + dd (x :: xs) ys)
termination_by xs ys => xs.length + ys.length
theorem dd_nil (ys : List Nat) : dd [] ys = 2 * (ys.length : Int) := by unfold dd; rfl
theorem dd_nil' (xs : List Nat) : dd xs [] = 2 * (xs.length : Int) := by cases xs <;> simp [dd]
theorem dd_cons (x : Nat) (xs : List Nat) (y : Nat) (ys : List Nat) : dd (x :: xs) (y :: ys) = m3 (turnL x y + dd xs ys) (2 + dd xs (y :: ys)) (2 + dd (x :: xs) ys) := by rw [dd]
theorem dd_comm : ∀ (n : Nat) (xs ys : List Nat), xs.length + ys.length ≤ n → dd xs ys = dd ys xs
  | n, [], ys, _ => by rw [dd_nil, dd_nil']
  | n, x :: xs, [], _ => by rw [dd_nil, dd_nil']
  | 0, x :: xs, y :: ys, h => by simp at h
  | n + 1, x :: xs, y :: ys, h => by
    have h' : xs.length + ys.length + 2 ≤ n + 1 := by simp only [List.length_cons] at h; omega
    rw [dd_cons, dd_cons, dd_comm n xs ys (by omega), dd_comm n xs (y :: ys) (by simp only [List.length_cons]; omega), dd_comm n (x :: xs) ys (by simp only [List.length_cons]; omega), turnL_comm]
    unfold m3; omega
/-- an alignment of a cost -/
inductive Al : List Nat → List Nat → Int → Prop where
  | nil : Al [] [] 0
  | sub (x y : Nat) {xs ys : List Nat} {c : Int} : Al xs ys c → Al (x :: xs) (y :: ys) (turnL x y + c)
  | del (x : Nat) {xs ys : List Nat} {c : Int} : Al xs ys c → Al (x :: xs) ys (2 + c)
  | ins (y : Nat) {xs ys : List Nat} {c : Int} : Al xs ys c → Al xs (y :: ys) (2 + c)
theorem Al.ys : ∀ ys : List Nat, Al [] ys (2 * (ys.length : Int))
  | [] => .nil
  | y :: ys => by
    have := Al.ins y (Al.ys ys)
    have e : 2 * ((y :: ys).length : Int) = 2 + 2 * (ys.length : Int) := by simp only [List.length_cons]; omega
    rw [e]; exact this
theorem Al.xs : ∀ xs : List Nat, Al xs [] (2 * (xs.length : Int))
  | [] => .nil
  | x :: xs => by
    have := Al.del x (Al.xs xs)
    have e : 2 * ((x :: xs).length : Int) = 2 + 2 * (xs.length : Int) := by simp only [List.length_cons]; omega
    rw [e]; exact this
theorem m3_cases (a b c : Int) : m3 a b c = a ∨ m3 a b c = b ∨ m3 a b c = c := by unfold m3; omega
theorem Al.dd : ∀ (n : Nat) (xs ys : List Nat), xs.length + ys.length ≤ n → Al xs ys (dd xs ys)
  | n, [], ys, _ => by rw [dd_nil]; exact Al.ys ys
  | n, x :: xs, [], _ => by rw [dd_nil']; exact Al.xs _
  | 0, x :: xs, y :: ys, h => by simp at h
  | n + 1, x :: xs, y :: ys, h => by
    have h' : xs.length + ys.length + 2 ≤ n + 1 := by simp only [List.length_cons] at h; omega
    rw [dd_cons]
    rcases m3_cases (turnL x y + K61.dd xs ys) (2 + K61.dd xs (y :: ys)) (2 + K61.dd (x :: xs) ys) with e | e | e
    · rw [e]; exact .sub x y (Al.dd n xs ys (by omega))
    · rw [e]; exact .del x (Al.dd n xs (y :: ys) (by simp only [List.length_cons]; omega))
    · rw [e]; exact .ins y (Al.dd n (x :: xs) ys (by simp only [List.length_cons]; omega))
/-- a letter less costs at most two more -/
theorem dd_step : ∀ (n : Nat) (x : Nat) (xs ys : List Nat), xs.length + ys.length ≤ n → dd (x :: xs) ys ≤ 2 + dd xs ys
  | n, x, xs, [], _ => by
    rw [dd_nil', dd_nil']; simp only [List.length_cons]; omega
  | n, x, xs, y :: ys, _ => by
    rw [dd_cons]; unfold m3; omega
theorem Al.ge {xs ys : List Nat} {c : Int} (h : Al xs ys c) : K61.dd xs ys ≤ c := by
  induction h with
  | nil => rw [dd_nil]; simp
  | @sub x y xs ys c _ ih => rw [dd_cons]; unfold m3; omega
  | @del x xs ys c _ ih => have := dd_step _ x xs ys (Nat.le_refl _); omega
  | @ins y xs ys c _ ih =>
    have := dd_step _ y ys xs (Nat.le_refl _)
    rw [dd_comm _ _ _ (Nat.le_refl _)] at this ih ⊢
    rw [dd_comm _ xs _ (Nat.le_refl _)] at *
    omega
theorem Al.less {zs ys : List Nat} {c : Int} (h : Al zs ys c) : ∀ x xs, zs = x :: xs → ∃ c', c' ≤ 2 + c ∧ Al xs ys c' := by
  induction h with
  | nil => intro x xs e; cases e
  | @sub a b as bs c h ih =>
    intro x xs e; cases e
    refine ⟨2 + c, ?_, .ins b h⟩
    have := turnL_ge a b; omega
  | @del a as bs c h ih =>
    intro x xs e; cases e
    exact ⟨c, by omega, h⟩
  | @ins b as bs c h ih =>
    intro x xs e
    obtain ⟨c', h1, h2⟩ := ih x xs e
    exact ⟨2 + c', by omega, .ins b h2⟩
theorem dd_less (x : Nat) (xs ys : List Nat) : dd xs ys ≤ 2 + dd (x :: xs) ys := by
  obtain ⟨c', h1, h2⟩ := (Al.dd _ (x :: xs) ys (Nat.le_refl _)).less x xs rfl
  have := h2.ge
  omega
theorem dd_less' (y : Nat) (xs ys : List Nat) : dd xs ys ≤ 2 + dd xs (y :: ys) := by
  rw [dd_comm _ xs ys (Nat.le_refl _), dd_comm _ xs (y :: ys) (Nat.le_refl _)]
  exact dd_less y ys xs
theorem dd_same (x : Nat) (xs ys : List Nat) : dd (x :: xs) (x :: ys) = dd xs ys := by
  rw [dd_cons]
  have h1 := dd_less' x xs ys
  have h2 := dd_less x xs ys
  have h3 : turnL x x = 0 := by unfold turnL; simp
  unfold m3; omega
theorem dd_other {x y : Nat} (h : x ≠ y) (xs ys : List Nat) : dd (x :: xs) (y :: ys) = m3 (turnP x y + dd xs ys) (2 + dd xs (y :: ys)) (2 + dd (x :: xs) ys) := by
  rw [dd_cons]; unfold turnL; rw [if_neg h]
/-! the other way round -/
theorem Al.snoc_sub {xs ys : List Nat} {c : Int} (a b : Nat) (h : Al xs ys c) : Al (xs ++ [a]) (ys ++ [b]) (turnL a b + c) := by
  induction h with
  | nil => exact .sub a b .nil
  | @sub x y xs ys c h ih =>
    have e : turnL a b + (turnL x y + c) = turnL x y + (turnL a b + c) := by omega
    rw [e]; exact .sub x y ih
  | @del x xs ys c h ih =>
    have e : turnL a b + (2 + c) = 2 + (turnL a b + c) := by omega
    rw [e]; exact .del x ih
  | @ins y xs ys c h ih =>
    have e : turnL a b + (2 + c) = 2 + (turnL a b + c) := by omega
    rw [e]; exact .ins y ih
theorem Al.snoc_del {xs ys : List Nat} {c : Int} (a : Nat) (h : Al xs ys c) : Al (xs ++ [a]) ys (2 + c) := by
  induction h with
  | nil => exact .del a .nil
  | @sub x y xs ys c h ih =>
    have e : 2 + (turnL x y + c) = turnL x y + (2 + c) := by omega
    rw [e]; exact .sub x y ih
  | @del x xs ys c h ih => exact .del x ih
  | @ins y xs ys c h ih => exact .ins y ih
theorem Al.snoc_ins {xs ys : List Nat} {c : Int} (b : Nat) (h : Al xs ys c) : Al xs (ys ++ [b]) (2 + c) := by
  induction h with
  | nil => exact .ins b .nil
  | @sub x y xs ys c h ih =>
    have e : 2 + (turnL x y + c) = turnL x y + (2 + c) := by omega
    rw [e]; exact .sub x y ih
  | @del x xs ys c h ih => exact .del x ih
  | @ins y xs ys c h ih => exact .ins y ih
theorem Al.rev {xs ys : List Nat} {c : Int} (h : Al xs ys c) : Al xs.reverse ys.reverse c := by
  induction h with
  | nil => exact .nil
  | @sub x y xs ys c h ih => rw [List.reverse_cons, List.reverse_cons]; exact ih.snoc_sub x y
  | @del x xs ys c h ih => rw [List.reverse_cons]; exact ih.snoc_del x
  | @ins y xs ys c h ih => rw [List.reverse_cons]; exact ih.snoc_ins y
theorem dd_rev_le (xs ys : List Nat) : dd xs.reverse ys.reverse ≤ dd xs ys := (Al.dd _ xs ys (Nat.le_refl _)).rev.ge
theorem dd_rev (xs ys : List Nat) : dd xs.reverse ys.reverse = dd xs ys := by
  have h1 := dd_rev_le xs ys
  have h2 := dd_rev_le xs.reverse ys.reverse
  rw [List.reverse_reverse, List.reverse_reverse] at h2
  omega
theorem dd_bounds : ∀ (n : Nat) (xs ys : List Nat), xs.length + ys.length ≤ n → 0 ≤ dd xs ys ∧ dd xs ys ≤ 2 * ((xs.length : Int) + ys.length)
  | n, [], ys, _ => by rw [dd_nil]; simp only [List.length_nil]; omega
  | n, x :: xs, [], _ => by rw [dd_nil']; simp only [List.length_nil]; omega
  | 0, x :: xs, y :: ys, h => by simp at h
  | n + 1, x :: xs, y :: ys, h => by
    have h' : xs.length + ys.length + 2 ≤ n + 1 := by simp only [List.length_cons] at h; omega
    have a := dd_bounds n xs ys (by omega)
    have b := dd_bounds n xs (y :: ys) (by simp only [List.length_cons]; omega)
    have c := dd_bounds n (x :: xs) ys (by simp only [List.length_cons]; omega)
    have t := turnL_ge x y
    rw [dd_cons]
    simp only [List.length_cons] at *
    unfold m3; omega
/-- the prefixes' distances: a row's next -/
def pre (a b : List Nat) (i j : Nat) : Int := dd (a.take i).reverse (b.take j).reverse
theorem take_rev {a : List Nat} {i : Nat} (h : i < a.length) : (a.take (i + 1)).reverse = a[i] :: (a.take i).reverse := by
  rw [List.take_succ_eq_append_getElem h, List.reverse_append]; rfl
theorem pre_step {a b : List Nat} {i j : Nat} (hi : i < a.length) (hj : j < b.length) :
    pre a b (i + 1) (j + 1) = m3 (pre a b i j + turnL a[i] b[j]) (pre a b i (j + 1) + 2) (pre a b (i + 1) j + 2) := by
  unfold pre
  rw [take_rev hi, take_rev hj, dd_cons]
  unfold m3; omega
theorem pre_zero (a b : List Nat) {j : Nat} (h : j ≤ b.length) : pre a b 0 j = 2 * (j : Int) := by
  unfold pre
  rw [List.take_zero, List.reverse_nil, dd_nil, List.length_reverse, List.length_take, Nat.min_eq_left h]
theorem pre_zero' (a b : List Nat) {i : Nat} (h : i ≤ a.length) : pre a b i 0 = 2 * (i : Int) := by
  unfold pre
  rw [List.take_zero, List.reverse_nil, dd_nil', List.length_reverse, List.length_take, Nat.min_eq_left h]
theorem pre_all (a b : List Nat) : pre a b a.length b.length = dd a b := by
  unfold pre
  rw [List.take_length, List.take_length, dd_rev]
/-- the suffixes' distances -/
def suf (a b : List Nat) (i j : Nat) : Int := dd (a.drop i) (b.drop j)
theorem suf_end {a b : List Nat} {j : Nat} (h : j ≤ b.length) : suf a b a.length j = 2 * ((b.length : Int) - j) := by
  unfold suf
  rw [List.drop_length, dd_nil, List.length_drop]; omega
theorem suf_end' {a b : List Nat} {i : Nat} (h : i ≤ a.length) : suf a b i b.length = 2 * ((a.length : Int) - i) := by
  unfold suf
  rw [List.drop_length, dd_nil', List.length_drop]; omega
theorem suf_same {a b : List Nat} {i j : Nat} (hi : i < a.length) (hj : j < b.length) (e : a[i] = b[j]) : suf a b i j = suf a b (i + 1) (j + 1) := by
  unfold suf
  rw [List.drop_eq_getElem_cons hi, List.drop_eq_getElem_cons hj, e, dd_same]
theorem suf_other {a b : List Nat} {i j : Nat} (hi : i < a.length) (hj : j < b.length) (e : a[i] ≠ b[j]) :
    suf a b i j = m3 (turnP a[i] b[j] + suf a b (i + 1) (j + 1)) (2 + suf a b (i + 1) j) (2 + suf a b i (j + 1)) := by
  unfold suf
  rw [List.drop_eq_getElem_cons hi, List.drop_eq_getElem_cons hj, dd_other e]
def signsC : List Nat := [97, 98, 99, 100, 101, 102, 103, 104, 105, 106, 99, 108, 109, 109, 111, 98, 99, 114, 115, 100, 117, 102, 102, 120, 105, 115]
theorem signs_all : ∀ c : _root_.Fin 26, ∀ d : _root_.Fin 26, turnL (97 + c.val) (97 + d.val) = (if c = d then 0 else if signsC[c.val]? = signsC[d.val]? then 1 else 2) := by decide +kernel
end K61

namespace K61
open PySem PySem.Spec PyProof.Rows L2
def topS (i : Nat) : Stmt := PySem.Challenge.pw_everycoin_k61_distances_of_words.main.body.getD i (.Pass ⟨0, 0, 0, 0⟩)
def likeS : List Str := ["bp", "ckq", "dt", "fvw", "iy", "mn", "sz"]
abbrev s_turn_cost : Stmt := topS 2
theorem sc_turn_cost : FnScope ["one", "other", "group"] ["one", "other"] (defScope s_turn_cost) := ⟨rfl, rfl, rfl, by decide +kernel, rfl, by decide +kernel, by decide +kernel⟩
abbrev s__law_draw : Stmt := topS 6
theorem sc__law_draw : FnScope ["state", "script", "size", "cell", "mixed", "digit"] ["state", "script", "size"] (defScope s__law_draw) := ⟨rfl, rfl, rfl, by decide +kernel, rfl, by decide +kernel, by decide +kernel⟩
abbrev s__law_turn : Stmt := topS 10
theorem sc__law_turn : FnScope ["one", "other", "signs"] ["one", "other"] (defScope s__law_turn) := ⟨rfl, rfl, rfl, by decide +kernel, rfl, by decide +kernel, by decide +kernel⟩
abbrev s_table : Stmt := topS 3
theorem sc_table : FnScope ["one", "other", "rows", "_", "i", "j", "turned"] ["one", "other"] (defScope s_table) := ⟨rfl, rfl, rfl, by decide +kernel, rfl, by decide +kernel, by decide +kernel⟩
abbrev s__law_pick : Stmt := topS 7
theorem sc__law_pick : FnScope ["state", "script", "items"] ["state", "script", "items"] (defScope s__law_pick) := ⟨rfl, rfl, rfl, by decide +kernel, rfl, by decide +kernel, by decide +kernel⟩
abbrev s__law_word : Stmt := topS 8
theorem sc__law_word : FnScope ["state", "script", "word", "_"] ["state", "script"] (defScope s__law_word) := ⟨rfl, rfl, rfl, by decide +kernel, rfl, by decide +kernel, by decide +kernel⟩
abbrev s__law_distance : Stmt := topS 11
theorem sc__law_distance : FnScope ["one", "other", "before", "j", "i", "row"] ["one", "other"] (defScope s__law_distance) := ⟨rfl, rfl, rfl, by decide +kernel, rfl, by decide +kernel, by decide +kernel⟩
abbrev s_distance : Stmt := topS 4
theorem sc_distance : FnScope ["one", "other"] ["one", "other"] (defScope s_distance) := ⟨rfl, rfl, rfl, by decide +kernel, rfl, by decide +kernel, by decide +kernel⟩
abbrev s__law_close : Stmt := topS 9
theorem sc__law_close : FnScope ["state", "script", "word", "groups", "_", "at", "kind", "letter", "like", "group"] ["state", "script", "word"] (defScope s__law_close) := ⟨rfl, rfl, rfl, by decide +kernel, rfl, by decide +kernel, by decide +kernel⟩
abbrev s_law : Stmt := topS 12
theorem sc_law : FnScope ["script", "state", "_", "one", "other", "due"] ["script"] (defScope s_law) := ⟨rfl, rfl, rfl, by decide +kernel, rfl, by decide +kernel, by decide +kernel⟩
/-- what the top has left -/
structure Txt (K : PySem.W.Frag) (mg : Str → Option Value) where
  a_turn_cost : Addr
  fd_turn_cost : FuncData
  F_turn_cost : Fun K "turn_cost" "turn_cost" s_turn_cost a_turn_cost fd_turn_cost
  b_turn_cost : Binds K fd_turn_cost ["one", "other"] []
  g_turn_cost : mg "turn_cost" = some (.ref a_turn_cost)
  a__law_draw : Addr
  fd__law_draw : FuncData
  F__law_draw : Fun K "_law_draw" "_law_draw" s__law_draw a__law_draw fd__law_draw
  b__law_draw : Binds K fd__law_draw ["state", "script", "size"] []
  g__law_draw : mg "_law_draw" = some (.ref a__law_draw)
  a__law_turn : Addr
  fd__law_turn : FuncData
  F__law_turn : Fun K "_law_turn" "_law_turn" s__law_turn a__law_turn fd__law_turn
  b__law_turn : Binds K fd__law_turn ["one", "other"] []
  g__law_turn : mg "_law_turn" = some (.ref a__law_turn)
  a_table : Addr
  fd_table : FuncData
  F_table : Fun K "table" "table" s_table a_table fd_table
  b_table : Binds K fd_table ["one", "other"] []
  g_table : mg "table" = some (.ref a_table)
  a__law_pick : Addr
  fd__law_pick : FuncData
  F__law_pick : Fun K "_law_pick" "_law_pick" s__law_pick a__law_pick fd__law_pick
  b__law_pick : Binds K fd__law_pick ["state", "script", "items"] []
  g__law_pick : mg "_law_pick" = some (.ref a__law_pick)
  a__law_word : Addr
  fd__law_word : FuncData
  F__law_word : Fun K "_law_word" "_law_word" s__law_word a__law_word fd__law_word
  b__law_word : Binds K fd__law_word ["state", "script"] []
  g__law_word : mg "_law_word" = some (.ref a__law_word)
  a__law_distance : Addr
  fd__law_distance : FuncData
  F__law_distance : Fun K "_law_distance" "_law_distance" s__law_distance a__law_distance fd__law_distance
  b__law_distance : Binds K fd__law_distance ["one", "other"] []
  g__law_distance : mg "_law_distance" = some (.ref a__law_distance)
  a_distance : Addr
  fd_distance : FuncData
  F_distance : Fun K "distance" "distance" s_distance a_distance fd_distance
  b_distance : Binds K fd_distance ["one", "other"] []
  g_distance : mg "distance" = some (.ref a_distance)
  a__law_close : Addr
  fd__law_close : FuncData
  F__law_close : Fun K "_law_close" "_law_close" s__law_close a__law_close fd__law_close
  b__law_close : Binds K fd__law_close ["state", "script", "word"] []
  g__law_close : mg "_law_close" = some (.ref a__law_close)
  a_law : Addr
  fd_law : FuncData
  F_law : Fun K "law" "law" s_law a_law fd_law
  b_law : Binds K fd_law ["script"] []
  g_law : mg "law" = some (.ref a_law)
  n_int : mg "int" = none
  n_len : mg "len" = none
  n_list : mg "list" = none
  n_min : mg "min" = none
  n_ord : mg "ord" = none
  n_range : mg "range" = none
  n_repr : mg "repr" = none
  a_LIKE : Addr
  m_LIKE : mg "LIKE" = some (.ref a_LIKE)
  t_LIKE : ∀ H, SqT K H a_LIKE (likeS.map V.str)

end K61

namespace K61
open PySem PySem.Spec PyProof.Rows L2 Go
def mkS (w : List Nat) : Str := ⟨w.toArray⟩
theorem mkS_len (w : List Nat) : (mkS w).length = w.length := by simp [mkS, Str.length]
theorem mkS_list (w : List Nat) : (mkS w).cps.toList = w := by simp [mkS]
theorem mkS_app (a b : List Nat) : mkS a ++ mkS b = mkS (a ++ b) := by
  show Str.append (mkS a) (mkS b) = mkS (a ++ b)
  simp [mkS, Str.append]
theorem cut_lo {w : List Nat} {i : Int} (h : 0 ≤ i) : cutS (mkS w) none (some i) = mkS (w.take i.toNat) := by
  obtain ⟨k, rfl⟩ := Int.eq_ofNat_of_zero_le h
  unfold cutS
  rw [HT.sIx_none, mkS_list, mkS_len]
  rw [show HT.sIx w.length w.length (some (k : Int)) = min k w.length from HT.sIx_nat _ _ _]
  show (⟨_⟩ : Str) = ⟨_⟩
  congr 2
  simp [List.take_eq_take_iff]
theorem cut_hi {w : List Nat} {i : Int} (h : 0 ≤ i) : cutS (mkS w) (some i) none = mkS (w.drop i.toNat) := by
  obtain ⟨k, rfl⟩ := Int.eq_ofNat_of_zero_le h
  unfold cutS
  rw [HT.sIx_none, mkS_list, mkS_len]
  rw [show HT.sIx w.length 0 (some (k : Int)) = min k w.length from HT.sIx_nat _ _ _]
  show (⟨_⟩ : Str) = ⟨_⟩
  congr 2
  by_cases hk : k ≤ w.length
  · rw [Nat.min_eq_left hk]
    rw [List.take_of_length_le (by rw [List.length_drop]; omega)]
    rfl
  · rw [Nat.min_eq_right (by omega)]
    simp
    omega
def alphaC : List Nat := (List.range 26).map (97 + ·)
theorem alpha_eq : ("abcdefghijklmnopqrstuvwxyz" : Str) = mkS alphaC := by decide +kernel
theorem signs_eq : ("abcdefghijclmmobcrsduffxis" : Str) = mkS signsC := by decide +kernel
theorem like_eq : likeS = likeC.map mkS := by decide +kernel
/-- the words of the law -/
def Let (c : Nat) : Prop := 97 ≤ c ∧ c ≤ 122
def Wd (w : List Nat) : Prop := 1 ≤ w.length ∧ w.length ≤ 12 ∧ ∀ c ∈ w, Let c
theorem alpha_at {i : Int} (h : 0 ≤ i) (h2 : i < 26) : atI alphaC i = some (97 + i.toNat) := by
  obtain ⟨k, rfl⟩ := Int.eq_ofNat_of_zero_le h
  refine atI_nat ?_
  unfold alphaC
  rw [List.getElem?_map, List.getElem?_range (by omega)]
  rfl
theorem sz {n : Nat} (h : n ≤ 1000) : n ≤ sizeLine := Nat.le_trans h (by decide)
end K61

namespace K61
open PySem PySem.Spec PyProof.Rows L2 Go
set_option maxHeartbeats 8000000
local macro_rules | `(tactic| walk_at "ne") => `(tactic| first
  | assumption
  | (refine Ne.symm ?_; assumption)
  | exact (Go.free_upd (by assumption)).2
  | exact (Go.free_upd (by assumption)).2.symm
  | exact Go.ne_fr (by assumption) (by walk_at "hp")
  | exact (Go.ne_fr (by assumption) (by walk_at "hp")).symm)
local macro_rules | `(tactic| walk_at "fr") => `(tactic| first
  | assumption
  | exact (Go.free_upd (by assumption)).1
  | exact (Go.free_upd (Go.free_upd (by assumption)).1).1
  | exact Same.free (by assumption) (by walk_at "fr"))
local macro_rules | `(tactic| walk_at "hp") => `(tactic| first
  | assumption
  | with_reducible exact upd_same
  | ((with_reducible show upd _ _ _ _ = _); exact Go.at_upd (by walk_at "ne") (by walk_at "hp"))
  | exact (by assumption : Same _ _) _ _ (by walk_at "hp")
  | exact (by assumption : Go.Kp _ _ _) _ _ (by walk_at "ne") (by walk_at "hp"))
local macro_rules | `(tactic| walk_at "sq") => `(tactic| first
  | assumption
  | ((with_reducible show SqL _ (upd _ _ _) _ _); exact (by assumption : ∀ o, SqL _ (upd _ _ o) _ _) _)
  | ((with_reducible show SqL _ _ _ _); exact SqL.of (by walk_at "hp"))
  | ((with_reducible show SqT _ _ _ _); exact SqT.of (by walk_at "hp"))
  | ((with_reducible show SqL _ (upd _ _ _) _ _); exact Go.sqL_new (by walk_at "fr") (by walk_at "sq"))
  | ((with_reducible show SqT _ (upd _ _ _) _ _); exact Go.sqT_new (by walk_at "fr") (by walk_at "sq"))
  | ((with_reducible show SqL _ (upd _ _ _) _ _); exact Go.sqL_ne (by walk_at "ne") (by walk_at "sq"))
  | exact Go.sqL_same (by assumption) (by walk_at "sq")
  | exact Go.sqT_same (by assumption) (by walk_at "sq")
  | exact Go.sqL_kp (by assumption) (by walk_at "ne") (by walk_at "sq")
  | exact Go.sqT_kp (by assumption) (by walk_at "ne") (by walk_at "sq"))
local macro_rules | `(tactic| walk_at "ci") => `(tactic| first
  | exact .inr ⟨by decide, by decide⟩
  | exact .inl ⟨by decide, by decide⟩
  | exact ⟨by decide, by decide, by decide⟩
  | decide
  | omega
  | exact ⟨by omega, by omega⟩
  | exact .inl ⟨by omega, by omega⟩
  | exact .inr ⟨by omega, by omega⟩)
local macro_rules | `(tactic| walk_at "g0") => `(tactic| first
  | with_reducible refine Go.g_seq ?_
  | ((with_reducible show tVar _ _ _ _); refine ⟨_, rfl, ?_⟩)
  | with_reducible refine Go.g_c ?_
  | with_reducible refine Go.g_op ?_
  | with_reducible refine Go.g_asg ?_
  | with_reducible refine Go.g_name ?_
  | with_reducible refine Go.g_cons ?_
  | with_reducible refine Go.g_lst ?_
  | with_reducible refine Go.g_tup ?_
  | with_reducible refine Go.g_for ?_
  | with_reducible refine Go.g_rng1 ?_
  | with_reducible refine Go.g_rng2 ?_
  | with_reducible refine Go.g_rng3 ?_
  | with_reducible refine Go.g_list ?_
  | with_reducible refine Go.g_itup ?_
  | with_reducible refine Go.g_lc ?_
  | with_reducible refine Go.g_nil ?_
  | with_reducible refine Go.g_cb ?_
  | with_reducible refine Go.g_call ?_
  | with_reducible refine Go.g_ret ?_
  | with_reducible refine Go.g_next ?_
  | with_reducible refine Go.g_drop ?_
  | with_reducible refine Go.g_un ?_
  | with_reducible refine Go.g_test ?_
  | with_reducible refine Go.g_tB ?_
  | with_reducible refine Go.g_ifs ?_
  | with_reducible refine Go.g_if ?_
  | with_reducible refine Go.g_and ?_
  | with_reducible refine Go.g_or ?_
  | with_reducible refine Go.g_not ?_
  | with_reducible refine Go.g_sl ?_
  | with_reducible refine Go.g_nopart ?_
  | with_reducible refine Go.g_part ?_
  | ((with_reducible show ∃ k, V.bl _ = V.bl k ∧ _); refine ⟨_, rfl, ?_⟩)
  | ((with_reducible show ∃ k, V.int _ = V.int k ∧ _); refine ⟨_, rfl, ?_⟩)
  | with_reducible refine Go.g_bm ?_
  | with_reducible refine Go.g_yes ?_
  | ((with_reducible show rI0 _ _ _ _ _); refine ⟨_, _, rfl, rfl, ?_⟩)
  | ((with_reducible show rI _ _ _ _ _ _); refine ⟨_, _, rfl, rfl, ?_, ?_⟩; (focus walk_at "ci"))
  | ((with_reducible show rU _ _ _ _); refine ⟨_, rfl, ?_⟩)
  | ((with_reducible show rEq _ _ _ _); refine ⟨rfl, ?_⟩)
  | ((with_reducible show rNe _ _ _ _); refine ⟨rfl, ?_⟩)
  | ((with_reducible show rIxL _ _ _ _ _); refine Go.g_ixL (by walk_at "sq") (by rfl) ?_)
  | ((with_reducible show rIxT _ _ _ _ _); refine Go.g_ixT (by walk_at "sq") (by rfl) ?_)
  | ((with_reducible show rSetL _ _ _ _ _); refine Go.g_setL (by walk_at "hp") (by rfl) ?_)
  | ((with_reducible show ∃ p ys, [V.ref _] = [V.ref p] ∧ (SqL _ _ _ _ ∨ SqT _ _ _ _) ∧ _); refine ⟨_, _, rfl, .inl (by walk_at "sq"), ?_⟩)
  | ((with_reducible show (∃ i, [V.int _] = [V.int i] ∧ _) ∨ _); refine .inl ⟨_, rfl, ?_⟩)
  | ((with_reducible show ∃ (c : Nat) (z : Str), V.str _ = V.str ⟨#[c]⟩ ∧ V.str _ = V.str z ∧ _); refine ⟨_, _, rfl, rfl, ?_⟩)
  | ((with_reducible show ∃ x : Str, [V.str _] = [V.str x] ∧ Str.length x = 1 ∧ _); refine ⟨_, rfl, rfl, ?_⟩)
  | ((with_reducible show ∃ z : Str, [V.str _] = [V.str z] ∧ Str.length z ≤ sizeLine ∧ _); refine ⟨_, rfl, by assumption, ?_⟩)
  | ((with_reducible show rSlS _ _ _ _ _); refine ⟨_, rfl, by assumption, ?_⟩)
  | ((with_reducible show wipe _ _ = wipe _ _ ∧ _); refine ⟨rfl, ?_⟩)
  | ((with_reducible show if true = true then _ else _); refine iteT ?_)
  | ((with_reducible show if false = true then _ else _); refine iteF ?_)
  | ((with_reducible show ∃ a, V.ref _ = V.ref a ∧ (∃ xs, SqL _ _ a xs) ∧ _); refine ⟨_, rfl, ⟨_, by walk_at "sq"⟩, ?_⟩)
  | ((with_reducible show ∃ a, V.ref _ = V.ref a ∧ (∃ xs, SqT _ _ a xs) ∧ _); refine ⟨_, rfl, ⟨_, by walk_at "sq"⟩, ?_⟩)
  | ((with_reducible show ∃ j : Int, [V.int _] = [V.int j] ∧ _ ≤ j ∧ j < _ ∧ _); refine ⟨_, rfl, by omega, by omega, ?_⟩)
  | ((with_reducible show ∃ i j : Int, [V.int _, V.int _] = [V.int i, V.int j] ∧ (_ ≤ i ∧ i < _ ∧ _ ≤ j ∧ j < _) ∧ _); refine ⟨_, _, rfl, ⟨by omega, by omega, by omega, by omega⟩, ?_⟩)
  | ((with_reducible show ∃ i j : Int, [V.int _, V.int _] = [V.int i, V.int j] ∧ _); refine ⟨_, _, rfl, ?_⟩)
  | ((with_reducible show _ ≤ sizeLine ∧ _); refine ⟨by first | decide | (simp only [List.length_cons, List.length_nil]; decide), ?_⟩))
local macro_rules | `(tactic| walk_at "g1") => `(tactic| first | walk_at "g0" | with_reducible refine Go.g_sub ?_)
local macro_rules | `(tactic| walk_at "g") => `(tactic| repeat walk_at "g1")
local macro_rules | `(tactic| walk_at "v") => `(tactic| repeat walk_at "g0")
local macro_rules | `(tactic| walk_at "if") => `(tactic| first
  | with_reducible refine @Go.g_itd _ _ _ _ ?_ ?_
  | with_reducible refine @Go.g_itnd _ _ _ _ ?_ ?_
  | with_reducible refine Go.g_ite ?_ ?_)

section
variable {P : Program} {w : World} {K : PySem.W.Frag} {mg : Str → Option Value} {base : Heap}
def St (K : PySem.W.Frag) (H : Hp) (st sc : Addr) (ns : List Int) : Prop :=
  (∃ n s : Int, H st = some (.lst [.int n, .int s])) ∧ (∀ H', Kp st H H' → SqL K H' sc (ns.map V.int)) ∧ ns.length ≤ 63
theorem St.ne {K : PySem.W.Frag} {H : Hp} {st sc l : Addr} {ns : List Int} (S : St K H st sc ns) (h : H l = none) : l ≠ st := by
  obtain ⟨⟨n, s, e⟩, _⟩ := S
  exact (ne_of_none e h).symm
theorem St.new {K : PySem.W.Frag} {H : Hp} {st sc l : Addr} {ns : List Int} {o : HO} (S : St K H st sc ns) (h : H l = none) : St K (upd H l o) st sc ns := by
  have hl := S.ne h
  obtain ⟨⟨n, s, e⟩, h1, h3⟩ := S
  exact ⟨⟨n, s, at_upd hl.symm e⟩, fun H' k => h1 _ ((Kp.new (Kp.refl _ _) h).trans k), h3⟩
theorem St.same {K : PySem.W.Frag} {H H1 : Hp} {st sc : Addr} {ns : List Int} (S : St K H st sc ns) (s : Same H H1) : St K H1 st sc ns := by
  obtain ⟨⟨n, x, e⟩, h1, h3⟩ := S
  exact ⟨⟨n, x, s _ _ e⟩, fun H' k => h1 _ ((Kp.of_same s).trans k), h3⟩
def sp__law_draw (K : PySem.W.Frag) : Sp := fun vs H Q _ => ∃ (st sc : Addr) (ns : List Int) (size : Int), vs = [.ref st, .ref sc, .int size] ∧ St K H st sc ns ∧
  1 ≤ size ∧ size < 1000000 ∧ ∀ H' d, Kp st H H' → St K H' st sc ns → 0 ≤ d → d < size → Q (.int d) H'
theorem ok__law_draw (T : Txt K mg) : FnOk P w K mg base CX0 1 T.a__law_draw T.fd__law_draw ["state", "script", "size"] (sp__law_draw K) := by
  refine T.F__law_draw.ok sc__law_draw (fun vs H Q E h => ?_) (fun cdv A outer s H vs Q E hr h => ?_)
  · obtain ⟨st, sc, ns, size, rfl, _⟩ := h; rfl
  · obtain ⟨st, sc, ns, size, rfl, hS, h1, h2, q⟩ := h
    obtain ⟨⟨n, s, hst⟩, hsq, hlen⟩ := hS
    have hsc := hsq _ (Kp.refl _ _)
    refine ⟨_, C8.pss_cut (ps_if (pt_cmpR op_eq (pe_ix ix_list (pv 0) pe_int (fun _ _ => rfl)) pe_int (nomark _))
        (pss_cons (ps_set (i := 3) sc__law_draw.nd rfl (.inl rfl) pe_int)
        (C8.pss_cut (ps_if (pt_cmpR op_gt (pe_callB call_len_seq (by rfl) T.n_len PySem.boot_len (pa_cons (pv 1) pa_nil)) pe_int (nomark _))
          (pss_one (ps_set (i := 3) sc__law_draw.nd rfl (.inl rfl) (pe_ix ix_list (pv 1) (pe_op op_mod (pe_ix ix_list (pv 0) pe_int (fun _ _ => rfl)) (pe_callB call_len_seq (by rfl) T.n_len PySem.boot_len (pa_cons (pv 1) pa_nil))) (fun _ _ => rfl))))
          (pss_nil))
        (C8.pss_cut (ps_if (pt_cmpR op_lt (pv 3) pe_int (nomark _))
          (pss_one (ps_set (i := 3) sc__law_draw.nd rfl (.inl rfl) (pe_op op_sub pe_int (pe_op op_mul pe_int (pv 3)))))
          (pss_nil))
        (pss_cons (ps_set (i := 4) sc__law_draw.nd rfl (.inl rfl) (pe_op op_mod (pe_callTy call_int1 (by rfl) T.n_int (by decide +kernel) (pa_cons (pe_op op_mul (pe_op op_add (pe_op op_add (pv 3) (pe_op op_mul (pe_ix ix_list (pv 0) pe_int (fun _ _ => rfl)) pe_int)) pe_int) pe_int) pa_nil)) pe_int))
        (pss_cons (ps_asg (pe_op op_mod (pe_callTy call_int1 (by rfl) T.n_int (by decide +kernel) (pa_cons (pe_op op_add (pe_op op_mul (pv 4) pe_int) (pe_op op_mul (pe_ix ix_list (pv 0) pe_int (fun _ _ => rfl)) pe_int)) pa_nil)) pe_int) (pg_sub (pv 0) pe_int set_list))
        (C8.pss_cut (ps_if (PW.pt (pw_and (pt_cmpR op_ge (pv 3) (pe_op op_pow pe_int pe_int) (nomark _)) (pw_and1 (pt_cmpR op_lt (pe_ix ix_list (pv 0) pe_int (fun _ _ => rfl)) (pe_callB call_len_seq (by rfl) T.n_len PySem.boot_len (pa_cons (pv 1) pa_nil)) (nomark _)))))
          (pss_one (ps_asg (pv 3) (pg_sub (pv 0) pe_int set_list)))
          (pss_nil))
        (pss_one (ps_asg (pe_op op_add (pe_ix ix_list (pv 0) pe_int (fun _ _ => rfl)) pe_int) (pg_sub (pv 0) pe_int set_list)))))))))
        (pss_nil))
      (pss_cons (ps_set (i := 5) sc__law_draw.nd rfl (.inl rfl) (pe_op op_mod (pe_callTy call_int1 (by rfl) T.n_int (by decide +kernel) (pa_cons (pe_ix ix_list (pv 0) pe_int (fun _ _ => rfl)) pa_nil)) (pv 2)))
      (pss_cons (ps_asg (pe_op op_fdiv (pe_ix ix_list (pv 0) pe_int (fun _ _ => rfl)) (pv 2)) (pg_sub (pv 0) pe_int set_list))
      (pss_one (ps_ret (pv 5))))), ?_⟩
    refine ⟨fun σ' H' => ∃ n s y3 y4, σ' = [some (.ref st), some (.ref sc), some (.int size), y3, y4, none] ∧ Kp st H H' ∧ H' st = some (.lst [.int n, .int s]), ?_, ?_⟩
    · walk_at "g"
      walk_at "if" <;> intro e
      · walk_at "g"
        refine ⟨fun σ' H' => ∃ c : Int, σ' = [some (.ref st), some (.ref sc), some (.int size), some (.int c), none, none] ∧ H = H', ?_, ?_⟩
        · walk_at "g"
          walk_at "if" <;> intro e
          · walk_at "g"
            refine ⟨_, _, _, _, rfl, rfl, hsc, atI_map (Int.emod_nonneg _ (by omega)) ?_, ?_⟩
            · rw [List.length_map] at e ⊢
              exact Int.emod_lt_of_pos _ e
            · exact ⟨_, rfl, rfl⟩
          · exact ⟨_, rfl, rfl⟩
        · rintro _ _ ⟨c, rfl, rfl⟩
          refine ⟨fun σ' H' => ∃ c : Int, σ' = [some (.ref st), some (.ref sc), some (.int size), some (.int c), none, none] ∧ H = H', ?_, ?_⟩
          · walk_at "g"
            walk_at "if" <;> intro e
            · walk_at "g"
              exact ⟨_, rfl, rfl⟩
            · exact ⟨_, rfl, rfl⟩
          · rintro _ _ ⟨c, rfl, rfl⟩
            walk_at "g"
            refine ⟨fun σ' H' => ∃ n s c m : Int, σ' = [some (.ref st), some (.ref sc), some (.int size), some (.int c), some (.int m), none] ∧ Kp st H H' ∧ H' st = some (.lst [.int n, .int s]), ?_, ?_⟩
            · walk_at "g"
              walk_at "if" <;> intro e
              · have hsc1 : ∀ o, SqL K (upd H st o) sc (ns.map V.int) := fun o => hsq _ (Kp.refl _ _).at
                walk_at "g"
                walk_at "if" <;> intro e
                · walk_at "g"
                  exact ⟨_, _, _, _, rfl, (Kp.refl _ _).at.at, upd_same⟩
                · walk_at "g"
                  exact ⟨_, _, _, _, rfl, (Kp.refl _ _).at, upd_same⟩
              · walk_at "g"
                exact ⟨_, _, _, _, rfl, (Kp.refl _ _).at, upd_same⟩
            · rintro _ H1 ⟨n, s, c, m, rfl, k1, hs1⟩
              walk_at "g"
              exact ⟨_, _, _, _, rfl, k1.at, upd_same⟩
      · walk_at "g"
        exact ⟨_, _, _, _, rfl, Kp.refl _ _, hst⟩
    · rintro _ H1 ⟨n, s, y3, y4, rfl, k1, hs1⟩
      walk_at "g"
      exact q _ _ k1.at ⟨⟨_, _, upd_same⟩, fun H' k => hsq _ (k1.at.trans k), hlen⟩ (Int.emod_nonneg _ (by omega)) (Int.emod_lt_of_pos _ (by omega))

end
end K61

namespace K61
open PySem PySem.Spec PyProof.Rows L2 Go
set_option maxHeartbeats 8000000
local macro_rules | `(tactic| walk_at "ne") => `(tactic| first
  | assumption
  | (refine Ne.symm ?_; assumption)
  | exact (Go.free_upd (by assumption)).2
  | exact (Go.free_upd (by assumption)).2.symm
  | exact Go.ne_fr (by assumption) (by walk_at "hp")
  | exact (Go.ne_fr (by assumption) (by walk_at "hp")).symm)
local macro_rules | `(tactic| walk_at "fr") => `(tactic| first
  | assumption
  | exact (Go.free_upd (by assumption)).1
  | exact (Go.free_upd (Go.free_upd (by assumption)).1).1
  | exact Same.free (by assumption) (by walk_at "fr"))
local macro_rules | `(tactic| walk_at "hp") => `(tactic| first
  | assumption
  | with_reducible exact upd_same
  | ((with_reducible show upd _ _ _ _ = _); exact Go.at_upd (by walk_at "ne") (by walk_at "hp"))
  | exact (by assumption : Same _ _) _ _ (by walk_at "hp")
  | exact (by assumption : Go.Kp _ _ _) _ _ (by walk_at "ne") (by walk_at "hp"))
local macro_rules | `(tactic| walk_at "sq") => `(tactic| first
  | assumption
  | ((with_reducible show SqL _ (upd _ _ _) _ _); exact (by assumption : ∀ o, SqL _ (upd _ _ o) _ _) _)
  | ((with_reducible show SqL _ _ _ _); exact SqL.of (by walk_at "hp"))
  | ((with_reducible show SqT _ _ _ _); exact SqT.of (by walk_at "hp"))
  | ((with_reducible show SqL _ (upd _ _ _) _ _); exact Go.sqL_new (by walk_at "fr") (by walk_at "sq"))
  | ((with_reducible show SqT _ (upd _ _ _) _ _); exact Go.sqT_new (by walk_at "fr") (by walk_at "sq"))
  | ((with_reducible show SqL _ (upd _ _ _) _ _); exact Go.sqL_ne (by walk_at "ne") (by walk_at "sq"))
  | exact Go.sqL_same (by assumption) (by walk_at "sq")
  | exact Go.sqT_same (by assumption) (by walk_at "sq")
  | exact Go.sqL_kp (by assumption) (by walk_at "ne") (by walk_at "sq")
  | exact Go.sqT_kp (by assumption) (by walk_at "ne") (by walk_at "sq"))
local macro_rules | `(tactic| walk_at "ci") => `(tactic| first
  | exact .inr ⟨by decide, by decide⟩
  | exact .inl ⟨by decide, by decide⟩
  | exact ⟨by decide, by decide, by decide⟩
  | decide
  | omega
  | exact ⟨by omega, by omega⟩
  | exact .inl ⟨by omega, by omega⟩
  | exact .inr ⟨by omega, by omega⟩)
local macro_rules | `(tactic| walk_at "g0") => `(tactic| first
  | with_reducible refine Go.g_seq ?_
  | ((with_reducible show tVar _ _ _ _); refine ⟨_, rfl, ?_⟩)
  | with_reducible refine Go.g_c ?_
  | with_reducible refine Go.g_op ?_
  | with_reducible refine Go.g_asg ?_
  | with_reducible refine Go.g_name ?_
  | with_reducible refine Go.g_cons ?_
  | with_reducible refine Go.g_lst ?_
  | with_reducible refine Go.g_tup ?_
  | with_reducible refine Go.g_for ?_
  | with_reducible refine Go.g_rng1 ?_
  | with_reducible refine Go.g_rng2 ?_
  | with_reducible refine Go.g_rng3 ?_
  | with_reducible refine Go.g_list ?_
  | with_reducible refine Go.g_itup ?_
  | with_reducible refine Go.g_lc ?_
  | with_reducible refine Go.g_nil ?_
  | with_reducible refine Go.g_cb ?_
  | with_reducible refine Go.g_call ?_
  | with_reducible refine Go.g_ret ?_
  | with_reducible refine Go.g_next ?_
  | with_reducible refine Go.g_drop ?_
  | with_reducible refine Go.g_un ?_
  | with_reducible refine Go.g_test ?_
  | with_reducible refine Go.g_tB ?_
  | with_reducible refine Go.g_ifs ?_
  | with_reducible refine Go.g_if ?_
  | with_reducible refine Go.g_and ?_
  | with_reducible refine Go.g_or ?_
  | with_reducible refine Go.g_not ?_
  | with_reducible refine Go.g_sl ?_
  | with_reducible refine Go.g_nopart ?_
  | with_reducible refine Go.g_part ?_
  | ((with_reducible show ∃ k, V.bl _ = V.bl k ∧ _); refine ⟨_, rfl, ?_⟩)
  | ((with_reducible show ∃ k, V.int _ = V.int k ∧ _); refine ⟨_, rfl, ?_⟩)
  | with_reducible refine Go.g_bm ?_
  | with_reducible refine Go.g_yes ?_
  | ((with_reducible show rI0 _ _ _ _ _); refine ⟨_, _, rfl, rfl, ?_⟩)
  | ((with_reducible show rI _ _ _ _ _ _); refine ⟨_, _, rfl, rfl, ?_, ?_⟩; (focus walk_at "ci"))
  | ((with_reducible show rU _ _ _ _); refine ⟨_, rfl, ?_⟩)
  | ((with_reducible show rEq _ _ _ _); refine ⟨rfl, ?_⟩)
  | ((with_reducible show rNe _ _ _ _); refine ⟨rfl, ?_⟩)
  | ((with_reducible show rIxL _ _ _ _ _); refine Go.g_ixL (by walk_at "sq") (by rfl) ?_)
  | ((with_reducible show rIxT _ _ _ _ _); refine Go.g_ixT (by walk_at "sq") (by rfl) ?_)
  | ((with_reducible show rSetL _ _ _ _ _); refine Go.g_setL (by walk_at "hp") (by rfl) ?_)
  | ((with_reducible show ∃ p ys, [V.ref _] = [V.ref p] ∧ (SqL _ _ _ _ ∨ SqT _ _ _ _) ∧ _); refine ⟨_, _, rfl, .inl (by walk_at "sq"), ?_⟩)
  | ((with_reducible show (∃ i, [V.int _] = [V.int i] ∧ _) ∨ _); refine .inl ⟨_, rfl, ?_⟩)
  | ((with_reducible show ∃ (c : Nat) (z : Str), V.str _ = V.str ⟨#[c]⟩ ∧ V.str _ = V.str z ∧ _); refine ⟨_, _, rfl, rfl, ?_⟩)
  | ((with_reducible show ∃ x : Str, [V.str _] = [V.str x] ∧ Str.length x = 1 ∧ _); refine ⟨_, rfl, rfl, ?_⟩)
  | ((with_reducible show ∃ z : Str, [V.str _] = [V.str z] ∧ Str.length z ≤ sizeLine ∧ _); refine ⟨_, rfl, by assumption, ?_⟩)
  | ((with_reducible show rSlS _ _ _ _ _); refine ⟨_, rfl, by assumption, ?_⟩)
  | ((with_reducible show wipe _ _ = wipe _ _ ∧ _); refine ⟨rfl, ?_⟩)
  | ((with_reducible show if true = true then _ else _); refine iteT ?_)
  | ((with_reducible show if false = true then _ else _); refine iteF ?_)
  | ((with_reducible show ∃ a, V.ref _ = V.ref a ∧ (∃ xs, SqL _ _ a xs) ∧ _); refine ⟨_, rfl, ⟨_, by walk_at "sq"⟩, ?_⟩)
  | ((with_reducible show ∃ a, V.ref _ = V.ref a ∧ (∃ xs, SqT _ _ a xs) ∧ _); refine ⟨_, rfl, ⟨_, by walk_at "sq"⟩, ?_⟩)
  | ((with_reducible show ∃ j : Int, [V.int _] = [V.int j] ∧ _ ≤ j ∧ j < _ ∧ _); refine ⟨_, rfl, by omega, by omega, ?_⟩)
  | ((with_reducible show ∃ i j : Int, [V.int _, V.int _] = [V.int i, V.int j] ∧ (_ ≤ i ∧ i < _ ∧ _ ≤ j ∧ j < _) ∧ _); refine ⟨_, _, rfl, ⟨by omega, by omega, by omega, by omega⟩, ?_⟩)
  | ((with_reducible show ∃ i j : Int, [V.int _, V.int _] = [V.int i, V.int j] ∧ _); refine ⟨_, _, rfl, ?_⟩)
  | ((with_reducible show _ ≤ sizeLine ∧ _); refine ⟨by first | decide | (simp only [List.length_cons, List.length_nil]; decide), ?_⟩))
local macro_rules | `(tactic| walk_at "g1") => `(tactic| first | walk_at "g0" | with_reducible refine Go.g_sub ?_)
local macro_rules | `(tactic| walk_at "g") => `(tactic| repeat walk_at "g1")
local macro_rules | `(tactic| walk_at "v") => `(tactic| repeat walk_at "g0")
local macro_rules | `(tactic| walk_at "if") => `(tactic| first
  | with_reducible refine @Go.g_itd _ _ _ _ ?_ ?_
  | with_reducible refine @Go.g_itnd _ _ _ _ ?_ ?_
  | with_reducible refine Go.g_ite ?_ ?_)

section
variable {P : Program} {w : World} {K : PySem.W.Frag} {mg : Str → Option Value} {base : Heap}
theorem like_turn {c d : Nat} (h : ∀ g ∈ likeC, ¬ (c ∈ g ∧ d ∈ g)) : turnP c d = 2 := by
  unfold turnP
  rw [if_neg]
  intro e
  obtain ⟨g, hg, h2⟩ := List.any_eq_true.mp e
  rw [Bool.and_eq_true, decide_eq_true_eq, decide_eq_true_eq] at h2
  exact h g hg h2
theorem like_turn1 {c d : Nat} {g : List Nat} (hg : g ∈ likeC) (h : c ∈ g) (h2 : d ∈ g) : turnP c d = 1 := by
  unfold turnP
  rw [if_pos]
  exact List.any_eq_true.mpr ⟨g, hg, by rw [Bool.and_eq_true, decide_eq_true_eq, decide_eq_true_eq]; exact ⟨h, h2⟩⟩
def sp_turn_cost (K : PySem.W.Frag) : Sp := fun vs H Q _ => ∃ c d : Nat, vs = [.str ⟨#[c]⟩, .str ⟨#[d]⟩] ∧ Q (.int (turnP c d)) H
theorem ok_turn_cost (T : Txt K mg) : FnOk P w K mg base CX0 1 T.a_turn_cost T.fd_turn_cost ["one", "other"] (sp_turn_cost K) := by
  refine T.F_turn_cost.ok sc_turn_cost (fun vs H Q E h => ?_) (fun cdv A outer s H vs Q E hr h => ?_)
  · obtain ⟨c, d, rfl, _⟩ := h; rfl
  · obtain ⟨c, d, rfl, q⟩ := h
    refine ⟨_, pss_cons (ps_for PassesOwn.never rfl (pi_tup (pe_glob (v := .ref T.a_LIKE) rfl T.m_LIKE rfl)) (pg_name (i := 2) sc_turn_cost.nd rfl (.inl rfl))
        (pss_one (ps_if (PW.pt (pw_and (pt_cmpR op_in_sign (pv 0) (pv 2) rfl) (pw_and1 (pt_cmpR op_in_sign (pv 1) (pv 2) rfl))))
          (pss_one (ps_ret pe_int))
          (pss_nil))))
      (pss_one (ps_ret pe_int)), ?_⟩
    walk_at "g"
    refine ⟨_, rfl, ⟨_, T.t_LIKE H⟩, forW_tup (likeS.map V.str) (fun i σ' H' => H = H' ∧ (∃ y, σ' = [some (.str ⟨#[c]⟩), some (.str ⟨#[d]⟩), y]) ∧ ∀ g ∈ likeC.take i, ¬ (c ∈ g ∧ d ∈ g)) ⟨rfl, ⟨_, rfl⟩, fun g hg => nomatch hg⟩ (fun i σ' H' _ _ => T.t_LIKE H') ?_ ?_⟩
    · rintro i x σ' H' hx ⟨rfl, ⟨y, rfl⟩, hg⟩
      rw [like_eq, List.map_map, List.getElem?_map] at hx
      obtain ⟨g, hgi, rfl⟩ := Option.map_eq_some_iff.mp hx
      have hm : g ∈ likeC := List.mem_of_getElem? hgi
      show gName _ (.str (mkS g)) _ _ _
      have hnx : ¬ (c ∈ g ∧ d ∈ g) → ∀ g' ∈ likeC.take (i + 1), ¬ (c ∈ g' ∧ d ∈ g') := fun hn g' hg' => by
        rw [List.take_add_one, hgi] at hg'
        rcases List.mem_append.mp hg' with z | z
        · exact hg g' z
        · rw [show g' = g by simpa using z]; exact hn
      walk_at "g"
      walk_at "if" <;> intro e1 <;> rw [mkS_list] at e1
      · walk_at "g"
        walk_at "if" <;> intro e2 <;> rw [mkS_list] at e2
        · walk_at "g"
          have := like_turn1 hm e1 e2
          rw [this] at q
          exact q
        · walk_at "g"
          exact ⟨rfl, ⟨_, rfl⟩, hnx fun z => e2 z.2⟩
      · rw [if_neg Bool.false_ne_true]
        walk_at "g"
        exact ⟨rfl, ⟨_, rfl⟩, hnx fun z => e1 z.1⟩
    · rintro σ' H' ⟨rfl, ⟨y, rfl⟩, hg⟩
      walk_at "g"
      rw [like_turn (fun g hm => hg g (by rw [List.take_of_length_le (by decide)]; exact hm))] at q
      exact q
def sp__law_turn (K : PySem.W.Frag) : Sp := fun vs H Q _ => ∃ c d : Nat, vs = [.str ⟨#[c]⟩, .str ⟨#[d]⟩] ∧ Let c ∧ Let d ∧ Q (.int (turnL c d)) H
theorem sign_at {c : Nat} (h : Let c) : atI (mkS signsC).cps.toList ((c : Int) - 97) = some (signsC.getD (c - 97) 0) := by
  obtain ⟨h1, h2⟩ := h
  have e : (c : Int) - 97 = ((c - 97 : Nat) : Int) := by omega
  rw [mkS_list, e]
  refine atI_nat ?_
  rw [List.getD_eq_getElem?_getD, List.getElem?_eq_getElem (by show c - 97 < 26; omega)]
  rfl
theorem one_inj {a b : Nat} : (V.str ⟨#[a]⟩ = V.str ⟨#[b]⟩) ↔ a = b := by simp
theorem turn_signs {c d : Nat} (h : Let c) (h2 : Let d) : turnL c d = if c = d then 0 else if signsC.getD (c - 97) 0 = signsC.getD (d - 97) 0 then 1 else 2 := by
  have := signs_all ⟨c - 97, by have := h.1; have := h.2; omega⟩ ⟨d - 97, by have := h2.1; have := h2.2; omega⟩
  have e1 : 97 + (c - 97) = c := by have := h.1; omega
  have e2 : 97 + (d - 97) = d := by have := h2.1; omega
  simp only [e1, e2] at this
  rw [this]
  have k1 : c - 97 < signsC.length := by have := h.2; show c - 97 < 26; omega
  have k2 : d - 97 < signsC.length := by have := h2.2; show d - 97 < 26; omega
  by_cases e : c = d
  · subst e; simp
  · rw [if_neg (fun z => e (by have := congrArg Fin.val z; simp only at this; omega)), if_neg e, List.getD_eq_getElem?_getD, List.getD_eq_getElem?_getD, List.getElem?_eq_getElem k1, List.getElem?_eq_getElem k2]
    simp
theorem ok__law_turn (T : Txt K mg) : FnOk P w K mg base CX0 1 T.a__law_turn T.fd__law_turn ["one", "other"] (sp__law_turn K) := by
  refine T.F__law_turn.ok sc__law_turn (fun vs H Q E h => ?_) (fun cdv A outer s H vs Q E hr h => ?_)
  · obtain ⟨c, d, rfl, _⟩ := h; rfl
  · obtain ⟨c, d, rfl, hc, hd, q⟩ := h
    refine ⟨_, pss_cons (ps_if (pt_cmpR op_eq (pv 0) (pv 1) (nomark _))
        (pss_one (ps_ret pe_int))
        (pss_nil))
      (pss_cons (ps_set (i := 2) sc__law_turn.nd rfl (.inl rfl) pe_str)
      (pss_cons (ps_if (pt_cmpR op_eq (pe_ix ix_str (pv 2) (pe_op op_sub (pe_callB call_ord (by rfl) T.n_ord (by decide +kernel) (pa_cons (pv 0) pa_nil)) pe_int) (fun _ _ => rfl)) (pe_ix ix_str (pv 2) (pe_op op_sub (pe_callB call_ord (by rfl) T.n_ord (by decide +kernel) (pa_cons (pv 1) pa_nil)) pe_int) (fun _ _ => rfl)) (nomark _))
        (pss_one (ps_ret pe_int))
        (pss_nil))
      (pss_one (ps_ret pe_int)))), ?_⟩
    rw [turn_signs hc hd] at q
    walk_at "g"
    walk_at "if" <;> intro e <;> rw [one_inj] at e
    · walk_at "g"
      rw [if_pos e] at q
      exact q
    · rw [if_neg e] at q
      walk_at "g"
      refine ⟨mkS signsC, _, _, by rw [signs_eq], rfl, by rw [mkS_len]; exact sz (by decide), sign_at hc, ?_⟩
      walk_at "g"
      refine ⟨mkS signsC, _, _, by rw [signs_eq], rfl, by rw [mkS_len]; exact sz (by decide), sign_at hd, ?_⟩
      walk_at "g"
      walk_at "if" <;> intro e2 <;> rw [one_inj] at e2
      · rw [if_pos (show signsC.getD (c - 97) 0 = signsC.getD (d - 97) 0 from e2)] at q
        walk_at "g"
        exact q
      · rw [if_neg (show ¬ signsC.getD (c - 97) 0 = signsC.getD (d - 97) 0 from e2)] at q
        walk_at "g"
        exact q
def sp__law_pick (K : PySem.W.Frag) : Sp := fun vs H Q _ => ∃ (st sc l : Addr) (ns : List Int) (w : List Nat), vs = [.ref st, .ref sc, .ref l] ∧ St K H st sc ns ∧ l ≠ st ∧ H l = some (.lst (w.map fun c => .str ⟨#[c]⟩)) ∧
  1 ≤ w.length ∧ w.length ≤ 1000 ∧ ∀ H' c, Kp st H H' → St K H' st sc ns → c ∈ w → Q (.str ⟨#[c]⟩) H'
theorem ok__law_pick (T : Txt K mg) : FnOk P w K mg base CX0 2 T.a__law_pick T.fd__law_pick ["state", "script", "items"] (sp__law_pick K) := by
  refine T.F__law_pick.ok sc__law_pick (fun vs H Q E h => ?_) (fun cdv A outer s H vs Q E hr h => ?_)
  · obtain ⟨st, sc, l, ns, w, rfl, _⟩ := h; rfl
  · obtain ⟨st, sc, l, ns, w, rfl, hS, hl, hL, h1, h2, q⟩ := h
    refine ⟨_, pss_one (ps_ret (pe_ix ix_list (pv 2) (pe_call (ok__law_draw T) hr (by rfl) T.g__law_draw T.F__law_draw.kp T.b__law_draw .nil pass0 (pa_cons (pv 0) (pa_cons (pv 1) (pa_cons (pe_callB call_len_seq (by rfl) T.n_len PySem.boot_len (pa_cons (pv 2) pa_nil)) pa_nil)))) (fun _ _ => rfl))), ?_⟩
    walk_at "g"
    refine ⟨st, sc, ns, _, rfl, hS, ?_, ?_, fun H1 d k1 S1 d0 d1 => ?_⟩
    · rw [List.length_map]; omega
    · rw [List.length_map]; omega
    · rw [List.length_map] at d1
      refine g_ixL (by walk_at "sq") (atI_map d0 d1) ?_
      exact q _ _ k1 S1 (List.getElem_mem _)

end
end K61

namespace K61
open PySem PySem.Spec PyProof.Rows L2 Go
set_option maxHeartbeats 8000000
local macro_rules | `(tactic| walk_at "ne") => `(tactic| first
  | assumption
  | (refine Ne.symm ?_; assumption)
  | exact (Go.free_upd (by assumption)).2
  | exact (Go.free_upd (by assumption)).2.symm
  | exact Go.ne_fr (by assumption) (by walk_at "hp")
  | exact (Go.ne_fr (by assumption) (by walk_at "hp")).symm)
local macro_rules | `(tactic| walk_at "fr") => `(tactic| first
  | assumption
  | exact (Go.free_upd (by assumption)).1
  | exact (Go.free_upd (Go.free_upd (by assumption)).1).1
  | exact Same.free (by assumption) (by walk_at "fr"))
local macro_rules | `(tactic| walk_at "hp") => `(tactic| first
  | assumption
  | with_reducible exact upd_same
  | ((with_reducible show upd _ _ _ _ = _); exact Go.at_upd (by walk_at "ne") (by walk_at "hp"))
  | exact (by assumption : Same _ _) _ _ (by walk_at "hp")
  | exact (by assumption : Go.Kp _ _ _) _ _ (by walk_at "ne") (by walk_at "hp"))
local macro_rules | `(tactic| walk_at "sq") => `(tactic| first
  | assumption
  | ((with_reducible show SqL _ (upd _ _ _) _ _); exact (by assumption : ∀ o, SqL _ (upd _ _ o) _ _) _)
  | ((with_reducible show SqL _ _ _ _); exact SqL.of (by walk_at "hp"))
  | ((with_reducible show SqT _ _ _ _); exact SqT.of (by walk_at "hp"))
  | ((with_reducible show SqL _ (upd _ _ _) _ _); exact Go.sqL_new (by walk_at "fr") (by walk_at "sq"))
  | ((with_reducible show SqT _ (upd _ _ _) _ _); exact Go.sqT_new (by walk_at "fr") (by walk_at "sq"))
  | ((with_reducible show SqL _ (upd _ _ _) _ _); exact Go.sqL_ne (by walk_at "ne") (by walk_at "sq"))
  | exact Go.sqL_same (by assumption) (by walk_at "sq")
  | exact Go.sqT_same (by assumption) (by walk_at "sq")
  | exact Go.sqL_kp (by assumption) (by walk_at "ne") (by walk_at "sq")
  | exact Go.sqT_kp (by assumption) (by walk_at "ne") (by walk_at "sq"))
local macro_rules | `(tactic| walk_at "ci") => `(tactic| first
  | exact .inr ⟨by decide, by decide⟩
  | exact .inl ⟨by decide, by decide⟩
  | exact ⟨by decide, by decide, by decide⟩
  | decide
  | omega
  | exact ⟨by omega, by omega⟩
  | exact .inl ⟨by omega, by omega⟩
  | exact .inr ⟨by omega, by omega⟩)
local macro_rules | `(tactic| walk_at "g0") => `(tactic| first
  | with_reducible refine Go.g_seq ?_
  | ((with_reducible show tVar _ _ _ _); refine ⟨_, rfl, ?_⟩)
  | with_reducible refine Go.g_c ?_
  | with_reducible refine Go.g_op ?_
  | with_reducible refine Go.g_asg ?_
  | with_reducible refine Go.g_name ?_
  | with_reducible refine Go.g_cons ?_
  | with_reducible refine Go.g_lst ?_
  | with_reducible refine Go.g_tup ?_
  | with_reducible refine Go.g_for ?_
  | with_reducible refine Go.g_rng1 ?_
  | with_reducible refine Go.g_rng2 ?_
  | with_reducible refine Go.g_rng3 ?_
  | with_reducible refine Go.g_list ?_
  | with_reducible refine Go.g_itup ?_
  | with_reducible refine Go.g_lc ?_
  | with_reducible refine Go.g_nil ?_
  | with_reducible refine Go.g_cb ?_
  | with_reducible refine Go.g_call ?_
  | with_reducible refine Go.g_ret ?_
  | with_reducible refine Go.g_next ?_
  | with_reducible refine Go.g_drop ?_
  | with_reducible refine Go.g_un ?_
  | with_reducible refine Go.g_test ?_
  | with_reducible refine Go.g_tB ?_
  | with_reducible refine Go.g_ifs ?_
  | with_reducible refine Go.g_if ?_
  | with_reducible refine Go.g_and ?_
  | with_reducible refine Go.g_or ?_
  | with_reducible refine Go.g_not ?_
  | with_reducible refine Go.g_sl ?_
  | with_reducible refine Go.g_nopart ?_
  | with_reducible refine Go.g_part ?_
  | ((with_reducible show ∃ k, V.bl _ = V.bl k ∧ _); refine ⟨_, rfl, ?_⟩)
  | ((with_reducible show ∃ k, V.int _ = V.int k ∧ _); refine ⟨_, rfl, ?_⟩)
  | with_reducible refine Go.g_bm ?_
  | with_reducible refine Go.g_yes ?_
  | ((with_reducible show rI0 _ _ _ _ _); refine ⟨_, _, rfl, rfl, ?_⟩)
  | ((with_reducible show rI _ _ _ _ _ _); refine ⟨_, _, rfl, rfl, ?_, ?_⟩; (focus walk_at "ci"))
  | ((with_reducible show rU _ _ _ _); refine ⟨_, rfl, ?_⟩)
  | ((with_reducible show rEq _ _ _ _); refine ⟨rfl, ?_⟩)
  | ((with_reducible show rNe _ _ _ _); refine ⟨rfl, ?_⟩)
  | ((with_reducible show rIxL _ _ _ _ _); refine Go.g_ixL (by walk_at "sq") (by rfl) ?_)
  | ((with_reducible show rIxT _ _ _ _ _); refine Go.g_ixT (by walk_at "sq") (by rfl) ?_)
  | ((with_reducible show rSetL _ _ _ _ _); refine Go.g_setL (by walk_at "hp") (by rfl) ?_)
  | ((with_reducible show ∃ p ys, [V.ref _] = [V.ref p] ∧ (SqL _ _ _ _ ∨ SqT _ _ _ _) ∧ _); refine ⟨_, _, rfl, .inl (by walk_at "sq"), ?_⟩)
  | ((with_reducible show (∃ i, [V.int _] = [V.int i] ∧ _) ∨ _); refine .inl ⟨_, rfl, ?_⟩)
  | ((with_reducible show ∃ (c : Nat) (z : Str), V.str _ = V.str ⟨#[c]⟩ ∧ V.str _ = V.str z ∧ _); refine ⟨_, _, rfl, rfl, ?_⟩)
  | ((with_reducible show ∃ x : Str, [V.str _] = [V.str x] ∧ Str.length x = 1 ∧ _); refine ⟨_, rfl, rfl, ?_⟩)
  | ((with_reducible show ∃ z : Str, [V.str _] = [V.str z] ∧ Str.length z ≤ sizeLine ∧ _); refine ⟨_, rfl, by assumption, ?_⟩)
  | ((with_reducible show rSlS _ _ _ _ _); refine ⟨_, rfl, by assumption, ?_⟩)
  | ((with_reducible show wipe _ _ = wipe _ _ ∧ _); refine ⟨rfl, ?_⟩)
  | ((with_reducible show if true = true then _ else _); refine iteT ?_)
  | ((with_reducible show if false = true then _ else _); refine iteF ?_)
  | ((with_reducible show ∃ a, V.ref _ = V.ref a ∧ (∃ xs, SqL _ _ a xs) ∧ _); refine ⟨_, rfl, ⟨_, by walk_at "sq"⟩, ?_⟩)
  | ((with_reducible show ∃ a, V.ref _ = V.ref a ∧ (∃ xs, SqT _ _ a xs) ∧ _); refine ⟨_, rfl, ⟨_, by walk_at "sq"⟩, ?_⟩)
  | ((with_reducible show ∃ j : Int, [V.int _] = [V.int j] ∧ _ ≤ j ∧ j < _ ∧ _); refine ⟨_, rfl, by omega, by omega, ?_⟩)
  | ((with_reducible show ∃ i j : Int, [V.int _, V.int _] = [V.int i, V.int j] ∧ (_ ≤ i ∧ i < _ ∧ _ ≤ j ∧ j < _) ∧ _); refine ⟨_, _, rfl, ⟨by omega, by omega, by omega, by omega⟩, ?_⟩)
  | ((with_reducible show ∃ i j : Int, [V.int _, V.int _] = [V.int i, V.int j] ∧ _); refine ⟨_, _, rfl, ?_⟩)
  | ((with_reducible show _ ≤ sizeLine ∧ _); refine ⟨by first | decide | (simp only [List.length_cons, List.length_nil]; decide), ?_⟩))
local macro_rules | `(tactic| walk_at "g1") => `(tactic| first | walk_at "g0" | with_reducible refine Go.g_sub ?_)
local macro_rules | `(tactic| walk_at "g") => `(tactic| repeat walk_at "g1")
local macro_rules | `(tactic| walk_at "v") => `(tactic| repeat walk_at "g0")
local macro_rules | `(tactic| walk_at "if") => `(tactic| first
  | with_reducible refine @Go.g_itd _ _ _ _ ?_ ?_
  | with_reducible refine @Go.g_itnd _ _ _ _ ?_ ?_
  | with_reducible refine Go.g_ite ?_ ?_)

section
variable {P : Program} {w : World} {K : PySem.W.Frag} {mg : Str → Option Value} {base : Heap}
theorem alpha_let {d : Int} (h0 : 0 ≤ d) (h1 : d < 26) : Let (97 + d.toNat) := ⟨by omega, by omega⟩
def sp__law_word (K : PySem.W.Frag) : Sp := fun vs H Q _ => ∃ (st sc : Addr) (ns : List Int), vs = [.ref st, .ref sc] ∧ St K H st sc ns ∧
  ∀ H' w, Kp st H H' → St K H' st sc ns → Wd w → Q (.str (mkS w)) H'
theorem ok__law_word (T : Txt K mg) : FnOk P w K mg base CX0 2 T.a__law_word T.fd__law_word ["state", "script"] (sp__law_word K) := by
  refine T.F__law_word.ok sc__law_word (fun vs H Q E h => ?_) (fun cdv A outer s H vs Q E hr h => ?_)
  · obtain ⟨st, sc, ns, rfl, _⟩ := h; rfl
  · obtain ⟨st, sc, ns, rfl, hS, q⟩ := h
    refine ⟨_, pss_cons (ps_set (i := 2) sc__law_word.nd rfl (.inl rfl) pe_str)
      (pss_cons (ps_for PassesOwn.never rfl (pi_range1 (by rfl) T.n_range (pa_cons (pe_ix ix_list (pe_lst (pa_cons (pe_op op_add pe_int (pe_call (ok__law_draw T) hr (by rfl) T.g__law_draw T.F__law_draw.kp T.b__law_draw .nil pass0 (pa_cons (pv 0) (pa_cons (pv 1) (pa_cons pe_int pa_nil))))) (pa_cons (pe_op op_add pe_int (pe_call (ok__law_draw T) hr (by rfl) T.g__law_draw T.F__law_draw.kp T.b__law_draw .nil pass0 (pa_cons (pv 0) (pa_cons (pv 1) (pa_cons pe_int pa_nil))))) (pa_cons pe_int pa_nil)))) (pe_call (ok__law_draw T) hr (by rfl) T.g__law_draw T.F__law_draw.kp T.b__law_draw .nil pass0 (pa_cons (pv 0) (pa_cons (pv 1) (pa_cons pe_int pa_nil)))) (fun _ _ => rfl)) pa_nil)) (pg_name (i := 3) sc__law_word.nd rfl (.inl rfl))
        (pss_one (ps_set (i := 2) sc__law_word.nd rfl (.inl rfl) (pe_op op_add_str (pv 2) (pe_ix ix_str pe_str (pe_call (ok__law_draw T) hr (by rfl) T.g__law_draw T.F__law_draw.kp T.b__law_draw .nil pass0 (pa_cons (pv 0) (pa_cons (pv 1) (pa_cons pe_int pa_nil)))) (fun _ _ => rfl))))))
      (pss_one (ps_ret (pv 2)))), ?_⟩
    walk_at "g"
    refine ⟨st, sc, ns, _, rfl, hS, by decide, by decide, fun H1 d1 k1 S1 d10 d11 => ?_⟩
    walk_at "g"
    refine ⟨st, sc, ns, _, rfl, S1, by decide, by decide, fun H2 d2 k2 S2 d20 d21 => ?_⟩
    walk_at "g"
    intro l hl
    walk_at "g"
    have S3 : St K (upd H2 l (.lst [.int (1 + d1), .int (1 + d2), .int 12])) st sc ns := St.new S2 hl
    refine ⟨st, sc, ns, _, rfl, S3, by decide, by decide, fun H3 d3 k3 S3 d30 d31 => ?_⟩
    have el : H3 l = some (.lst [.int (1 + d1), .int (1 + d2), .int 12]) := k3 _ _ (S2.ne hl) upd_same
    have k4 : Kp st H H3 := (((k1.trans k2).new hl).trans k3)
    clear k1 k2 k3 S1 S2 hS hl
    have hn : ∃ n : Int, 1 ≤ n ∧ n ≤ 12 ∧ atI [V.int (1 + d1), .int (1 + d2), .int 12] d3 = some (.int n) := by
      have : d3 = 0 ∨ d3 = 1 ∨ d3 = 2 := by omega
      rcases this with rfl | rfl | rfl
      · exact ⟨_, by omega, by omega, rfl⟩
      · exact ⟨_, by omega, by omega, rfl⟩
      · exact ⟨12, by omega, by omega, rfl⟩
    obtain ⟨n, n1, n2, en⟩ := hn
    refine g_ixL (by walk_at "sq") en ?_
    walk_at "g"
    refine forW_range (fun i σ' H' => ∃ (w : List Nat) (y : Option V), σ' = [some (.ref st), some (.ref sc), some (.str (mkS w)), y] ∧ w.length = i ∧ (∀ c ∈ w, Let c) ∧ Kp st H H' ∧ St K H' st sc ns)
      ⟨[], none, rfl, rfl, fun c hc => (nomatch hc), k4, S3⟩ ?_ ?_
    · rintro i σ' H' hi ⟨w, y, rfl, ew, hw, kk, SS⟩
      walk_at "g"
      refine ⟨st, sc, ns, _, rfl, SS, by decide, by decide, fun H5 d5 k5 S5 d50 d51 => ?_⟩
      refine ⟨mkS alphaC, _, _, by rw [alpha_eq], rfl, by rw [mkS_len]; exact sz (by decide), by rw [mkS_list]; exact alpha_at d50 d51, ?_⟩
      refine ⟨_, mkS [97 + d5.toNat], rfl, rfl, ?_, ?_⟩
      · rw [mkS_len, mkS_len]; exact sz (by simp only [List.length_cons, List.length_nil]; omega)
      · rw [mkS_app]
        walk_at "g"
        refine ⟨w ++ [97 + d5.toNat], _, rfl, by simp [ew], fun c hc => ?_, kk.trans k5, S5⟩
        rcases List.mem_append.mp hc with z | z
        · exact hw c z
        · rw [show c = 97 + d5.toNat by simpa using z]; exact alpha_let d50 d51
    · rintro σ' H' ⟨w, y, rfl, ew, hw, kk, SS⟩
      walk_at "g"
      exact q _ _ kk SS ⟨by omega, by omega, hw⟩

end
end K61

namespace K61
open PySem PySem.Spec PyProof.Rows L2 Go
set_option maxHeartbeats 8000000
local macro_rules | `(tactic| walk_at "ne") => `(tactic| first
  | assumption
  | (refine Ne.symm ?_; assumption)
  | exact (Go.free_upd (by assumption)).2
  | exact (Go.free_upd (by assumption)).2.symm
  | exact Go.ne_fr (by assumption) (by walk_at "hp")
  | exact (Go.ne_fr (by assumption) (by walk_at "hp")).symm)
local macro_rules | `(tactic| walk_at "fr") => `(tactic| first
  | assumption
  | exact (Go.free_upd (by assumption)).1
  | exact (Go.free_upd (Go.free_upd (by assumption)).1).1
  | exact Same.free (by assumption) (by walk_at "fr"))
local macro_rules | `(tactic| walk_at "hp") => `(tactic| first
  | assumption
  | with_reducible exact upd_same
  | ((with_reducible show upd _ _ _ _ = _); exact Go.at_upd (by walk_at "ne") (by walk_at "hp"))
  | exact (by assumption : Same _ _) _ _ (by walk_at "hp")
  | exact (by assumption : Go.Kp _ _ _) _ _ (by walk_at "ne") (by walk_at "hp"))
local macro_rules | `(tactic| walk_at "sq") => `(tactic| first
  | assumption
  | ((with_reducible show SqL _ (upd _ _ _) _ _); exact (by assumption : ∀ o, SqL _ (upd _ _ o) _ _) _)
  | ((with_reducible show SqL _ _ _ _); exact SqL.of (by walk_at "hp"))
  | ((with_reducible show SqT _ _ _ _); exact SqT.of (by walk_at "hp"))
  | ((with_reducible show SqL _ (upd _ _ _) _ _); exact Go.sqL_new (by walk_at "fr") (by walk_at "sq"))
  | ((with_reducible show SqT _ (upd _ _ _) _ _); exact Go.sqT_new (by walk_at "fr") (by walk_at "sq"))
  | ((with_reducible show SqL _ (upd _ _ _) _ _); exact Go.sqL_ne (by walk_at "ne") (by walk_at "sq"))
  | exact Go.sqL_same (by assumption) (by walk_at "sq")
  | exact Go.sqT_same (by assumption) (by walk_at "sq")
  | exact Go.sqL_kp (by assumption) (by walk_at "ne") (by walk_at "sq")
  | exact Go.sqT_kp (by assumption) (by walk_at "ne") (by walk_at "sq"))
local macro_rules | `(tactic| walk_at "ci") => `(tactic| first
  | exact .inr ⟨by decide, by decide⟩
  | exact .inl ⟨by decide, by decide⟩
  | exact ⟨by decide, by decide, by decide⟩
  | decide
  | omega
  | exact ⟨by omega, by omega⟩
  | exact .inl ⟨by omega, by omega⟩
  | exact .inr ⟨by omega, by omega⟩)
local macro_rules | `(tactic| walk_at "g0") => `(tactic| first
  | with_reducible refine Go.g_seq ?_
  | ((with_reducible show tVar _ _ _ _); refine ⟨_, rfl, ?_⟩)
  | with_reducible refine Go.g_c ?_
  | with_reducible refine Go.g_op ?_
  | with_reducible refine Go.g_asg ?_
  | with_reducible refine Go.g_name ?_
  | with_reducible refine Go.g_cons ?_
  | with_reducible refine Go.g_lst ?_
  | with_reducible refine Go.g_tup ?_
  | with_reducible refine Go.g_for ?_
  | with_reducible refine Go.g_rng1 ?_
  | with_reducible refine Go.g_rng2 ?_
  | with_reducible refine Go.g_rng3 ?_
  | with_reducible refine Go.g_list ?_
  | with_reducible refine Go.g_itup ?_
  | with_reducible refine Go.g_lc ?_
  | with_reducible refine Go.g_nil ?_
  | with_reducible refine Go.g_cb ?_
  | with_reducible refine Go.g_call ?_
  | with_reducible refine Go.g_ret ?_
  | with_reducible refine Go.g_next ?_
  | with_reducible refine Go.g_drop ?_
  | with_reducible refine Go.g_un ?_
  | with_reducible refine Go.g_test ?_
  | with_reducible refine Go.g_tB ?_
  | with_reducible refine Go.g_ifs ?_
  | with_reducible refine Go.g_if ?_
  | with_reducible refine Go.g_and ?_
  | with_reducible refine Go.g_or ?_
  | with_reducible refine Go.g_not ?_
  | with_reducible refine Go.g_sl ?_
  | with_reducible refine Go.g_nopart ?_
  | with_reducible refine Go.g_part ?_
  | ((with_reducible show ∃ k, V.bl _ = V.bl k ∧ _); refine ⟨_, rfl, ?_⟩)
  | ((with_reducible show ∃ k, V.int _ = V.int k ∧ _); refine ⟨_, rfl, ?_⟩)
  | with_reducible refine Go.g_bm ?_
  | with_reducible refine Go.g_yes ?_
  | ((with_reducible show rI0 _ _ _ _ _); refine ⟨_, _, rfl, rfl, ?_⟩)
  | ((with_reducible show rI _ _ _ _ _ _); refine ⟨_, _, rfl, rfl, ?_, ?_⟩; (focus walk_at "ci"))
  | ((with_reducible show rU _ _ _ _); refine ⟨_, rfl, ?_⟩)
  | ((with_reducible show rEq _ _ _ _); refine ⟨rfl, ?_⟩)
  | ((with_reducible show rNe _ _ _ _); refine ⟨rfl, ?_⟩)
  | ((with_reducible show rIxL _ _ _ _ _); refine Go.g_ixL (by walk_at "sq") (by rfl) ?_)
  | ((with_reducible show rIxT _ _ _ _ _); refine Go.g_ixT (by walk_at "sq") (by rfl) ?_)
  | ((with_reducible show rSetL _ _ _ _ _); refine Go.g_setL (by walk_at "hp") (by rfl) ?_)
  | ((with_reducible show ∃ p ys, [V.ref _] = [V.ref p] ∧ (SqL _ _ _ _ ∨ SqT _ _ _ _) ∧ _); refine ⟨_, _, rfl, .inl (by walk_at "sq"), ?_⟩)
  | ((with_reducible show (∃ i, [V.int _] = [V.int i] ∧ _) ∨ _); refine .inl ⟨_, rfl, ?_⟩)
  | ((with_reducible show ∃ (c : Nat) (z : Str), V.str _ = V.str ⟨#[c]⟩ ∧ V.str _ = V.str z ∧ _); refine ⟨_, _, rfl, rfl, ?_⟩)
  | ((with_reducible show ∃ x : Str, [V.str _] = [V.str x] ∧ Str.length x = 1 ∧ _); refine ⟨_, rfl, rfl, ?_⟩)
  | ((with_reducible show ∃ z : Str, [V.str _] = [V.str z] ∧ Str.length z ≤ sizeLine ∧ _); refine ⟨_, rfl, by assumption, ?_⟩)
  | ((with_reducible show rSlS _ _ _ _ _); refine ⟨_, rfl, by assumption, ?_⟩)
  | ((with_reducible show wipe _ _ = wipe _ _ ∧ _); refine ⟨rfl, ?_⟩)
  | ((with_reducible show if true = true then _ else _); refine iteT ?_)
  | ((with_reducible show if false = true then _ else _); refine iteF ?_)
  | ((with_reducible show ∃ a, V.ref _ = V.ref a ∧ (∃ xs, SqL _ _ a xs) ∧ _); refine ⟨_, rfl, ⟨_, by walk_at "sq"⟩, ?_⟩)
  | ((with_reducible show ∃ a, V.ref _ = V.ref a ∧ (∃ xs, SqT _ _ a xs) ∧ _); refine ⟨_, rfl, ⟨_, by walk_at "sq"⟩, ?_⟩)
  | ((with_reducible show ∃ j : Int, [V.int _] = [V.int j] ∧ _ ≤ j ∧ j < _ ∧ _); refine ⟨_, rfl, by omega, by omega, ?_⟩)
  | ((with_reducible show ∃ i j : Int, [V.int _, V.int _] = [V.int i, V.int j] ∧ (_ ≤ i ∧ i < _ ∧ _ ≤ j ∧ j < _) ∧ _); refine ⟨_, _, rfl, ⟨by omega, by omega, by omega, by omega⟩, ?_⟩)
  | ((with_reducible show ∃ i j : Int, [V.int _, V.int _] = [V.int i, V.int j] ∧ _); refine ⟨_, _, rfl, ?_⟩)
  | ((with_reducible show _ ≤ sizeLine ∧ _); refine ⟨by first | decide | (simp only [List.length_cons, List.length_nil]; decide), ?_⟩))
local macro_rules | `(tactic| walk_at "g1") => `(tactic| first | walk_at "g0" | with_reducible refine Go.g_sub ?_)
local macro_rules | `(tactic| walk_at "g") => `(tactic| repeat walk_at "g1")
local macro_rules | `(tactic| walk_at "v") => `(tactic| repeat walk_at "g0")
local macro_rules | `(tactic| walk_at "if") => `(tactic| first
  | with_reducible refine @Go.g_itd _ _ _ _ ?_ ?_
  | with_reducible refine @Go.g_itnd _ _ _ _ ?_ ?_
  | with_reducible refine Go.g_ite ?_ ?_)

section
variable {P : Program} {w : World} {K : PySem.W.Frag} {mg : Str → Option Value} {base : Heap}
theorem min3_int (a b c : Int) : nuMin3 (.int a) (.int b) (.int c) = some (.int (m3 a b c)) := by
  unfold nuMin3 nuMin2 nuLt nuCB m3
  simp only [Option.map_some, Option.bind_some, decide_eq_true_eq]
  by_cases h1 : b < a
  · simp only [h1, if_true, decide_true, Option.map_some, decide_eq_true_eq]
    by_cases h2 : c < b
    · rw [if_pos h2]; congr 2; omega
    · rw [if_neg h2]; congr 2; omega
  · simp only [h1, decide_false, Option.map_some, if_false, decide_eq_true_eq, Bool.false_eq_true]
    by_cases h2 : c < a
    · rw [if_pos h2]; congr 2; omega
    · rw [if_neg h2]; congr 2; omega
/-- a row of ints by places -/
def rowV (n : Nat) (f : Nat → Int) : List V := (List.range n).map fun j => V.int (f j)
theorem rowV_len (n : Nat) (f : Nat → Int) : (rowV n f).length = n := by unfold rowV; rw [List.length_map, List.length_range]
theorem rowV_at {n : Nat} {f : Nat → Int} {i : Int} {k : Nat} (e : i = (k : Int)) (h : k < n) : atI (rowV n f) i = some (.int (f k)) := by
  subst e
  refine atI_nat ?_
  unfold rowV
  rw [List.getElem?_map, List.getElem?_range h]; rfl
theorem rowV_succ (n : Nat) (f : Nat → Int) : rowV (n + 1) f = rowV n f ++ [.int (f n)] := by
  unfold rowV; rw [List.range_succ, List.map_append]; rfl
theorem rowV_congr {n : Nat} {f g : Nat → Int} (h : ∀ j, j < n → f j = g j) : rowV n f = rowV n g := by
  unfold rowV
  refine List.map_congr_left fun j hj => ?_
  rw [h j (List.mem_range.mp hj)]
theorem sign_of {w : List Nat} {i : Int} {k : Nat} (e : i = (k : Int)) (h : k < w.length) : atI (mkS w).cps.toList i = some w[k] := by
  subst e; rw [mkS_list]; exact atI_nat (List.getElem?_eq_getElem h)
def sp__law_distance (K : PySem.W.Frag) : Sp := fun vs H Q _ => ∃ a b : List Nat, vs = [.str (mkS a), .str (mkS b)] ∧ a.length ≤ 12 ∧ b.length ≤ 12 ∧ (∀ c ∈ a, Let c) ∧ (∀ c ∈ b, Let c) ∧
  ∀ H', Same H H' → Q (.int (dd a b)) H'
theorem ok__law_distance (T : Txt K mg) : FnOk P w K mg base CX0 2 T.a__law_distance T.fd__law_distance ["one", "other"] (sp__law_distance K) := by
  refine T.F__law_distance.ok sc__law_distance (fun vs H Q E h => ?_) (fun cdv A outer s H vs Q E hr h => ?_)
  · obtain ⟨a, b, rfl, _⟩ := h; rfl
  · obtain ⟨a, b, rfl, ha, hb, la, lb, q⟩ := h
    have za : (mkS a).length ≤ sizeLine := by rw [mkS_len]; exact sz (by omega)
    have zb : (mkS b).length ≤ sizeLine := by rw [mkS_len]; exact sz (by omega)
    have wa := mkS_len a
    have wb := mkS_len b
    refine ⟨_, pss_cons (ps_setLc (i := 2) (own := [("j", 3)]) (g := gName 3) (by rfl) sc__law_distance.nd rfl rfl (sw_true rfl rfl rfl (by decide +kernel)) (pi_range1 (by rfl) T.n_range (pa_cons (pe_op op_add (pe_callB call_len_str (by rfl) T.n_len PySem.boot_len (pa_cons (pv 1) pa_nil)) pe_int) pa_nil)) (blkOk_by (own := [("j", 3)]) (N := ["one", "other", "before", "j", "i", "row"]) (sc := defScope s__law_distance) (by decide +kernel)) (fun _ _ _ _ _ => pg_name (i := 3) sc__law_distance.nd rfl (Or.inl rfl)) (fun _ _ _ _ _ => pts_nil) (fun _ _ _ _ _ => (pe_op op_mul pe_int (pv 3))))
      (pss_cons (ps_for PassesOwn.never rfl (pi_range1 (by rfl) T.n_range (pa_cons (pe_callB call_len_str (by rfl) T.n_len PySem.boot_len (pa_cons (pv 0) pa_nil)) pa_nil)) (pg_name (i := 4) sc__law_distance.nd rfl (.inl rfl))
        (pss_cons (ps_set (i := 5) sc__law_distance.nd rfl (.inl rfl) (pe_lst (pa_cons (pe_op op_add (pe_ix ix_list (pv 2) pe_int (fun _ _ => rfl)) pe_int) pa_nil)))
        (pss_cons (ps_for PassesOwn.never rfl (pi_range1 (by rfl) T.n_range (pa_cons (pe_callB call_len_str (by rfl) T.n_len PySem.boot_len (pa_cons (pv 1) pa_nil)) pa_nil)) (pg_name (i := 3) sc__law_distance.nd rfl (.inl rfl))
          (pss_one (ps_expr (pe_bm PySem.F.plainAttrs_list PySem.F.slot_list_append PySem.F.type_list_append mt_append (pv 5) (pa_cons (pe_callB (call_min3Nu rfl) (by rfl) T.n_min (by decide +kernel) (pa_cons (pe_op op_add (pe_ix ix_list (pv 2) (pv 3) (fun _ _ => rfl)) (pe_call (ok__law_turn T) hr (by rfl) T.g__law_turn T.F__law_turn.kp T.b__law_turn .nil pass0 (pa_cons (pe_ix ix_str (pv 0) (pv 4) (fun _ _ => rfl)) (pa_cons (pe_ix ix_str (pv 1) (pv 3) (fun _ _ => rfl)) pa_nil)))) (pa_cons (pe_op op_add (pe_ix ix_list (pv 2) (pe_op op_add (pv 3) pe_int) (fun _ _ => rfl)) pe_int) (pa_cons (pe_op op_add (pe_ix ix_list (pv 5) (pv 3) (fun _ _ => rfl)) pe_int) pa_nil)))) pa_nil)))))
        (pss_one (ps_set (i := 2) sc__law_distance.nd rfl (.inl rfl) (pv 5))))))
      (pss_one (ps_ret (pe_ix ix_list (pv 2) (pe_un un_neg pe_int) (fun _ _ => rfl))))), ?_⟩
    walk_at "g"
    intro p np
    refine lcW_range (fun i H' => Same H H' ∧ H' p = some (.lst (rowV i fun j => 2 * (j : Int)))) ⟨Go.Same.new (Same.refl H) np, upd_same⟩ ?_ ?_
    · rintro i H1 hi ⟨s1, e1⟩
      walk_at "g"
      refine ⟨_, e1, by rw [rowV_len]; exact small1000 (by omega), Go.Same.mut s1 np, ?_⟩
      rw [rowV_succ, upd_same]
      simp
    · rintro H1 ⟨s1, e1⟩
      have e1 : H1 p = some (.lst (rowV (b.length + 1) (pre a b 0))) := by
        rw [e1, rowV_congr (g := pre a b 0) fun j hj => ?_]
        · congr 3
        · rw [pre_zero a b (by omega)]
      clear np
      walk_at "g"
      refine forW_range (fun i σ' H' => ∃ (p : Addr) (y3 y4 y5 : Option V), σ' = [some (.str (mkS a)), some (.str (mkS b)), some (.ref p), y3, y4, y5] ∧ Same H H' ∧ H' p = some (.lst (rowV (b.length + 1) (pre a b i))))
        ⟨p, _, _, _, rfl, s1, e1⟩ ?_ ?_
      · rintro i σ' H2 hi ⟨p, y3, y4, y5, rfl, s2, e2⟩
        have hi' : i < a.length := by omega
        walk_at "g"
        refine g_ixL (by walk_at "sq") (rowV_at (k := 0) rfl (by omega)) ?_
        walk_at "g"
        intro r nr
        have s3 : Same H (upd H2 r (.lst [.int (pre a b i 0 + 2)])) := Go.Same.new s2 nr
        have npr : p ≠ r := ne_of_none e2 nr
        have nr0 : H r = none := Same.free s2 nr
        walk_at "g"
        refine forW_range (fun j σ' H' => ∃ (y3 : Option V), σ' = [some (.str (mkS a)), some (.str (mkS b)), some (.ref p), y3, some (.int (0 + i)), some (.ref r)] ∧ Same H H' ∧ H' p = some (.lst (rowV (b.length + 1) (pre a b i))) ∧
            H' r = some (.lst (rowV (j + 1) (pre a b (i + 1)))))
          ⟨_, rfl, s3, at_upd npr e2, ?_⟩ ?_ ?_
        · rw [upd_same]
          show some (HO.lst [V.int (pre a b i 0 + 2)]) = some (HO.lst [V.int (pre a b (i + 1) 0)])
          rw [pre_zero' a b (by omega), pre_zero' a b (by omega)]
          congr 4
        · rintro j σ' H3 hj ⟨y3, rfl, s4, e4, f4⟩
          have hj' : j < b.length := by omega
          walk_at "g"
          refine ⟨.inl ⟨rfl, _, by walk_at "sq"⟩, ?_⟩
          walk_at "g"
          refine g_ixL (by walk_at "sq") (rowV_at (k := j) (by omega) (by omega)) ?_
          walk_at "g"
          refine ⟨_, _, _, rfl, rfl, za, sign_of (k := i) (by omega) hi', ?_⟩
          walk_at "g"
          refine ⟨_, _, _, rfl, rfl, zb, sign_of (k := j) (by omega) hj', ?_⟩
          walk_at "g"
          refine ⟨_, _, rfl, la _ (List.getElem_mem _), lb _ (List.getElem_mem _), ?_⟩
          walk_at "g"
          refine g_ixL (by walk_at "sq") (rowV_at (k := j + 1) (by omega) (by omega)) ?_
          walk_at "g"
          refine g_ixL (by walk_at "sq") (rowV_at (k := j) (by omega) (by omega)) ?_
          walk_at "g"
          refine ⟨_, _, _, _, rfl, min3_int _ _ _, ?_⟩
          walk_at "g"
          refine ⟨_, _, _, rfl, rfl, f4, by rw [rowV_len]; exact Nat.lt_of_le_of_lt (by omega : _ ≤ 100) (by decide), ?_⟩
          refine ⟨_, rfl, Go.Same.mut s4 nr0, at_upd npr e4, ?_⟩
          rw [upd_same, rowV_succ (j + 1), pre_step hi' hj']
        · rintro σ' H3 ⟨y3, rfl, s4, e4, f4⟩
          have ej : (((mkS b).length : Nat) : Int).toNat = b.length := by omega
          rw [ej] at f4
          walk_at "g"
          exact ⟨r, _, _, _, rfl, s4, f4⟩
      · rintro σ' H2 ⟨p, y3, y4, y5, rfl, s2, e2⟩
        have ei : (((mkS a).length : Nat) : Int).toNat = a.length := by omega
        rw [ei] at e2
        walk_at "g"
        refine g_ixL (by walk_at "sq") (?_ : _ = some (.int (pre a b a.length b.length))) ?_
        · rw [rowV_succ]; exact atI_last _ _
        · rw [pre_all]; exact q _ s2

end
end K61

namespace K61
open PySem PySem.Spec PyProof.Rows L2 Go
set_option maxHeartbeats 8000000
local macro_rules | `(tactic| walk_at "ne") => `(tactic| first
  | assumption
  | (refine Ne.symm ?_; assumption)
  | exact (Go.free_upd (by assumption)).2
  | exact (Go.free_upd (by assumption)).2.symm
  | exact Go.ne_fr (by assumption) (by walk_at "hp")
  | exact (Go.ne_fr (by assumption) (by walk_at "hp")).symm)
local macro_rules | `(tactic| walk_at "fr") => `(tactic| first
  | assumption
  | exact (Go.free_upd (by assumption)).1
  | exact (Go.free_upd (Go.free_upd (by assumption)).1).1
  | exact Same.free (by assumption) (by walk_at "fr"))
local macro_rules | `(tactic| walk_at "hp") => `(tactic| first
  | assumption
  | with_reducible exact upd_same
  | ((with_reducible show upd _ _ _ _ = _); exact Go.at_upd (by walk_at "ne") (by walk_at "hp"))
  | exact (by assumption : Same _ _) _ _ (by walk_at "hp")
  | exact (by assumption : Go.Kp _ _ _) _ _ (by walk_at "ne") (by walk_at "hp"))
local macro_rules | `(tactic| walk_at "sq") => `(tactic| first
  | assumption
  | ((with_reducible show SqL _ (upd _ _ _) _ _); exact (by assumption : ∀ o, SqL _ (upd _ _ o) _ _) _)
  | ((with_reducible show SqL _ _ _ _); exact SqL.of (by walk_at "hp"))
  | ((with_reducible show SqT _ _ _ _); exact SqT.of (by walk_at "hp"))
  | ((with_reducible show SqL _ (upd _ _ _) _ _); exact Go.sqL_new (by walk_at "fr") (by walk_at "sq"))
  | ((with_reducible show SqT _ (upd _ _ _) _ _); exact Go.sqT_new (by walk_at "fr") (by walk_at "sq"))
  | ((with_reducible show SqL _ (upd _ _ _) _ _); exact Go.sqL_ne (by walk_at "ne") (by walk_at "sq"))
  | exact Go.sqL_same (by assumption) (by walk_at "sq")
  | exact Go.sqT_same (by assumption) (by walk_at "sq")
  | exact Go.sqL_kp (by assumption) (by walk_at "ne") (by walk_at "sq")
  | exact Go.sqT_kp (by assumption) (by walk_at "ne") (by walk_at "sq"))
local macro_rules | `(tactic| walk_at "ci") => `(tactic| first
  | exact .inr ⟨by decide, by decide⟩
  | exact .inl ⟨by decide, by decide⟩
  | exact ⟨by decide, by decide, by decide⟩
  | decide
  | omega
  | exact ⟨by omega, by omega⟩
  | exact .inl ⟨by omega, by omega⟩
  | exact .inr ⟨by omega, by omega⟩)
local macro_rules | `(tactic| walk_at "g0") => `(tactic| first
  | with_reducible refine Go.g_seq ?_
  | ((with_reducible show tVar _ _ _ _); refine ⟨_, rfl, ?_⟩)
  | with_reducible refine Go.g_c ?_
  | with_reducible refine Go.g_op ?_
  | with_reducible refine Go.g_asg ?_
  | with_reducible refine Go.g_name ?_
  | with_reducible refine Go.g_cons ?_
  | with_reducible refine Go.g_lst ?_
  | with_reducible refine Go.g_tup ?_
  | with_reducible refine Go.g_for ?_
  | with_reducible refine Go.g_rng1 ?_
  | with_reducible refine Go.g_rng2 ?_
  | with_reducible refine Go.g_rng3 ?_
  | with_reducible refine Go.g_list ?_
  | with_reducible refine Go.g_itup ?_
  | with_reducible refine Go.g_lc ?_
  | with_reducible refine Go.g_nil ?_
  | with_reducible refine Go.g_cb ?_
  | with_reducible refine Go.g_call ?_
  | with_reducible refine Go.g_ret ?_
  | with_reducible refine Go.g_next ?_
  | with_reducible refine Go.g_drop ?_
  | with_reducible refine Go.g_un ?_
  | with_reducible refine Go.g_test ?_
  | with_reducible refine Go.g_tB ?_
  | with_reducible refine Go.g_ifs ?_
  | with_reducible refine Go.g_if ?_
  | with_reducible refine Go.g_and ?_
  | with_reducible refine Go.g_or ?_
  | with_reducible refine Go.g_not ?_
  | with_reducible refine Go.g_sl ?_
  | with_reducible refine Go.g_nopart ?_
  | with_reducible refine Go.g_part ?_
  | ((with_reducible show ∃ k, V.bl _ = V.bl k ∧ _); refine ⟨_, rfl, ?_⟩)
  | ((with_reducible show ∃ k, V.int _ = V.int k ∧ _); refine ⟨_, rfl, ?_⟩)
  | with_reducible refine Go.g_bm ?_
  | with_reducible refine Go.g_yes ?_
  | ((with_reducible show rI0 _ _ _ _ _); refine ⟨_, _, rfl, rfl, ?_⟩)
  | ((with_reducible show rI _ _ _ _ _ _); refine ⟨_, _, rfl, rfl, ?_, ?_⟩; (focus walk_at "ci"))
  | ((with_reducible show rU _ _ _ _); refine ⟨_, rfl, ?_⟩)
  | ((with_reducible show rEq _ _ _ _); refine ⟨rfl, ?_⟩)
  | ((with_reducible show rNe _ _ _ _); refine ⟨rfl, ?_⟩)
  | ((with_reducible show rIxL _ _ _ _ _); refine Go.g_ixL (by walk_at "sq") (by rfl) ?_)
  | ((with_reducible show rIxT _ _ _ _ _); refine Go.g_ixT (by walk_at "sq") (by rfl) ?_)
  | ((with_reducible show rSetL _ _ _ _ _); refine Go.g_setL (by walk_at "hp") (by rfl) ?_)
  | ((with_reducible show ∃ p ys, [V.ref _] = [V.ref p] ∧ (SqL _ _ _ _ ∨ SqT _ _ _ _) ∧ _); refine ⟨_, _, rfl, .inl (by walk_at "sq"), ?_⟩)
  | ((with_reducible show (∃ i, [V.int _] = [V.int i] ∧ _) ∨ _); refine .inl ⟨_, rfl, ?_⟩)
  | ((with_reducible show ∃ (c : Nat) (z : Str), V.str _ = V.str ⟨#[c]⟩ ∧ V.str _ = V.str z ∧ _); refine ⟨_, _, rfl, rfl, ?_⟩)
  | ((with_reducible show ∃ x : Str, [V.str _] = [V.str x] ∧ Str.length x = 1 ∧ _); refine ⟨_, rfl, rfl, ?_⟩)
  | ((with_reducible show ∃ z : Str, [V.str _] = [V.str z] ∧ Str.length z ≤ sizeLine ∧ _); refine ⟨_, rfl, by assumption, ?_⟩)
  | ((with_reducible show rSlS _ _ _ _ _); refine ⟨_, rfl, by assumption, ?_⟩)
  | ((with_reducible show wipe _ _ = wipe _ _ ∧ _); refine ⟨rfl, ?_⟩)
  | ((with_reducible show if true = true then _ else _); refine iteT ?_)
  | ((with_reducible show if false = true then _ else _); refine iteF ?_)
  | ((with_reducible show ∃ a, V.ref _ = V.ref a ∧ (∃ xs, SqL _ _ a xs) ∧ _); refine ⟨_, rfl, ⟨_, by walk_at "sq"⟩, ?_⟩)
  | ((with_reducible show ∃ a, V.ref _ = V.ref a ∧ (∃ xs, SqT _ _ a xs) ∧ _); refine ⟨_, rfl, ⟨_, by walk_at "sq"⟩, ?_⟩)
  | ((with_reducible show ∃ j : Int, [V.int _] = [V.int j] ∧ _ ≤ j ∧ j < _ ∧ _); refine ⟨_, rfl, by omega, by omega, ?_⟩)
  | ((with_reducible show ∃ i j : Int, [V.int _, V.int _] = [V.int i, V.int j] ∧ (_ ≤ i ∧ i < _ ∧ _ ≤ j ∧ j < _) ∧ _); refine ⟨_, _, rfl, ⟨by omega, by omega, by omega, by omega⟩, ?_⟩)
  | ((with_reducible show ∃ i j : Int, [V.int _, V.int _] = [V.int i, V.int j] ∧ _); refine ⟨_, _, rfl, ?_⟩)
  | ((with_reducible show _ ≤ sizeLine ∧ _); refine ⟨by first | decide | (simp only [List.length_cons, List.length_nil]; decide), ?_⟩))
local macro_rules | `(tactic| walk_at "g1") => `(tactic| first | walk_at "g0" | with_reducible refine Go.g_sub ?_)
local macro_rules | `(tactic| walk_at "g") => `(tactic| repeat walk_at "g1")
local macro_rules | `(tactic| walk_at "v") => `(tactic| repeat walk_at "g0")
local macro_rules | `(tactic| walk_at "if") => `(tactic| first
  | with_reducible refine @Go.g_itd _ _ _ _ ?_ ?_
  | with_reducible refine @Go.g_itnd _ _ _ _ ?_ ?_
  | with_reducible refine Go.g_ite ?_ ?_)

section
variable {P : Program} {w : World} {K : PySem.W.Frag} {mg : Str → Option Value} {base : Heap}
theorem at_ne {rs : List Addr} (nd : rs.Nodup) {i j : Nat} (hi : i < rs.length) (hj : j < rs.length) (e : i ≠ j) : rs[i] ≠ rs[j] := by
  have := List.pairwise_iff_getElem.mp nd
  rcases Nat.lt_or_gt_of_ne e with h | h
  · exact this i j hi hj h
  · exact (this j i hj hi h).symm
/-- a table: a list of rows -/
structure Rows (H : Hp) (p : Addr) (rs : List Addr) (n m : Nat) (R : Nat → Nat → Int) : Prop where
  top : H p = some (.lst (rs.map V.ref))
  len : rs.length = n
  row : ∀ k (h : k < rs.length), H rs[k] = some (.lst (rowV m (R k)))
  nd : rs.Nodup
  np : p ∉ rs
theorem rowV_set {n : Nat} {f : Nat → Int} {j : Nat} {v : Int} : (rowV n f).set j (.int v) = rowV n fun x => if x = j then v else f x := by
  refine List.ext_getElem? fun i => ?_
  unfold rowV
  rw [List.getElem?_set, List.getElem?_map]
  by_cases hi : i < n
  · rw [List.getElem?_range hi, List.getElem?_map, List.getElem?_range hi, List.length_map, List.length_range]
    by_cases e : j = i
    · subst e; rw [if_pos rfl, if_pos hi]; simp
    · rw [if_neg e]; simp only [Option.map_some]; rw [if_neg (fun z => e z.symm)]
  · rw [List.getElem?_eq_none (by simp; omega), List.getElem?_map, List.getElem?_eq_none (by simp; omega), List.length_map, List.length_range]
    split
    · split
      · omega
      · rfl
    · rfl
theorem Rows.set {H : Hp} {p : Addr} {rs : List Addr} {n m : Nat} {R : Nat → Nat → Int} (r : Rows H p rs n m R) {k j : Nat} (h : k < rs.length) (v : Int) :
    Rows (upd H rs[k] (.lst ((rowV m (R k)).set j (.int v)))) p rs n m (fun k' j' => if k' = k ∧ j' = j then v else R k' j') := by
  have hp : p ≠ rs[k] := fun e => r.np (by rw [e]; exact List.getElem_mem h)
  refine ⟨at_upd hp r.top, r.len, fun k' h' => ?_, r.nd, r.np⟩
  by_cases e : k' = k
  · subst e
    rw [upd_same, rowV_set]
    congr 3
    funext x
    by_cases ex : x = j
    · simp [ex]
    · simp [ex]
  · have hne : rs[k'] ≠ rs[k] := at_ne r.nd h' h e
    rw [upd_ne hne, r.row k' h']
    congr 3
    funext x
    rw [if_neg (fun z => e z.1)]
theorem Rows.ix {H : Hp} {p : Addr} {rs : List Addr} {n m : Nat} {R : Nat → Nat → Int} (r : Rows H p rs n m R) {i : Int} {k : Nat} (e : i = (k : Int)) (h : k < rs.length) : atI (rs.map V.ref) i = some (.ref rs[k]) := by
  subst e
  refine atI_nat ?_
  rw [List.getElem?_map, List.getElem?_eq_getElem h]; rfl
def sp_table (K : PySem.W.Frag) : Sp := fun vs H Q _ => ∃ a b : List Nat, vs = [.str (mkS a), .str (mkS b)] ∧ a.length ≤ 12 ∧ b.length ≤ 12 ∧
  ∀ H' p rs R, Same H H' → Rows H' p rs (a.length + 1) (b.length + 1) R → R 0 0 = dd a b → Q (.ref p) H'
theorem ok_table (T : Txt K mg) : FnOk P w K mg base CX0 2 T.a_table T.fd_table ["one", "other"] (sp_table K) := by
  refine T.F_table.ok sc_table (fun vs H Q E h => ?_) (fun cdv A outer s H vs Q E hr h => ?_)
  · obtain ⟨a, b, rfl, _⟩ := h; rfl
  · obtain ⟨a, b, rfl, ha, hb, q⟩ := h
    have za : (mkS a).length ≤ sizeLine := by rw [mkS_len]; exact sz (by omega)
    have zb : (mkS b).length ≤ sizeLine := by rw [mkS_len]; exact sz (by omega)
    have wa := mkS_len a
    have wb := mkS_len b
    refine ⟨_, pss_cons (ps_setLc (i := 2) (own := [("_", 3)]) (g := gName 3) (by rfl) sc_table.nd rfl rfl (sw_true rfl rfl rfl (by decide +kernel)) (pi_range1 (by rfl) T.n_range (pa_cons (pe_op op_add (pe_callB call_len_str (by rfl) T.n_len PySem.boot_len (pa_cons (pv 0) pa_nil)) pe_int) pa_nil)) (blkOk_by (own := [("_", 3)]) (N := ["one", "other", "rows", "_", "i", "j", "turned"]) (sc := defScope s_table) (by decide +kernel)) (fun _ _ _ _ _ => pg_name (i := 3) sc_table.nd rfl (Or.inl rfl)) (fun _ _ _ _ _ => pts_nil) (fun _ _ _ _ _ => (pe_op op_rep (pe_lst (pa_cons pe_int pa_nil)) (pe_op op_add (pe_callB call_len_str (by rfl) T.n_len PySem.boot_len (pa_cons (pv 1) pa_nil)) pe_int))))
      (pss_cons (ps_for PassesOwn.never rfl (pi_range3 (by rfl) T.n_range (pa_cons (pe_callB call_len_str (by rfl) T.n_len PySem.boot_len (pa_cons (pv 0) pa_nil)) (pa_cons (pe_un un_neg pe_int) (pa_cons (pe_un un_neg pe_int) pa_nil)))) (pg_name (i := 4) sc_table.nd rfl (.inl rfl))
        (pss_one (ps_for PassesOwn.never rfl (pi_range3 (by rfl) T.n_range (pa_cons (pe_callB call_len_str (by rfl) T.n_len PySem.boot_len (pa_cons (pv 1) pa_nil)) (pa_cons (pe_un un_neg pe_int) (pa_cons (pe_un un_neg pe_int) pa_nil)))) (pg_name (i := 5) sc_table.nd rfl (.inl rfl))
          (pss_one (ps_if (pt_cmpR op_eq (pv 4) (pe_callB call_len_str (by rfl) T.n_len PySem.boot_len (pa_cons (pv 0) pa_nil)) (nomark _))
            (pss_one (ps_asg (pe_op op_mul pe_int (pe_op op_sub (pe_callB call_len_str (by rfl) T.n_len PySem.boot_len (pa_cons (pv 1) pa_nil)) (pv 5))) (pg_sub (pe_ix ix_list (pv 2) (pv 4) (fun _ _ => rfl)) (pv 5) set_list)))
            (pss_one (ps_if (pt_cmpR op_eq (pv 5) (pe_callB call_len_str (by rfl) T.n_len PySem.boot_len (pa_cons (pv 1) pa_nil)) (nomark _))
              (pss_one (ps_asg (pe_op op_mul pe_int (pe_op op_sub (pe_callB call_len_str (by rfl) T.n_len PySem.boot_len (pa_cons (pv 0) pa_nil)) (pv 4))) (pg_sub (pe_ix ix_list (pv 2) (pv 4) (fun _ _ => rfl)) (pv 5) set_list)))
              (pss_one (ps_if (pt_cmpR op_eq (pe_ix ix_str (pv 0) (pv 4) (fun _ _ => rfl)) (pe_ix ix_str (pv 1) (pv 5) (fun _ _ => rfl)) (nomark _))
                (pss_one (ps_asg (pe_ix ix_list (pe_ix ix_list (pv 2) (pe_op op_add (pv 4) pe_int) (fun _ _ => rfl)) (pe_op op_add (pv 5) pe_int) (fun _ _ => rfl)) (pg_sub (pe_ix ix_list (pv 2) (pv 4) (fun _ _ => rfl)) (pv 5) set_list)))
                (pss_cons (ps_set (i := 6) sc_table.nd rfl (.inl rfl) (pe_op op_add (pe_call (ok_turn_cost T) hr (by rfl) T.g_turn_cost T.F_turn_cost.kp T.b_turn_cost .nil pass0 (pa_cons (pe_ix ix_str (pv 0) (pv 4) (fun _ _ => rfl)) (pa_cons (pe_ix ix_str (pv 1) (pv 5) (fun _ _ => rfl)) pa_nil))) (pe_ix ix_list (pe_ix ix_list (pv 2) (pe_op op_add (pv 4) pe_int) (fun _ _ => rfl)) (pe_op op_add (pv 5) pe_int) (fun _ _ => rfl))))
                (pss_one (ps_asg (pe_callB (call_min3Nu rfl) (by rfl) T.n_min (by decide +kernel) (pa_cons (pv 6) (pa_cons (pe_op op_add pe_int (pe_ix ix_list (pe_ix ix_list (pv 2) (pe_op op_add (pv 4) pe_int) (fun _ _ => rfl)) (pv 5) (fun _ _ => rfl))) (pa_cons (pe_op op_add pe_int (pe_ix ix_list (pe_ix ix_list (pv 2) (pv 4) (fun _ _ => rfl)) (pe_op op_add (pv 5) pe_int) (fun _ _ => rfl))) pa_nil)))) (pg_sub (pe_ix ix_list (pv 2) (pv 4) (fun _ _ => rfl)) (pv 5) set_list)))))))))))))
      (pss_one (ps_ret (pv 2)))), ?_⟩
    walk_at "g"
    intro p np
    refine lcW_range (fun i H' => Same H H' ∧ ∃ rs, Rows H' p rs i (b.length + 1) (fun _ _ => 0) ∧ ∀ r ∈ rs, H r = none) ⟨Go.Same.new (Same.refl H) np, [], ⟨upd_same, rfl, (fun k h => nomatch h), List.nodup_nil, (fun h => nomatch h)⟩, (fun r h => nomatch h)⟩ ?_ ?_
    · rintro i H1 hi ⟨s1, rs, r1, f1⟩
      walk_at "g"
      intro l nl
      walk_at "g"
      refine ⟨l, _, _, rfl, rfl, upd_same, by omega, by omega, ?_, fun r nr => ?_⟩
      · show 1 * _ ≤ _
        exact sz (by omega)
      · obtain ⟨nr, nrl⟩ := free_upd nr
        have hpl : p ≠ l := ne_of_none r1.top nl
        have hpr : p ≠ r := ne_of_none r1.top nr
        have top2 : (upd (upd H1 l (.lst [.int 0])) r (.lst (rowV (b.length + 1) fun _ => 0))) p = some (.lst (rs.map V.ref)) := at_upd hpr (at_upd hpl r1.top)
        have eR : (List.replicate (((mkS b).length : Int) + 1).toNat [V.int 0]).flatten = rowV (b.length + 1) fun _ => 0 := by
          rw [show (((mkS b).length : Int) + 1).toNat = b.length + 1 by omega]
          unfold rowV
          generalize b.length + 1 = z
          induction z with
          | zero => rfl
          | succ z ih => rw [List.replicate_succ', List.flatten_append, ih, List.range_succ, List.map_append]; rfl
        rw [eR]
        refine ⟨_, top2, ?_, ?_, rs ++ [r], ⟨?_, ?_, ?_, ?_, ?_⟩, ?_⟩
        · rw [List.length_map, r1.len]; exact small1000 (by omega)
        · exact Go.Same.mut (Go.Same.new (Go.Same.new s1 nl) (at_upd nrl nr)) np
        · rw [upd_same, List.map_append]; rfl
        · rw [List.length_append, r1.len]; rfl
        · intro k hk
          rw [List.length_append, List.length_singleton] at hk
          by_cases hk2 : k < rs.length
          · have e := r1.row k hk2
            rw [List.getElem_append_left hk2]
            have m1 : rs[k] ≠ p := fun z => r1.np (by rw [← z]; exact List.getElem_mem hk2)
            rw [upd_ne m1, upd_ne (ne_of_none e nr), upd_ne (ne_of_none e nl)]
            exact e
          · have ek : k = rs.length := by omega
            subst ek
            have er : (rs ++ [r])[rs.length]'(by simp) = r := by simp
            rw [er, upd_ne hpr.symm, upd_same]
        · refine List.nodup_append.mpr ⟨r1.nd, by simp, ?_⟩
          intro x hx y hy
          rw [List.mem_singleton] at hy
          subst hy
          obtain ⟨k, hk, rfl⟩ := List.getElem_of_mem hx
          exact ne_of_none (r1.row k hk) nr
        · intro hm
          rcases List.mem_append.mp hm with z | z
          · exact r1.np z
          · exact hpr (List.mem_singleton.mp z)
        · intro x hx
          rcases List.mem_append.mp hx with z | z
          · exact f1 x z
          · rw [List.mem_singleton.mp z]; exact Same.free s1 nr
    · rintro H1 ⟨s1, rs, r1, f1⟩
      have ea : (((mkS a).length : Int) + 1).toNat = a.length + 1 := by omega
      rw [ea] at r1
      walk_at "g"
      refine ⟨_, _, _, _, rfl, RgC.neg (by omega) (by omega) (by decide) (by decide), ?_⟩
      refine forW_rangeC (fun t σ' H' => ∃ (y3 y4 y5 y6 : Option V) (R : Nat → Nat → Int), σ' = [some (.str (mkS a)), some (.str (mkS b)), some (.ref p), y3, y4, y5, y6] ∧ Same H H' ∧ Rows H' p rs (a.length + 1) (b.length + 1) R ∧
          ∀ k j, k ≤ a.length → j ≤ b.length → a.length < k + t → R k j = suf a b k j)
        ⟨_, _, _, _, _, rfl, s1, r1, fun k j h1 h2 h3 => by omega⟩ ?_ ?_
      · rintro t σ' H2 ht ⟨y3, y4, y5, y6, R, rfl, s2, r2, g2⟩
        have ht' : t ≤ a.length := by omega
        obtain ⟨k, hk⟩ : ∃ k, k + t = a.length := ⟨a.length - t, by omega⟩
        have ek : (((mkS a).length : Nat) : Int) + (t : Nat) * -1 = (k : Int) := by omega
        walk_at "g"
        refine ⟨_, _, _, _, rfl, RgC.neg (by omega) (by omega) (by decide) (by decide), ?_⟩
        refine forW_rangeC (fun u σ' H' => ∃ (y5 y6 : Option V) (R : Nat → Nat → Int), σ' = [some (.str (mkS a)), some (.str (mkS b)), some (.ref p), y3, some (.int k), y5, y6] ∧ Same H H' ∧ Rows H' p rs (a.length + 1) (b.length + 1) R ∧
            ∀ k' j, k' ≤ a.length → j ≤ b.length → (k < k' ∨ (k' = k ∧ b.length < j + u)) → R k' j = suf a b k' j)
          ⟨_, _, R, by rw [ek]; rfl, s2, r2, fun k' j h1 h2 h3 => g2 k' j h1 h2 (by omega)⟩ ?_ ?_
        · rintro u σ' H3 hu ⟨y5, y6, R, rfl, s3, r3, g3⟩
          have hu' : u ≤ b.length := by omega
          obtain ⟨j, hj⟩ : ∃ j, j + u = b.length := ⟨b.length - u, by omega⟩
          have ej : (((mkS b).length : Nat) : Int) + (u : Nat) * -1 = (j : Int) := by omega
          have hkr : k < rs.length := by rw [r3.len]; omega
          have fin : ∀ (v : Int) (y6 : Option V) (Qn : L2.St → Hp → Prop), v = suf a b k j → (∀ H' R, Same H H' → Rows H' p rs (a.length + 1) (b.length + 1) R →
              (∀ k' j, k' ≤ a.length → j ≤ b.length → (k < k' ∨ (k' = k ∧ b.length < j + (u + 1))) → R k' j = suf a b k' j) → Qn [some (.str (mkS a)), some (.str (mkS b)), some (.ref p), y3, some (.int k), some (.int j), y6] H') →
              gSub (tOp (rIxL K) (tVar 2) (tVar 4)) (tVar 5) rSetL (.int v) [some (.str (mkS a)), some (.str (mkS b)), some (.ref p), y3, some (.int k), some (.int j), y6] H3 Qn := by
            intro v y6 Qn ev hq
            have top3 := r3.top
            have row3 := r3.row k hkr
            walk_at "g"
            refine g_ixL (by walk_at "sq") (r3.ix rfl hkr) ?_
            walk_at "g"
            refine g_setL row3 (ixN_some (by omega) (by rw [rowV_len]; omega)) ?_
            refine hq _ _ (Go.Same.mut s3 (f1 _ (List.getElem_mem hkr))) (r3.set hkr v) fun k' j' h1 h2 h3 => ?_
            by_cases e : k' = k ∧ j' = (j : Int).toNat
            · rw [if_pos e, e.1, e.2, ev]; rfl
            · rw [if_neg e]
              refine g3 k' j' h1 h2 ?_
              rcases h3 with h3 | ⟨h3, h4⟩
              · exact .inl h3
              · refine .inr ⟨h3, ?_⟩
                have : j' ≠ j := fun z => e ⟨h3, by omega⟩
                omega
          rw [ej]
          walk_at "g"
          have top3 := r3.top
          have row3 := r3.row k hkr
          have post : ∀ (y6 : Option V) (H' : Hp) (R : Nat → Nat → Int), Same H H' → Rows H' p rs (a.length + 1) (b.length + 1) R →
              (∀ k' j, k' ≤ a.length → j ≤ b.length → (k < k' ∨ (k' = k ∧ b.length < j + (u + 1))) → R k' j = suf a b k' j) →
              ∃ (y5 y6' : Option V) (R : Nat → Nat → Int), [some (.str (mkS a)), some (.str (mkS b)), some (.ref p), y3, some (.int k), some (.int j), y6] = [some (.str (mkS a)), some (.str (mkS b)), some (.ref p), y3, some (.int k), y5, y6'] ∧ Same H H' ∧ Rows H' p rs (a.length + 1) (b.length + 1) R ∧
                ∀ k' j, k' ≤ a.length → j ≤ b.length → (k < k' ∨ (k' = k ∧ b.length < j + (u + 1))) → R k' j = suf a b k' j :=
            fun y6 H' R h1 h2 h3 => ⟨_, _, R, rfl, h1, h2, h3⟩
          walk_at "if" <;> intro e1
          · have e1 := V.int.inj e1
            walk_at "v"
            refine fin _ y6 _ ?_ (post y6)
            have e : k = a.length := by omega
            subst e
            rw [suf_end (by omega)]; omega
          · have e1 : k ≠ a.length := fun z => e1 (by rw [z, wa])
            walk_at "v"
            walk_at "if" <;> intro e2
            · have e2 := V.int.inj e2
              walk_at "v"
              refine fin _ y6 _ ?_ (post y6)
              have e : j = b.length := by omega
              subst e
              rw [suf_end' (by omega)]; omega
            · have e2 : j ≠ b.length := fun z => e2 (by rw [z, wb])
              have hi' : k < a.length := by omega
              have hj' : j < b.length := by omega
              have hk1 : k + 1 < rs.length := by rw [r3.len]; omega
              have row4 := r3.row (k + 1) hk1
              have d1 : R (k + 1) (j + 1) = suf a b (k + 1) (j + 1) := g3 _ _ (by omega) (by omega) (by omega)
              have d2 : R (k + 1) j = suf a b (k + 1) j := g3 _ _ (by omega) (by omega) (by omega)
              have d3 : R k (j + 1) = suf a b k (j + 1) := g3 _ _ (by omega) (by omega) (by omega)
              walk_at "v"
              refine ⟨_, _, _, rfl, rfl, za, sign_of (k := k) rfl hi', ?_⟩
              walk_at "v"
              refine ⟨_, _, _, rfl, rfl, zb, sign_of (k := j) rfl hj', ?_⟩
              walk_at "v"
              walk_at "if" <;> intro e3 <;> rw [one_inj] at e3
              · walk_at "v"
                refine g_ixL (by walk_at "sq") (r3.ix (k := k + 1) (by omega) hk1) ?_
                walk_at "v"
                refine g_ixL (by walk_at "sq") (rowV_at (k := j + 1) (by omega) (by omega)) ?_
                walk_at "v"
                refine fin _ y6 _ ?_ (post y6)
                rw [d1, suf_same hi' hj' e3]
              · walk_at "v"
                refine ⟨_, _, _, rfl, rfl, za, sign_of (k := k) rfl hi', ?_⟩
                walk_at "v"
                refine ⟨_, _, _, rfl, rfl, zb, sign_of (k := j) rfl hj', ?_⟩
                walk_at "v"
                refine ⟨_, _, rfl, ?_⟩
                walk_at "v"
                refine g_ixL (by walk_at "sq") (r3.ix (k := k + 1) (by omega) hk1) ?_
                walk_at "v"
                refine g_ixL (by walk_at "sq") (rowV_at (k := j + 1) (by omega) (by omega)) ?_
                walk_at "v"
                refine g_ixL (by walk_at "sq") (r3.ix (k := k + 1) (by omega) hk1) ?_
                walk_at "v"
                refine g_ixL (by walk_at "sq") (rowV_at (k := j) (by omega) (by omega)) ?_
                walk_at "v"
                refine g_ixL (by walk_at "sq") (r3.ix (k := k) (by omega) hkr) ?_
                walk_at "v"
                refine g_ixL (by walk_at "sq") (rowV_at (k := j + 1) (by omega) (by omega)) ?_
                walk_at "v"
                refine ⟨_, _, _, _, rfl, min3_int _ _ _, ?_⟩
                walk_at "v"
                refine fin _ _ _ ?_ (post _)
                rw [d1, d2, d3, suf_other hi' hj' e3]
        · rintro σ' H3 ⟨y5, y6, R, rfl, s3, r3, g3⟩
          exact ⟨_, _, _, _, R, rfl, s3, r3, fun k' j h1 h2 h3 => g3 k' j h1 h2 (by omega)⟩
      · rintro σ' H2 ⟨y3, y4, y5, y6, R, rfl, s2, r2, g2⟩
        walk_at "g"
        refine q _ _ _ R s2 r2 ?_
        rw [g2 0 0 (by omega) (by omega) (by omega)]
        rfl
def sp_distance (K : PySem.W.Frag) : Sp := fun vs H Q _ => ∃ a b : List Nat, vs = [.str (mkS a), .str (mkS b)] ∧ a.length ≤ 12 ∧ b.length ≤ 12 ∧ ∀ H', Same H H' → Q (.int (dd a b)) H'
theorem ok_distance (T : Txt K mg) : FnOk P w K mg base CX0 3 T.a_distance T.fd_distance ["one", "other"] (sp_distance K) := by
  refine T.F_distance.ok sc_distance (fun vs H Q E h => ?_) (fun cdv A outer s H vs Q E hr h => ?_)
  · obtain ⟨a, b, rfl, _⟩ := h; rfl
  · obtain ⟨a, b, rfl, ha, hb, q⟩ := h
    refine ⟨_, pss_one (ps_ret (pe_ix ix_list (pe_ix ix_list (pe_call (ok_table T) hr (by rfl) T.g_table T.F_table.kp T.b_table .nil pass0 (pa_cons (pv 0) (pa_cons (pv 1) pa_nil))) pe_int (fun _ _ => rfl)) pe_int (fun _ _ => rfl))), ?_⟩
    walk_at "g"
    refine ⟨a, b, rfl, ha, hb, fun H1 p rs R s1 r1 e1 => ?_⟩
    have top := r1.top
    have h0 : 0 < rs.length := by rw [r1.len]; omega
    have row := r1.row 0 h0
    walk_at "g"
    refine g_ixL (by walk_at "sq") (r1.ix (k := 0) rfl h0) ?_
    walk_at "g"
    refine g_ixL (by walk_at "sq") (rowV_at (k := 0) rfl (by omega)) ?_
    rw [e1]
    exact q _ s1

end
end K61

namespace K61
open PySem PySem.Spec PyProof.Rows L2 Go
set_option maxHeartbeats 8000000
local macro_rules | `(tactic| walk_at "ne") => `(tactic| first
  | assumption
  | (refine Ne.symm ?_; assumption)
  | exact (Go.free_upd (by assumption)).2
  | exact (Go.free_upd (by assumption)).2.symm
  | exact Go.ne_fr (by assumption) (by walk_at "hp")
  | exact (Go.ne_fr (by assumption) (by walk_at "hp")).symm)
local macro_rules | `(tactic| walk_at "fr") => `(tactic| first
  | assumption
  | exact (Go.free_upd (by assumption)).1
  | exact (Go.free_upd (Go.free_upd (by assumption)).1).1
  | exact Same.free (by assumption) (by walk_at "fr"))
local macro_rules | `(tactic| walk_at "hp") => `(tactic| first
  | assumption
  | with_reducible exact upd_same
  | ((with_reducible show upd _ _ _ _ = _); exact Go.at_upd (by walk_at "ne") (by walk_at "hp"))
  | exact (by assumption : Same _ _) _ _ (by walk_at "hp")
  | exact (by assumption : Go.Kp _ _ _) _ _ (by walk_at "ne") (by walk_at "hp"))
local macro_rules | `(tactic| walk_at "sq") => `(tactic| first
  | assumption
  | ((with_reducible show SqL _ (upd _ _ _) _ _); exact (by assumption : ∀ o, SqL _ (upd _ _ o) _ _) _)
  | ((with_reducible show SqL _ _ _ _); exact SqL.of (by walk_at "hp"))
  | ((with_reducible show SqT _ _ _ _); exact SqT.of (by walk_at "hp"))
  | ((with_reducible show SqL _ (upd _ _ _) _ _); exact Go.sqL_new (by walk_at "fr") (by walk_at "sq"))
  | ((with_reducible show SqT _ (upd _ _ _) _ _); exact Go.sqT_new (by walk_at "fr") (by walk_at "sq"))
  | ((with_reducible show SqL _ (upd _ _ _) _ _); exact Go.sqL_ne (by walk_at "ne") (by walk_at "sq"))
  | exact Go.sqL_same (by assumption) (by walk_at "sq")
  | exact Go.sqT_same (by assumption) (by walk_at "sq")
  | exact Go.sqL_kp (by assumption) (by walk_at "ne") (by walk_at "sq")
  | exact Go.sqT_kp (by assumption) (by walk_at "ne") (by walk_at "sq"))
local macro_rules | `(tactic| walk_at "ci") => `(tactic| first
  | exact .inr ⟨by decide, by decide⟩
  | exact .inl ⟨by decide, by decide⟩
  | exact ⟨by decide, by decide, by decide⟩
  | decide
  | omega
  | exact ⟨by omega, by omega⟩
  | exact .inl ⟨by omega, by omega⟩
  | exact .inr ⟨by omega, by omega⟩)
local macro_rules | `(tactic| walk_at "g0") => `(tactic| first
  | with_reducible refine Go.g_seq ?_
  | ((with_reducible show tVar _ _ _ _); refine ⟨_, rfl, ?_⟩)
  | with_reducible refine Go.g_c ?_
  | with_reducible refine Go.g_op ?_
  | with_reducible refine Go.g_asg ?_
  | with_reducible refine Go.g_name ?_
  | with_reducible refine Go.g_cons ?_
  | with_reducible refine Go.g_lst ?_
  | with_reducible refine Go.g_tup ?_
  | with_reducible refine Go.g_for ?_
  | with_reducible refine Go.g_rng1 ?_
  | with_reducible refine Go.g_rng2 ?_
  | with_reducible refine Go.g_rng3 ?_
  | with_reducible refine Go.g_list ?_
  | with_reducible refine Go.g_itup ?_
  | with_reducible refine Go.g_lc ?_
  | with_reducible refine Go.g_nil ?_
  | with_reducible refine Go.g_cb ?_
  | with_reducible refine Go.g_call ?_
  | with_reducible refine Go.g_ret ?_
  | with_reducible refine Go.g_next ?_
  | with_reducible refine Go.g_drop ?_
  | with_reducible refine Go.g_un ?_
  | with_reducible refine Go.g_test ?_
  | with_reducible refine Go.g_tB ?_
  | with_reducible refine Go.g_ifs ?_
  | with_reducible refine Go.g_if ?_
  | with_reducible refine Go.g_and ?_
  | with_reducible refine Go.g_or ?_
  | with_reducible refine Go.g_not ?_
  | with_reducible refine Go.g_sl ?_
  | with_reducible refine Go.g_nopart ?_
  | with_reducible refine Go.g_part ?_
  | ((with_reducible show ∃ k, V.bl _ = V.bl k ∧ _); refine ⟨_, rfl, ?_⟩)
  | ((with_reducible show ∃ k, V.int _ = V.int k ∧ _); refine ⟨_, rfl, ?_⟩)
  | with_reducible refine Go.g_bm ?_
  | with_reducible refine Go.g_yes ?_
  | ((with_reducible show rI0 _ _ _ _ _); refine ⟨_, _, rfl, rfl, ?_⟩)
  | ((with_reducible show rI _ _ _ _ _ _); refine ⟨_, _, rfl, rfl, ?_, ?_⟩; (focus walk_at "ci"))
  | ((with_reducible show rU _ _ _ _); refine ⟨_, rfl, ?_⟩)
  | ((with_reducible show rEq _ _ _ _); refine ⟨rfl, ?_⟩)
  | ((with_reducible show rNe _ _ _ _); refine ⟨rfl, ?_⟩)
  | ((with_reducible show rIxL _ _ _ _ _); refine Go.g_ixL (by walk_at "sq") (by rfl) ?_)
  | ((with_reducible show rIxT _ _ _ _ _); refine Go.g_ixT (by walk_at "sq") (by rfl) ?_)
  | ((with_reducible show rSetL _ _ _ _ _); refine Go.g_setL (by walk_at "hp") (by rfl) ?_)
  | ((with_reducible show ∃ p ys, [V.ref _] = [V.ref p] ∧ (SqL _ _ _ _ ∨ SqT _ _ _ _) ∧ _); refine ⟨_, _, rfl, .inl (by walk_at "sq"), ?_⟩)
  | ((with_reducible show (∃ i, [V.int _] = [V.int i] ∧ _) ∨ _); refine .inl ⟨_, rfl, ?_⟩)
  | ((with_reducible show ∃ (c : Nat) (z : Str), V.str _ = V.str ⟨#[c]⟩ ∧ V.str _ = V.str z ∧ _); refine ⟨_, _, rfl, rfl, ?_⟩)
  | ((with_reducible show ∃ x : Str, [V.str _] = [V.str x] ∧ Str.length x = 1 ∧ _); refine ⟨_, rfl, rfl, ?_⟩)
  | ((with_reducible show ∃ z : Str, [V.str _] = [V.str z] ∧ Str.length z ≤ sizeLine ∧ _); refine ⟨_, rfl, by assumption, ?_⟩)
  | ((with_reducible show rSlS _ _ _ _ _); refine ⟨_, rfl, by assumption, ?_⟩)
  | ((with_reducible show wipe _ _ = wipe _ _ ∧ _); refine ⟨rfl, ?_⟩)
  | ((with_reducible show if true = true then _ else _); refine iteT ?_)
  | ((with_reducible show if false = true then _ else _); refine iteF ?_)
  | ((with_reducible show ∃ a, V.ref _ = V.ref a ∧ (∃ xs, SqL _ _ a xs) ∧ _); refine ⟨_, rfl, ⟨_, by walk_at "sq"⟩, ?_⟩)
  | ((with_reducible show ∃ a, V.ref _ = V.ref a ∧ (∃ xs, SqT _ _ a xs) ∧ _); refine ⟨_, rfl, ⟨_, by walk_at "sq"⟩, ?_⟩)
  | ((with_reducible show ∃ j : Int, [V.int _] = [V.int j] ∧ _ ≤ j ∧ j < _ ∧ _); refine ⟨_, rfl, by omega, by omega, ?_⟩)
  | ((with_reducible show ∃ i j : Int, [V.int _, V.int _] = [V.int i, V.int j] ∧ (_ ≤ i ∧ i < _ ∧ _ ≤ j ∧ j < _) ∧ _); refine ⟨_, _, rfl, ⟨by omega, by omega, by omega, by omega⟩, ?_⟩)
  | ((with_reducible show ∃ i j : Int, [V.int _, V.int _] = [V.int i, V.int j] ∧ _); refine ⟨_, _, rfl, ?_⟩)
  | ((with_reducible show _ ≤ sizeLine ∧ _); refine ⟨by first | decide | (simp only [List.length_cons, List.length_nil]; decide), ?_⟩))
local macro_rules | `(tactic| walk_at "g1") => `(tactic| first | walk_at "g0" | with_reducible refine Go.g_sub ?_)
local macro_rules | `(tactic| walk_at "g") => `(tactic| repeat walk_at "g1")
local macro_rules | `(tactic| walk_at "v") => `(tactic| repeat walk_at "g0")
local macro_rules | `(tactic| walk_at "if") => `(tactic| first
  | with_reducible refine @Go.g_itd _ _ _ _ ?_ ?_
  | with_reducible refine @Go.g_itnd _ _ _ _ ?_ ?_
  | with_reducible refine Go.g_ite ?_ ?_)

section
variable {P : Program} {w : World} {K : PySem.W.Frag} {mg : Str → Option Value} {base : Heap}
def sp__law_close (K : PySem.W.Frag) : Sp := fun vs H Q _ => ∃ (st sc : Addr) (ns : List Int) (w : List Nat), vs = [.ref st, .ref sc, .str (mkS w)] ∧ St K H st sc ns ∧ Wd w ∧
  ∀ H' w, Kp st H H' → St K H' st sc ns → Wd w → Q (.str (mkS w)) H'
theorem ok__law_close (T : Txt K mg) : FnOk P w K mg base CX0 3 T.a__law_close T.fd__law_close ["state", "script", "word"] (sp__law_close K) := by
  refine T.F__law_close.ok sc__law_close (fun vs H Q E h => ?_) (fun cdv A outer s H vs Q E hr h => ?_)
  · obtain ⟨st, sc, ns, w, rfl, _⟩ := h; rfl
  · obtain ⟨st, sc, ns, w, rfl, hS, hw, q⟩ := h
    refine ⟨_, pss_cons (ps_set (i := 3) sc__law_close.nd rfl (.inl rfl) (pe_lst (pa_cons pe_str (pa_cons pe_str (pa_cons pe_str (pa_cons pe_str (pa_cons pe_str (pa_cons pe_str (pa_cons pe_str pa_nil)))))))))
      (pss_cons (ps_for PassesOwn.never rfl (pi_range1 (by rfl) T.n_range (pa_cons (pe_call (ok__law_draw T) (hr.mono (by decide)) (by rfl) T.g__law_draw T.F__law_draw.kp T.b__law_draw .nil pass0 (pa_cons (pv 0) (pa_cons (pv 1) (pa_cons pe_int pa_nil)))) pa_nil)) (pg_name (i := 4) sc__law_close.nd rfl (.inl rfl))
        (pss_cons (ps_set (i := 5) sc__law_close.nd rfl (.inr rfl) (pe_call (ok__law_draw T) (hr.mono (by decide)) (by rfl) T.g__law_draw T.F__law_draw.kp T.b__law_draw .nil pass0 (pa_cons (pv 0) (pa_cons (pv 1) (pa_cons (pe_callB call_len_str (by rfl) T.n_len PySem.boot_len (pa_cons (pv 2) pa_nil)) pa_nil)))))
        (pss_cons (ps_set (i := 6) sc__law_close.nd rfl (.inl rfl) (pe_call (ok__law_draw T) (hr.mono (by decide)) (by rfl) T.g__law_draw T.F__law_draw.kp T.b__law_draw .nil pass0 (pa_cons (pv 0) (pa_cons (pv 1) (pa_cons pe_int pa_nil)))))
        (pss_cons (ps_set (i := 7) sc__law_close.nd rfl (.inl rfl) (pe_ix ix_str pe_str (pe_call (ok__law_draw T) (hr.mono (by decide)) (by rfl) T.g__law_draw T.F__law_draw.kp T.b__law_draw .nil pass0 (pa_cons (pv 0) (pa_cons (pv 1) (pa_cons pe_int pa_nil)))) (fun _ _ => rfl)))
        (pss_one (ps_if (pt_cutT (PW.pt (pw_and (pt_cmpR op_eq (pv 6) pe_int (nomark _)) (pw_and1 (pt_cmpR op_lt (pe_callB call_len_str (by rfl) T.n_len PySem.boot_len (pa_cons (pv 2) pa_nil)) pe_int (nomark _))))))
          (pss_one (ps_set (i := 2) sc__law_close.nd rfl (.inr rfl) (pe_op op_add_str (pe_op op_add_str (pe_slice sl_str (pv 2) po_none (po_some (pv 5))) (pv 7)) (pe_slice sl_str (pv 2) (po_some (pv 5)) po_none))))
          (pss_one (ps_if (pt_cutT (PW.pt (pw_and (pt_cmpR op_eq (pv 6) pe_int (nomark _)) (pw_and1 (pt_cmpR op_gt (pe_callB call_len_str (by rfl) T.n_len PySem.boot_len (pa_cons (pv 2) pa_nil)) pe_int (nomark _))))))
            (pss_one (ps_set (i := 2) sc__law_close.nd rfl (.inr rfl) (pe_op op_add_str (pe_slice sl_str (pv 2) po_none (po_some (pv 5))) (pe_slice sl_str (pv 2) (po_some (pe_op op_add (pv 5) pe_int)) po_none))))
            (pss_one (ps_if (pt_cmpR op_eq (pv 6) pe_int (nomark _))
              (pss_one (ps_set (i := 2) sc__law_close.nd rfl (.inr rfl) (pe_op op_add_str (pe_op op_add_str (pe_slice sl_str (pv 2) po_none (po_some (pv 5))) (pv 7)) (pe_slice sl_str (pv 2) (po_some (pe_op op_add (pv 5) pe_int)) po_none))))
              (pss_cons (ps_setLc (i := 8) (own := [("group", 9)]) (g := gName 9) (by rfl) sc__law_close.nd rfl rfl (sw_true rfl rfl rfl (by decide +kernel)) (pi_list (pv 3)) (blkOk_by (own := [("group", 9)]) (N := ["state", "script", "word", "groups", "_", "at", "kind", "letter", "like", "group"]) (sc := defScope s__law_close) (by decide +kernel)) (fun _ _ _ _ _ => pg_name (i := 9) sc__law_close.nd rfl (Or.inl rfl)) (fun _ _ _ _ _ => pts_one (pt_cmpR op_in_sign (pe_ix ix_str (pv 2) (pv 5) (fun _ _ => rfl)) (pv 9) rfl)) (fun _ _ _ _ _ => (pv 9)))
              (pss_one (ps_if (pt_cmpR op_gt (pe_callB call_len_seq (by rfl) T.n_len PySem.boot_len (pa_cons (pv 8) pa_nil)) pe_int (nomark _))
                (pss_one (ps_set (i := 2) sc__law_close.nd rfl (.inr rfl) (pe_op op_add_str (pe_op op_add_str (pe_slice sl_str (pv 2) po_none (po_some (pv 5))) (pe_call (ok__law_pick T) hr (by rfl) T.g__law_pick T.F__law_pick.kp T.b__law_pick .nil pass0 (pa_cons (pv 0) (pa_cons (pv 1) (pa_cons (pe_callTy (call_list_strV rfl) (by rfl) T.n_list (by decide +kernel) (pa_cons (pe_ix ix_list (pv 8) pe_int (fun _ _ => rfl)) pa_nil)) pa_nil))))) (pe_slice sl_str (pv 2) (po_some (pe_op op_add (pv 5) pe_int)) po_none))))
                (pss_nil))))))))))))))
      (pss_one (ps_ret (pv 2)))), ?_⟩
    walk_at "g"
    intro g ng
    have S0 := St.new (o := .lst (likeS.map V.str)) hS ng
    have k0 : Kp st H (upd H g (.lst (likeS.map V.str))) := Kp.new (Kp.refl _ _) ng
    have eg : (upd H g (.lst (likeS.map V.str))) g = some (.lst (likeS.map V.str)) := upd_same
    have hg : g ≠ st := hS.ne ng
    clear hS
    walk_at "g"
    refine ⟨st, sc, ns, _, rfl, S0, by decide, by decide, fun H1 d1 k1 S1 d10 d11 => ?_⟩
    have eg1 : H1 g = some (.lst (likeS.map V.str)) := k1 _ _ hg eg
    have k1 := k0.trans k1
    walk_at "g"
    refine forW_range (fun i σ' H' => ∃ (w : List Nat) (y4 y5 y6 y7 y8 y9 : Option V), σ' = [some (.ref st), some (.ref sc), some (.str (mkS w)), some (.ref g), y4, y5, y6, y7, y8, y9] ∧ Wd w ∧ Kp st H H' ∧ St K H' st sc ns ∧
        H' g = some (.lst (likeS.map V.str)))
      ⟨w, _, _, _, _, _, _, rfl, hw, k1, S1, eg1⟩ ?_ ?_
    · rintro i σ' H2 hi ⟨w, y4, y5, y6, y7, y8, y9, rfl, ww, k2, S2, eg2⟩
      have zw : (mkS w).length ≤ sizeLine := by rw [mkS_len]; exact sz (by have := ww.2.1; omega)
      walk_at "g"
      refine ⟨st, sc, ns, _, rfl, S2, by rw [mkS_len]; have := ww.1; omega, by rw [mkS_len]; have := ww.2.1; omega, fun H3 d3 k3 S3 d30 d31 => ?_⟩
      rw [mkS_len] at d31
      have eg3 : H3 g = some (.lst (likeS.map V.str)) := k3 _ _ hg eg2
      have k3 := k2.trans k3
      walk_at "g"
      refine ⟨st, sc, ns, _, rfl, S3, by decide, by decide, fun H4 d4 k4 S4 d40 d41 => ?_⟩
      have eg4 : H4 g = some (.lst (likeS.map V.str)) := k4 _ _ hg eg3
      have k4 := k3.trans k4
      walk_at "g"
      refine ⟨st, sc, ns, _, rfl, S4, by decide, by decide, fun H5 d5 k5 S5 d50 d51 => ?_⟩
      have eg5 : H5 g = some (.lst (likeS.map V.str)) := k5 _ _ hg eg4
      have k5 := k4.trans k5
      refine ⟨mkS alphaC, _, _, by rw [alpha_eq], rfl, by rw [mkS_len]; exact sz (by decide), by rw [mkS_list]; exact alpha_at d50 d51, ?_⟩
      have lc := alpha_let d50 d51
      have sl : ((⟨#[97 + d5.toNat]⟩ : Str)) = mkS [97 + d5.toNat] := rfl
      have at0 : d3.toNat < w.length := by omega
      have atA : (d3 + 1).toNat = d3.toNat + 1 := by omega
      have lw := ww.1
      have lw2 := ww.2.1
      clear k0 k1 k2 k3 k4 eg1 eg2 eg3 eg4 S0 S1 S2 S3 S4 eg hw
      rw [sl]
      have post : ∀ (w' : List Nat) (x1 x2 x3 x4 x5 x6 : Option V) (H' : Hp), Wd w' → Kp st H H' → St K H' st sc ns → H' g = some (.lst (likeS.map V.str)) →
          ∃ (w : List Nat) (y4 y5 y6 y7 y8 y9 : Option V), [some (.ref st), some (.ref sc), some (.str (mkS w')), some (.ref g), x1, x2, x3, x4, x5, x6] = [some (.ref st), some (.ref sc), some (.str (mkS w)), some (.ref g), y4, y5, y6, y7, y8, y9] ∧ Wd w ∧ Kp st H H' ∧ St K H' st sc ns ∧
            H' g = some (.lst (likeS.map V.str)) := fun w' x1 x2 x3 x4 x5 x6 H' a b c d => ⟨w', x1, x2, x3, x4, x5, x6, rfl, a, b, c, d⟩
      have repl : ∀ c, Let c → Wd (w.take d3.toNat ++ [c] ++ w.drop (d3 + 1).toNat) := fun c hc => by
        refine ⟨?_, ?_, fun x hx => ?_⟩
        · simp only [List.length_append, List.length_take, List.length_drop, List.length_singleton]; omega
        · simp only [List.length_append, List.length_take, List.length_drop, List.length_singleton]; omega
        · simp only [List.mem_append, List.mem_singleton] at hx
          rcases hx with (z | z) | z
          · exact ww.2.2 x (List.mem_of_mem_take z)
          · rw [z]; exact hc
          · exact ww.2.2 x (List.mem_of_mem_drop z)
      have szl : ∀ l : List Nat, l.length ≤ 100 → (mkS l).length ≤ sizeLine := fun l h => by rw [mkS_len]; exact sz (by omega)
      walk_at "g"
      refine ⟨fun b H' => H5 = H' ∧ (b = true → w.length < 12), ?_, ?_⟩
      · walk_at "g"
        walk_at "if" <;> intro e1
        · walk_at "g"
          refine ⟨rfl, fun e => ?_⟩
          have := of_decide_eq_true e
          rw [mkS_len] at this; omega
        · exact ⟨rfl, fun e => nomatch e⟩
      rintro b _ ⟨rfl, hb⟩
      walk_at "if" <;> intro e1
      · have hb := hb e1
        walk_at "g"
        rw [cut_lo d30]
        refine ⟨_, _, rfl, rfl, by rw [mkS_len, mkS_len]; exact sz (by simp only [List.length_take, List.length_singleton]; omega), ?_⟩
        rw [mkS_app]
        walk_at "g"
        rw [cut_hi d30]
        refine ⟨_, _, rfl, rfl, by rw [mkS_len, mkS_len]; exact sz (by simp only [List.length_append, List.length_take, List.length_drop, List.length_singleton]; omega), ?_⟩
        rw [mkS_app]
        walk_at "g"
        refine post _ _ _ _ _ _ _ _ ?_ k5 S5 eg5
        refine ⟨?_, ?_, fun x hx => ?_⟩
        · simp only [List.length_append, List.length_take, List.length_drop, List.length_singleton]; omega
        · simp only [List.length_append, List.length_take, List.length_drop, List.length_singleton]; omega
        · simp only [List.mem_append, List.mem_singleton] at hx
          rcases hx with (z | z) | z
          · exact ww.2.2 x (List.mem_of_mem_take z)
          · rw [z]; exact lc
          · exact ww.2.2 x (List.mem_of_mem_drop z)
      clear hb e1
      walk_at "g"
      refine ⟨fun b H' => H5 = H' ∧ (b = true → 1 < w.length), ?_, ?_⟩
      · walk_at "g"
        walk_at "if" <;> intro e1
        · walk_at "g"
          refine ⟨rfl, fun e => ?_⟩
          have := of_decide_eq_true e
          rw [mkS_len] at this; omega
        · exact ⟨rfl, fun e => nomatch e⟩
      rintro b _ ⟨rfl, hb⟩
      walk_at "if" <;> intro e1
      · have hb := hb e1
        walk_at "g"
        rw [cut_lo d30, cut_hi (show 0 ≤ d3 + 1 by omega)]
        refine ⟨_, _, rfl, rfl, by rw [mkS_len, mkS_len]; exact sz (by simp only [List.length_take, List.length_drop]; omega), ?_⟩
        rw [mkS_app]
        walk_at "g"
        refine post _ _ _ _ _ _ _ _ ?_ k5 S5 eg5
        refine ⟨?_, ?_, fun x hx => ?_⟩
        · simp only [List.length_append, List.length_take, List.length_drop]; omega
        · simp only [List.length_append, List.length_take, List.length_drop]; omega
        · simp only [List.mem_append] at hx
          rcases hx with z | z
          · exact ww.2.2 x (List.mem_of_mem_take z)
          · exact ww.2.2 x (List.mem_of_mem_drop z)
      clear hb e1
      walk_at "g"
      walk_at "if" <;> intro e1
      · walk_at "g"
        rw [cut_lo d30]
        refine ⟨_, _, rfl, rfl, by rw [mkS_len, mkS_len]; exact sz (by simp only [List.length_take, List.length_singleton]; omega), ?_⟩
        rw [mkS_app]
        walk_at "g"
        rw [cut_hi (show 0 ≤ d3 + 1 by omega)]
        refine ⟨_, _, rfl, rfl, by rw [mkS_len, mkS_len]; exact sz (by simp only [List.length_append, List.length_take, List.length_drop, List.length_singleton]; omega), ?_⟩
        rw [mkS_app]
        walk_at "g"
        exact post _ _ _ _ _ _ _ _ (repl _ lc) k5 S5 eg5
      · walk_at "g"
        intro D nD
        have hDg : D ≠ g := (ne_of_none eg5 nD).symm
        have nD0 : D ≠ st := S5.ne nD
        have stable : ∀ H' o, Kp st H5 H' → St K H' st sc ns → H' D = some (.lst o) → ∀ o', St K (upd H' D (.lst o')) st sc ns := fun H' o k6 S e o' => by
          obtain ⟨⟨n, s, es⟩, h1, h3⟩ := S
          exact ⟨⟨n, s, at_upd nD0.symm es⟩, fun H'' k => S5.2.1 _ ((Kp.mut k6 nD).trans k), h3⟩
        refine lcW_list (likeS.map V.str) (fun i H' => Kp st H5 H' ∧ St K H' st sc ns ∧ H' g = some (.lst (likeS.map V.str)) ∧ ∃ gs : List (List Nat), H' D = some (.lst (gs.map fun g => V.str (mkS g))) ∧ (∀ g ∈ gs, g ∈ likeC) ∧ gs.length ≤ i)
          ⟨Kp.new (Kp.refl _ _) nD, St.new S5 nD, at_upd hDg.symm eg5, [], upd_same, (fun g h => nomatch h), Nat.le_refl _⟩ (fun i H' _ h => SqL.of h.2.2.1) ?_ ?_
        · rintro i x H6 hx ⟨k6, S6, eg6, gs, eD, hgs, lgs⟩
          rw [like_eq, List.map_map, List.getElem?_map] at hx
          obtain ⟨lk, hgi, rfl⟩ := Option.map_eq_some_iff.mp hx
          have hm : lk ∈ likeC := List.mem_of_getElem? hgi
          show gName _ (.str (mkS lk)) _ _ _
          walk_at "g"
          refine ⟨_, _, _, rfl, rfl, zw, sign_of (k := d3.toNat) (by omega) at0, ?_⟩
          walk_at "g"
          walk_at "if" <;> intro e2
          · walk_at "g"
            refine ⟨_, eD, by rw [List.length_map]; have := (List.getElem?_eq_some_iff.mp hgi).1; exact small1000 (by have : likeC.length = 7 := rfl; omega), Kp.mut k6 nD, stable _ _ k6 S6 eD _, at_upd hDg.symm eg6, gs ++ [lk], ?_, ?_, ?_⟩
            · rw [upd_same, List.map_append]; rfl
            · intro y hy
              rcases List.mem_append.mp hy with z | z
              · exact hgs y z
              · rw [List.mem_singleton.mp z]; exact hm
            · rw [List.length_append, List.length_singleton]; omega
          · exact ⟨k6, S6, eg6, gs, eD, hgs, by omega⟩
        · rintro H6 ⟨k6, S6, eg6, gs, eD, hgs, lgs⟩
          have k7 := k5.trans k6
          clear k6 k5 stable
          walk_at "g"
          walk_at "if" <;> intro e2
          · rw [List.length_map] at e2
            obtain ⟨g0, gr, rfl⟩ : ∃ g0 gr, gs = g0 :: gr := by
              cases gs with
              | nil => simp at e2
              | cons a r => exact ⟨a, r, rfl⟩
            have hg0 : g0 ∈ likeC := hgs g0 (List.mem_cons_self ..)
            have l0 : 1 ≤ g0.length ∧ g0.length ≤ 3 ∧ ∀ c ∈ g0, Let c := by
              have : ∀ g ∈ likeC, 1 ≤ g.length ∧ g.length ≤ 3 ∧ ∀ c ∈ g, 97 ≤ c ∧ c ≤ 122 := by decide
              exact this g0 hg0
            walk_at "g"
            rw [cut_lo d30]
            refine g_ixL (SqL.of eD) (atI_nat (j := 0) rfl) ?_
            walk_at "g"
            refine ⟨mkS g0, rfl, szl _ (by omega), fun l nl => ?_⟩
            walk_at "g"
            refine ⟨st, sc, l, ns, g0, rfl, St.new S6 nl, S6.ne nl, by rw [upd_same, mkS_list], l0.1, by omega, fun H8 c k8 S8 hc => ?_⟩
            have eg8 : H8 g = some (.lst (likeS.map V.str)) := k8 _ _ hg (at_upd (ne_of_none eg6 nl) eg6)
            have k9 : Kp st H H8 := (k7.new nl).trans k8
            refine ⟨_, mkS [c], rfl, rfl, by rw [mkS_len, mkS_len]; exact sz (by simp only [List.length_take, List.length_singleton]; omega), ?_⟩
            rw [mkS_app]
            walk_at "g"
            rw [cut_hi (show 0 ≤ d3 + 1 by omega)]
            refine ⟨_, _, rfl, rfl, by rw [mkS_len, mkS_len]; exact sz (by simp only [List.length_append, List.length_take, List.length_drop, List.length_singleton]; omega), ?_⟩
            rw [mkS_app]
            walk_at "g"
            exact post _ _ _ _ _ _ _ _ (repl _ (l0.2.2 c hc)) k9 S8 eg8
          · walk_at "g"
            exact post _ _ _ _ _ _ _ _ ww k7 S6 eg6
    · rintro σ' H2 ⟨w, y4, y5, y6, y7, y8, y9, rfl, ww, k2, S2, eg2⟩
      walk_at "g"
      exact q _ _ k2 S2 ww

end
end K61

namespace K61
open PySem PySem.Spec PyProof.Rows L2 Go
set_option maxHeartbeats 8000000
local macro_rules | `(tactic| walk_at "ne") => `(tactic| first
  | assumption
  | (refine Ne.symm ?_; assumption)
  | exact (Go.free_upd (by assumption)).2
  | exact (Go.free_upd (by assumption)).2.symm
  | exact Go.ne_fr (by assumption) (by walk_at "hp")
  | exact (Go.ne_fr (by assumption) (by walk_at "hp")).symm)
local macro_rules | `(tactic| walk_at "fr") => `(tactic| first
  | assumption
  | exact (Go.free_upd (by assumption)).1
  | exact (Go.free_upd (Go.free_upd (by assumption)).1).1
  | exact Same.free (by assumption) (by walk_at "fr"))
local macro_rules | `(tactic| walk_at "hp") => `(tactic| first
  | assumption
  | with_reducible exact upd_same
  | ((with_reducible show upd _ _ _ _ = _); exact Go.at_upd (by walk_at "ne") (by walk_at "hp"))
  | exact (by assumption : Same _ _) _ _ (by walk_at "hp")
  | exact (by assumption : Go.Kp _ _ _) _ _ (by walk_at "ne") (by walk_at "hp"))
local macro_rules | `(tactic| walk_at "sq") => `(tactic| first
  | assumption
  | ((with_reducible show SqL _ (upd _ _ _) _ _); exact (by assumption : ∀ o, SqL _ (upd _ _ o) _ _) _)
  | ((with_reducible show SqL _ _ _ _); exact SqL.of (by walk_at "hp"))
  | ((with_reducible show SqT _ _ _ _); exact SqT.of (by walk_at "hp"))
  | ((with_reducible show SqL _ (upd _ _ _) _ _); exact Go.sqL_new (by walk_at "fr") (by walk_at "sq"))
  | ((with_reducible show SqT _ (upd _ _ _) _ _); exact Go.sqT_new (by walk_at "fr") (by walk_at "sq"))
  | ((with_reducible show SqL _ (upd _ _ _) _ _); exact Go.sqL_ne (by walk_at "ne") (by walk_at "sq"))
  | exact Go.sqL_same (by assumption) (by walk_at "sq")
  | exact Go.sqT_same (by assumption) (by walk_at "sq")
  | exact Go.sqL_kp (by assumption) (by walk_at "ne") (by walk_at "sq")
  | exact Go.sqT_kp (by assumption) (by walk_at "ne") (by walk_at "sq"))
local macro_rules | `(tactic| walk_at "ci") => `(tactic| first
  | exact .inr ⟨by decide, by decide⟩
  | exact .inl ⟨by decide, by decide⟩
  | exact ⟨by decide, by decide, by decide⟩
  | decide
  | omega
  | exact ⟨by omega, by omega⟩
  | exact .inl ⟨by omega, by omega⟩
  | exact .inr ⟨by omega, by omega⟩)
local macro_rules | `(tactic| walk_at "g0") => `(tactic| first
  | with_reducible refine Go.g_seq ?_
  | ((with_reducible show tVar _ _ _ _); refine ⟨_, rfl, ?_⟩)
  | with_reducible refine Go.g_c ?_
  | with_reducible refine Go.g_op ?_
  | with_reducible refine Go.g_asg ?_
  | with_reducible refine Go.g_name ?_
  | with_reducible refine Go.g_cons ?_
  | with_reducible refine Go.g_lst ?_
  | with_reducible refine Go.g_tup ?_
  | with_reducible refine Go.g_for ?_
  | with_reducible refine Go.g_rng1 ?_
  | with_reducible refine Go.g_rng2 ?_
  | with_reducible refine Go.g_rng3 ?_
  | with_reducible refine Go.g_list ?_
  | with_reducible refine Go.g_itup ?_
  | with_reducible refine Go.g_lc ?_
  | with_reducible refine Go.g_nil ?_
  | with_reducible refine Go.g_cb ?_
  | with_reducible refine Go.g_call ?_
  | with_reducible refine Go.g_ret ?_
  | with_reducible refine Go.g_next ?_
  | with_reducible refine Go.g_drop ?_
  | with_reducible refine Go.g_un ?_
  | with_reducible refine Go.g_test ?_
  | with_reducible refine Go.g_tB ?_
  | with_reducible refine Go.g_ifs ?_
  | with_reducible refine Go.g_if ?_
  | with_reducible refine Go.g_and ?_
  | with_reducible refine Go.g_or ?_
  | with_reducible refine Go.g_not ?_
  | with_reducible refine Go.g_sl ?_
  | with_reducible refine Go.g_nopart ?_
  | with_reducible refine Go.g_part ?_
  | ((with_reducible show ∃ k, V.bl _ = V.bl k ∧ _); refine ⟨_, rfl, ?_⟩)
  | ((with_reducible show ∃ k, V.int _ = V.int k ∧ _); refine ⟨_, rfl, ?_⟩)
  | with_reducible refine Go.g_bm ?_
  | with_reducible refine Go.g_yes ?_
  | ((with_reducible show rI0 _ _ _ _ _); refine ⟨_, _, rfl, rfl, ?_⟩)
  | ((with_reducible show rI _ _ _ _ _ _); refine ⟨_, _, rfl, rfl, ?_, ?_⟩; (focus walk_at "ci"))
  | ((with_reducible show rU _ _ _ _); refine ⟨_, rfl, ?_⟩)
  | ((with_reducible show rEq _ _ _ _); refine ⟨rfl, ?_⟩)
  | ((with_reducible show rNe _ _ _ _); refine ⟨rfl, ?_⟩)
  | ((with_reducible show rIxL _ _ _ _ _); refine Go.g_ixL (by walk_at "sq") (by rfl) ?_)
  | ((with_reducible show rIxT _ _ _ _ _); refine Go.g_ixT (by walk_at "sq") (by rfl) ?_)
  | ((with_reducible show rSetL _ _ _ _ _); refine Go.g_setL (by walk_at "hp") (by rfl) ?_)
  | ((with_reducible show ∃ p ys, [V.ref _] = [V.ref p] ∧ (SqL _ _ _ _ ∨ SqT _ _ _ _) ∧ _); refine ⟨_, _, rfl, .inl (by walk_at "sq"), ?_⟩)
  | ((with_reducible show (∃ i, [V.int _] = [V.int i] ∧ _) ∨ _); refine .inl ⟨_, rfl, ?_⟩)
  | ((with_reducible show ∃ (c : Nat) (z : Str), V.str _ = V.str ⟨#[c]⟩ ∧ V.str _ = V.str z ∧ _); refine ⟨_, _, rfl, rfl, ?_⟩)
  | ((with_reducible show ∃ x : Str, [V.str _] = [V.str x] ∧ Str.length x = 1 ∧ _); refine ⟨_, rfl, rfl, ?_⟩)
  | ((with_reducible show ∃ z : Str, [V.str _] = [V.str z] ∧ Str.length z ≤ sizeLine ∧ _); refine ⟨_, rfl, by assumption, ?_⟩)
  | ((with_reducible show rSlS _ _ _ _ _); refine ⟨_, rfl, by assumption, ?_⟩)
  | ((with_reducible show wipe _ _ = wipe _ _ ∧ _); refine ⟨rfl, ?_⟩)
  | ((with_reducible show if true = true then _ else _); refine iteT ?_)
  | ((with_reducible show if false = true then _ else _); refine iteF ?_)
  | ((with_reducible show ∃ a, V.ref _ = V.ref a ∧ (∃ xs, SqL _ _ a xs) ∧ _); refine ⟨_, rfl, ⟨_, by walk_at "sq"⟩, ?_⟩)
  | ((with_reducible show ∃ a, V.ref _ = V.ref a ∧ (∃ xs, SqT _ _ a xs) ∧ _); refine ⟨_, rfl, ⟨_, by walk_at "sq"⟩, ?_⟩)
  | ((with_reducible show ∃ j : Int, [V.int _] = [V.int j] ∧ _ ≤ j ∧ j < _ ∧ _); refine ⟨_, rfl, by omega, by omega, ?_⟩)
  | ((with_reducible show ∃ i j : Int, [V.int _, V.int _] = [V.int i, V.int j] ∧ (_ ≤ i ∧ i < _ ∧ _ ≤ j ∧ j < _) ∧ _); refine ⟨_, _, rfl, ⟨by omega, by omega, by omega, by omega⟩, ?_⟩)
  | ((with_reducible show ∃ i j : Int, [V.int _, V.int _] = [V.int i, V.int j] ∧ _); refine ⟨_, _, rfl, ?_⟩)
  | ((with_reducible show _ ≤ sizeLine ∧ _); refine ⟨by first | decide | (simp only [List.length_cons, List.length_nil]; decide), ?_⟩))
local macro_rules | `(tactic| walk_at "g1") => `(tactic| first | walk_at "g0" | with_reducible refine Go.g_sub ?_)
local macro_rules | `(tactic| walk_at "g") => `(tactic| repeat walk_at "g1")
local macro_rules | `(tactic| walk_at "v") => `(tactic| repeat walk_at "g0")
local macro_rules | `(tactic| walk_at "if") => `(tactic| first
  | with_reducible refine @Go.g_itd _ _ _ _ ?_ ?_
  | with_reducible refine @Go.g_itnd _ _ _ _ ?_ ?_
  | with_reducible refine Go.g_ite ?_ ?_)

section
variable {P : Program} {w : World} {K : PySem.W.Frag} {mg : Str → Option Value} {base : Heap}
def sp_law (K : PySem.W.Frag) : Sp := fun vs H Q _ => ∃ (sc : Addr) (ns : List Int), vs = [.ref sc] ∧ ((∃ o, H sc = some (.frz o (.lst (ns.map V.int)))) ∨ ∀ H', SqL K H' sc (ns.map V.int)) ∧ ns.length ≤ 63 ∧ ∀ H', Q (.bl true) H'
theorem law_start {K : PySem.W.Frag} {H : Hp} {a : Addr} {ns : List Int} (hl : ns.length ≤ 63) (hO : Only H) (hS : SqL K H a (ns.map V.int)) : sp_law K [.ref a] H (fun v _ => v = .bl true) fun _ _ _ => False := by
  refine ⟨a, ns, rfl, ?_, hl, fun _ => rfl⟩
  rcases hS with (h | ⟨o, h⟩) | h
  · rcases hO a with z | ⟨o, xs, z⟩
    · rw [h] at z; cases z
    · rw [h] at z; cases z
  · exact .inl ⟨o, h⟩
  · exact .inr fun H' => .inr h
theorem log_small {i : Int} (h0 : 0 ≤ i) (h : i ≤ 1000) : i.natAbs.log2 < 1920 := by
  have : i.natAbs.log2 ≤ i.natAbs := Nat.log2_le_self _
  omega
theorem ok_law (T : Txt K mg) : FnOk P w K mg base CX0 4 T.a_law T.fd_law ["script"] (sp_law K) := by
  refine T.F_law.ok sc_law (fun vs H Q E h => ?_) (fun cdv A outer s H vs Q E hr h => ?_)
  · obtain ⟨sc, ns, rfl, _⟩ := h; rfl
  · obtain ⟨sc, ns, rfl, hS, hlen, q⟩ := h
    refine ⟨_, pss_cons (ps_set (i := 1) sc_law.nd rfl (.inl rfl) (pe_lst (pa_cons pe_int (pa_cons pe_int pa_nil))))
      (pss_cons (ps_for PassesOwn.never rfl (pi_range1 (by rfl) T.n_range (pa_cons pe_int pa_nil)) (pg_name (i := 2) sc_law.nd rfl (.inl rfl))
        (pss_cons (ps_set (i := 3) sc_law.nd rfl (.inl rfl) (pe_call (ok__law_word T) (hr.mono (by decide)) (by rfl) T.g__law_word T.F__law_word.kp T.b__law_word .nil pass0 (pa_cons (pv 1) (pa_cons (pv 0) pa_nil))))
        (pss_cons (ps_set (i := 4) sc_law.nd rfl (.inl rfl) (pe_ix ix_list (pe_lst (pa_cons (pe_call (ok__law_word T) (hr.mono (by decide)) (by rfl) T.g__law_word T.F__law_word.kp T.b__law_word .nil pass0 (pa_cons (pv 1) (pa_cons (pv 0) pa_nil))) (pa_cons (pv 3) (pa_cons (pe_call (ok__law_close T) hr (by rfl) T.g__law_close T.F__law_close.kp T.b__law_close .nil pass0 (pa_cons (pv 1) (pa_cons (pv 0) (pa_cons (pv 3) pa_nil)))) pa_nil)))) (pe_callB (call_min2 rfl) (by rfl) T.n_min (by decide +kernel) (pa_cons pe_int (pa_cons (pe_call (ok__law_draw T) (hr.mono (by decide)) (by rfl) T.g__law_draw T.F__law_draw.kp T.b__law_draw .nil pass0 (pa_cons (pv 1) (pa_cons (pv 0) (pa_cons pe_int pa_nil)))) pa_nil))) (fun _ _ => rfl)))
        (pss_cons (ps_set (i := 5) sc_law.nd rfl (.inl rfl) (pe_callB SkE.call_repr_int (by rfl) T.n_repr (by decide +kernel) (pa_cons (pe_call (ok__law_distance T) (hr.mono (by decide)) (by rfl) T.g__law_distance T.F__law_distance.kp T.b__law_distance .nil pass0 (pa_cons (pv 3) (pa_cons (pv 4) pa_nil))) pa_nil)))
        (pss_one (ps_if (PW.pt (pw_or (pt_cmpR op_ne (pe_callB SkE.call_repr_int (by rfl) T.n_repr (by decide +kernel) (pa_cons (pe_call (ok_distance T) hr (by rfl) T.g_distance T.F_distance.kp T.b_distance .nil pass0 (pa_cons (pv 3) (pa_cons (pv 4) pa_nil))) pa_nil)) (pv 5) (nomark _)) (pw_or1 (pt_cmpR op_ne (pe_callB SkE.call_repr_int (by rfl) T.n_repr (by decide +kernel) (pa_cons (pe_call (ok_distance T) hr (by rfl) T.g_distance T.F_distance.kp T.b_distance .nil pass0 (pa_cons (pv 4) (pa_cons (pv 3) pa_nil))) pa_nil)) (pv 5) (nomark _)))))
          (pss_one (ps_ret pe_bl))
          (pss_nil)))))))
      (pss_one (ps_ret pe_bl))), ?_⟩
    walk_at "g"
    intro st nst
    have S0 : St K (upd H st (.lst [.int 0, .int 0])) st sc ns := by
      refine ⟨⟨0, 0, upd_same⟩, fun H' k => ?_, hlen⟩
      rcases hS with ⟨o, h⟩ | h
      · have hne : sc ≠ st := ne_of_none h nst
        exact .inl (.inr ⟨o, k _ _ hne (at_upd hne h)⟩)
      · exact h H'
    clear hS
    walk_at "g"
    refine forW_range (fun i σ' H' => ∃ (y2 y3 y4 y5 : Option V), σ' = [some (.ref sc), some (.ref st), y2, y3, y4, y5] ∧ St K H' st sc ns) ⟨_, _, _, _, rfl, S0⟩ ?_ ?_
    · rintro i σ' H1 hi ⟨y2, y3, y4, y5, rfl, S1⟩
      walk_at "g"
      refine ⟨st, sc, ns, rfl, S1, fun H2 w1 k2 S2 W1 => ?_⟩
      walk_at "g"
      refine ⟨st, sc, ns, rfl, S2, fun H3 w2 k3 S3 W2 => ?_⟩
      walk_at "g"
      refine ⟨st, sc, ns, w1, rfl, S3, W1, fun H4 w3 k4 S4 W3 => ?_⟩
      walk_at "g"
      intro l nl
      walk_at "g"
      refine ⟨st, sc, ns, _, rfl, St.new S4 nl, by decide, by decide, fun H5 d k5 S5 d0 d1 => ?_⟩
      have el : H5 l = some (.lst [.str (mkS w2), .str (mkS w1), .str (mkS w3)]) := k5 _ _ (S4.ne nl) upd_same
      walk_at "g"
      have hat : ∃ wo, Wd wo ∧ atI [V.str (mkS w2), .str (mkS w1), .str (mkS w3)] (if d < 2 then d else 2) = some (.str (mkS wo)) := by
        by_cases hd : d < 2
        · rw [if_pos hd]
          have : d = 0 ∨ d = 1 := by omega
          rcases this with rfl | rfl
          · exact ⟨w2, W2, rfl⟩
          · exact ⟨w1, W1, rfl⟩
        · rw [if_neg hd]; exact ⟨w3, W3, rfl⟩
      obtain ⟨wo, WO, ew⟩ := hat
      refine g_ixL (SqL.of el) ew ?_
      have b1 := dd_bounds _ w1 wo (Nat.le_refl _)
      have b2 := dd_bounds _ wo w1 (Nat.le_refl _)
      have l1 := W1.2.1
      have l2 := WO.2.1
      have ec := dd_comm _ wo w1 (Nat.le_refl _)
      walk_at "g"
      refine ⟨w1, wo, rfl, l1, l2, W1.2.2, WO.2.2, fun H6 s6 => ?_⟩
      walk_at "g"
      refine ⟨_, rfl, log_small (by omega) (by omega), ?_⟩
      walk_at "g"
      refine ⟨w1, wo, rfl, l1, l2, fun H7 s7 => ?_⟩
      walk_at "g"
      refine ⟨_, rfl, log_small (by omega) (by omega), ?_⟩
      walk_at "g"
      walk_at "if" <;> intro e1
      · exact (e1 rfl).elim
      walk_at "g"
      refine ⟨wo, w1, rfl, l2, l1, fun H8 s8 => ?_⟩
      walk_at "g"
      refine ⟨_, rfl, log_small (by omega) (by omega), ?_⟩
      rw [ec]
      walk_at "g"
      walk_at "if" <;> intro e2
      · exact (e2 rfl).elim
      walk_at "g"
      refine ⟨_, _, _, _, rfl, ?_⟩
      exact S5.same (s6.trans (s7.trans s8))
    · rintro σ' H1 ⟨y2, y3, y4, y5, rfl, S1⟩
      walk_at "g"
      exact q _

end
end K61

namespace K61
open PySem PySem.Spec PyProof.Rows L2 Go
set_option maxHeartbeats 8000000
theorem all_end {P : Program} {w : World} {K : PySem.W.Frag} {h : Heap} {mg : Str → Option Value} {fa : Addr} (X : K.In h) (G : h.Ns mainGlobals mg) (hfa : mg "law" = some (.ref fa))
    {f0 : Addr} {od0 an0 : Option Addr} {sl0 : Array (Option Value)} {oc0 kV0 dc0 pm0 cd0 ct0 : Value}
    (a0 : PySem.W.nsIn K mainGlobals "turn_cost" = some (some (.ref f0))) (l0 : K.lookup f0 = some ⟨oc0, od0, .func (PySem.W.fnOf "turn_cost" "turn_cost" (defArgs s_turn_cost) (defBody s_turn_cost) (defScope s_turn_cost) .none kV0 dc0 pm0 an0 cd0 ct0), sl0⟩) (c0 : PySem.W.codeIn K cd0 "turn_cost" = true) (k0 : PySem.W.keepIn K (.ref f0) = true)
    {f1 : Addr} {od1 an1 : Option Addr} {sl1 : Array (Option Value)} {oc1 kV1 dc1 pm1 cd1 ct1 : Value}
    (a1 : PySem.W.nsIn K mainGlobals "_law_draw" = some (some (.ref f1))) (l1 : K.lookup f1 = some ⟨oc1, od1, .func (PySem.W.fnOf "_law_draw" "_law_draw" (defArgs s__law_draw) (defBody s__law_draw) (defScope s__law_draw) .none kV1 dc1 pm1 an1 cd1 ct1), sl1⟩) (c1 : PySem.W.codeIn K cd1 "_law_draw" = true) (k1 : PySem.W.keepIn K (.ref f1) = true)
    {f2 : Addr} {od2 an2 : Option Addr} {sl2 : Array (Option Value)} {oc2 kV2 dc2 pm2 cd2 ct2 : Value}
    (a2 : PySem.W.nsIn K mainGlobals "_law_turn" = some (some (.ref f2))) (l2 : K.lookup f2 = some ⟨oc2, od2, .func (PySem.W.fnOf "_law_turn" "_law_turn" (defArgs s__law_turn) (defBody s__law_turn) (defScope s__law_turn) .none kV2 dc2 pm2 an2 cd2 ct2), sl2⟩) (c2 : PySem.W.codeIn K cd2 "_law_turn" = true) (k2 : PySem.W.keepIn K (.ref f2) = true)
    {f3 : Addr} {od3 an3 : Option Addr} {sl3 : Array (Option Value)} {oc3 kV3 dc3 pm3 cd3 ct3 : Value}
    (a3 : PySem.W.nsIn K mainGlobals "table" = some (some (.ref f3))) (l3 : K.lookup f3 = some ⟨oc3, od3, .func (PySem.W.fnOf "table" "table" (defArgs s_table) (defBody s_table) (defScope s_table) .none kV3 dc3 pm3 an3 cd3 ct3), sl3⟩) (c3 : PySem.W.codeIn K cd3 "table" = true) (k3 : PySem.W.keepIn K (.ref f3) = true)
    {f4 : Addr} {od4 an4 : Option Addr} {sl4 : Array (Option Value)} {oc4 kV4 dc4 pm4 cd4 ct4 : Value}
    (a4 : PySem.W.nsIn K mainGlobals "_law_pick" = some (some (.ref f4))) (l4 : K.lookup f4 = some ⟨oc4, od4, .func (PySem.W.fnOf "_law_pick" "_law_pick" (defArgs s__law_pick) (defBody s__law_pick) (defScope s__law_pick) .none kV4 dc4 pm4 an4 cd4 ct4), sl4⟩) (c4 : PySem.W.codeIn K cd4 "_law_pick" = true) (k4 : PySem.W.keepIn K (.ref f4) = true)
    {f5 : Addr} {od5 an5 : Option Addr} {sl5 : Array (Option Value)} {oc5 kV5 dc5 pm5 cd5 ct5 : Value}
    (a5 : PySem.W.nsIn K mainGlobals "_law_word" = some (some (.ref f5))) (l5 : K.lookup f5 = some ⟨oc5, od5, .func (PySem.W.fnOf "_law_word" "_law_word" (defArgs s__law_word) (defBody s__law_word) (defScope s__law_word) .none kV5 dc5 pm5 an5 cd5 ct5), sl5⟩) (c5 : PySem.W.codeIn K cd5 "_law_word" = true) (k5 : PySem.W.keepIn K (.ref f5) = true)
    {f6 : Addr} {od6 an6 : Option Addr} {sl6 : Array (Option Value)} {oc6 kV6 dc6 pm6 cd6 ct6 : Value}
    (a6 : PySem.W.nsIn K mainGlobals "_law_distance" = some (some (.ref f6))) (l6 : K.lookup f6 = some ⟨oc6, od6, .func (PySem.W.fnOf "_law_distance" "_law_distance" (defArgs s__law_distance) (defBody s__law_distance) (defScope s__law_distance) .none kV6 dc6 pm6 an6 cd6 ct6), sl6⟩) (c6 : PySem.W.codeIn K cd6 "_law_distance" = true) (k6 : PySem.W.keepIn K (.ref f6) = true)
    {f7 : Addr} {od7 an7 : Option Addr} {sl7 : Array (Option Value)} {oc7 kV7 dc7 pm7 cd7 ct7 : Value}
    (a7 : PySem.W.nsIn K mainGlobals "distance" = some (some (.ref f7))) (l7 : K.lookup f7 = some ⟨oc7, od7, .func (PySem.W.fnOf "distance" "distance" (defArgs s_distance) (defBody s_distance) (defScope s_distance) .none kV7 dc7 pm7 an7 cd7 ct7), sl7⟩) (c7 : PySem.W.codeIn K cd7 "distance" = true) (k7 : PySem.W.keepIn K (.ref f7) = true)
    {f8 : Addr} {od8 an8 : Option Addr} {sl8 : Array (Option Value)} {oc8 kV8 dc8 pm8 cd8 ct8 : Value}
    (a8 : PySem.W.nsIn K mainGlobals "_law_close" = some (some (.ref f8))) (l8 : K.lookup f8 = some ⟨oc8, od8, .func (PySem.W.fnOf "_law_close" "_law_close" (defArgs s__law_close) (defBody s__law_close) (defScope s__law_close) .none kV8 dc8 pm8 an8 cd8 ct8), sl8⟩) (c8 : PySem.W.codeIn K cd8 "_law_close" = true) (k8 : PySem.W.keepIn K (.ref f8) = true)
    {f9 : Addr} {od9 an9 : Option Addr} {sl9 : Array (Option Value)} {oc9 kV9 dc9 pm9 cd9 ct9 : Value}
    (a9 : PySem.W.nsIn K mainGlobals "law" = some (some (.ref f9))) (l9 : K.lookup f9 = some ⟨oc9, od9, .func (PySem.W.fnOf "law" "law" (defArgs s_law) (defBody s_law) (defScope s_law) .none kV9 dc9 pm9 an9 cd9 ct9), sl9⟩) (c9 : PySem.W.codeIn K cd9 "law" = true) (k9 : PySem.W.keepIn K (.ref f9) = true)
    (z0 : PySem.W.nsIn K mainGlobals "int" = some none)
    (z1 : PySem.W.nsIn K mainGlobals "len" = some none)
    (z2 : PySem.W.nsIn K mainGlobals "list" = some none)
    (z3 : PySem.W.nsIn K mainGlobals "min" = some none)
    (z4 : PySem.W.nsIn K mainGlobals "ord" = some none)
    (z5 : PySem.W.nsIn K mainGlobals "range" = some none)
    (z6 : PySem.W.nsIn K mainGlobals "repr" = some none)
    {gL : Addr} {dL : Option Addr} {nL : Nat} {sL : Array (Option Value)} {t0 t1 t2 t3 t4 t5 t6 : Tok} (aL : PySem.W.nsIn K mainGlobals "LIKE" = some (some (.ref gL))) (lL : K.lookup gL = some ⟨.type "tuple", dL, .seq #[.str "bp" t0, .str "ckq" t1, .str "dt" t2, .str "fvw" t3, .str "iy" t4, .str "mn" t5, .str "sz" t6] nL, sL⟩)
    : ∃ fd : FuncData, (∀ (s : Shared) (v : Value), BindsTo s fd ⟨[v], []⟩ [("script", v)]) ∧ ∀ base : Heap, K.In base → base.Ns mainGlobals mg → FnOk P w K mg base CX0 4 fa fd ["script"] (sp_law K) := by
  have e := hfa.symm.trans (PySem.W.mg_of X G a9)
  cases e
  have F0 := fun_mk (st := s_turn_cost) l0 c0 k0
  have F1 := fun_mk (st := s__law_draw) l1 c1 k1
  have F2 := fun_mk (st := s__law_turn) l2 c2 k2
  have F3 := fun_mk (st := s_table) l3 c3 k3
  have F4 := fun_mk (st := s__law_pick) l4 c4 k4
  have F5 := fun_mk (st := s__law_word) l5 c5 k5
  have F6 := fun_mk (st := s__law_distance) l6 c6 k6
  have F7 := fun_mk (st := s_distance) l7 c7 k7
  have F8 := fun_mk (st := s__law_close) l8 c8 k8
  have F9 := fun_mk (st := s_law) l9 c9 k9
  exact ⟨PySem.W.fnOf "law" "law" (defArgs s_law) (defBody s_law) (defScope s_law) .none kV9 dc9 pm9 an9 cd9 ct9, fun s v => .of_eq rfl, fun base _ _ => ok_law (P := P) (w := w) (base := base) { a_turn_cost := f0, fd_turn_cost := _, F_turn_cost := F0, b_turn_cost := F0.binds (ps := ["one", "other"]) (fun _ _ _ _ _ _ us hl => match us, hl with | [_, _], _ => rfl), g_turn_cost := PySem.W.mg_of X G a0, a__law_draw := f1, fd__law_draw := _, F__law_draw := F1, b__law_draw := F1.binds (ps := ["state", "script", "size"]) (fun _ _ _ _ _ _ us hl => match us, hl with | [_, _, _], _ => rfl), g__law_draw := PySem.W.mg_of X G a1, a__law_turn := f2, fd__law_turn := _, F__law_turn := F2, b__law_turn := F2.binds (ps := ["one", "other"]) (fun _ _ _ _ _ _ us hl => match us, hl with | [_, _], _ => rfl), g__law_turn := PySem.W.mg_of X G a2, a_table := f3, fd_table := _, F_table := F3, b_table := F3.binds (ps := ["one", "other"]) (fun _ _ _ _ _ _ us hl => match us, hl with | [_, _], _ => rfl), g_table := PySem.W.mg_of X G a3, a__law_pick := f4, fd__law_pick := _, F__law_pick := F4, b__law_pick := F4.binds (ps := ["state", "script", "items"]) (fun _ _ _ _ _ _ us hl => match us, hl with | [_, _, _], _ => rfl), g__law_pick := PySem.W.mg_of X G a4, a__law_word := f5, fd__law_word := _, F__law_word := F5, b__law_word := F5.binds (ps := ["state", "script"]) (fun _ _ _ _ _ _ us hl => match us, hl with | [_, _], _ => rfl), g__law_word := PySem.W.mg_of X G a5, a__law_distance := f6, fd__law_distance := _, F__law_distance := F6, b__law_distance := F6.binds (ps := ["one", "other"]) (fun _ _ _ _ _ _ us hl => match us, hl with | [_, _], _ => rfl), g__law_distance := PySem.W.mg_of X G a6, a_distance := f7, fd_distance := _, F_distance := F7, b_distance := F7.binds (ps := ["one", "other"]) (fun _ _ _ _ _ _ us hl => match us, hl with | [_, _], _ => rfl), g_distance := PySem.W.mg_of X G a7, a__law_close := f8, fd__law_close := _, F__law_close := F8, b__law_close := F8.binds (ps := ["state", "script", "word"]) (fun _ _ _ _ _ _ us hl => match us, hl with | [_, _, _], _ => rfl), g__law_close := PySem.W.mg_of X G a8, a_law := fa, fd_law := _, F_law := F9, b_law := F9.binds (ps := ["script"]) (fun _ _ _ _ _ _ us hl => match us, hl with | [_], _ => rfl), g_law := PySem.W.mg_of X G a9, n_int := PySem.W.mg_none_of X G z0, n_len := PySem.W.mg_none_of X G z1, n_list := PySem.W.mg_none_of X G z2, n_min := PySem.W.mg_none_of X G z3, n_ord := PySem.W.mg_none_of X G z4, n_range := PySem.W.mg_none_of X G z5, n_repr := PySem.W.mg_none_of X G z6, a_LIKE := gL, m_LIKE := PySem.W.mg_of X G aL, t_LIKE := fun H => .inr ⟨_, _, _, lL, rfl, rfl, (by show 7 ≤ sizeLine; decide), .cons ⟨t0, rfl⟩ (.cons ⟨t1, rfl⟩ (.cons ⟨t2, rfl⟩ (.cons ⟨t3, rfl⟩ (.cons ⟨t4, rfl⟩ (.cons ⟨t5, rfl⟩ (.cons ⟨t6, rfl⟩ (.nil)))))))⟩ }⟩

end K61
open PySem PySem.W PyProof.Rows
set_option maxHeartbeats 0 in
theorem PySem.Challenge.cw_everycoin_k61_distances_of_words_holds : PySem.Challenge.rw_everycoin_k61_distances_of_words.Holds := by
  w_on; o_law; k_head; (case hw => w_witness2)
  k_fill
  refine L2.walk_of (l := PySem.Challenge.rw_everycoin_k61_distances_of_words) (n := 63) (k := 4) (x := "script") (CX := fun _ => L2.CX0) (sp := fun w => K61.sp_law _) rfl (by decide) rfl ⟨rfl, by decide, by decide⟩ (fun w h Y => PySem.W.kIn_of Y) ?F (fun _ _ a ns hl hO hS => K61.law_start hl hO hS) (fun _ _ _ _ _ h => h)
  case F =>
    intro w mg fa h KX G hmg
    refine' K61.all_end KX G hmg ?a0 ?l0 ?c0 ?k0 ?a1 ?l1 ?c1 ?k1 ?a2 ?l2 ?c2 ?k2 ?a3 ?l3 ?c3 ?k3 ?a4 ?l4 ?c4 ?k4 ?a5 ?l5 ?c5 ?k5 ?a6 ?l6 ?c6 ?k6 ?a7 ?l7 ?c7 ?k7 ?a8 ?l8 ?c8 ?k8 ?a9 ?l9 ?c9 ?k9 ?z0 ?z1 ?z2 ?z3 ?z4 ?z5 ?z6 ?aL ?lL
    (case a0 => k_is); (case l0 => k_is); (case c0 => k_is); (case k0 => k_is); (case a1 => k_is); (case l1 => k_is); (case c1 => k_is); (case k1 => k_is); (case a2 => k_is); (case l2 => k_is); (case c2 => k_is); (case k2 => k_is); (case a3 => k_is); (case l3 => k_is); (case c3 => k_is); (case k3 => k_is); (case a4 => k_is); (case l4 => k_is); (case c4 => k_is); (case k4 => k_is); (case a5 => k_is); (case l5 => k_is); (case c5 => k_is); (case k5 => k_is); (case a6 => k_is); (case l6 => k_is); (case c6 => k_is); (case k6 => k_is); (case a7 => k_is); (case l7 => k_is); (case c7 => k_is); (case k7 => k_is); (case a8 => k_is); (case l8 => k_is); (case c8 => k_is); (case k8 => k_is); (case a9 => k_is); (case l9 => k_is); (case c9 => k_is); (case k9 => k_is); (case z0 => k_is); (case z1 => k_is); (case z2 => k_is); (case z3 => k_is); (case z4 => k_is); (case z5 => k_is); (case z6 => k_is); (case aL => k_is); (case lL => k_is)
