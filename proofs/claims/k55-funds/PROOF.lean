import PyProof.Rows.All
import Wide.All
import OpenK.AllK
import Wide.FinOn
import HandS.ForMost
import HandS.Flt
import HandS.RaiseMore
import HandS.Wide
import HandS.TupAny
import HandS.Codes
import HandS.Conv
import PyProof.ListStr
import KE.SortData
import HandS.Deep
import HandS.SortRule
import HandS.IsInst
import HandS.Style
import PySem.Challenge.RW_everycoin_k55_what_a_fund_may_match
set_option Elab.async false
set_option linter.all false
set_option maxRecDepth 100000
namespace Go
open PySem PySem.Spec PyProof.Rows L2
/-- kept but for st -/
def Kp (st : Addr) (H H' : Hp) : Prop := ∀ b o, b ≠ st → H b = some o → H' b = some o
theorem Kp.refl (st : Addr) (H : Hp) : Kp st H H := fun _ _ _ h => h
theorem Kp.trans {st : Addr} {H H1 H2 : Hp} (a : Kp st H H1) (b : Kp st H1 H2) : Kp st H H2 := fun c o n h => b c o n (a c o n h)
theorem Kp.new {st p : Addr} {H H1 : Hp} {o : HO} (a : Kp st H H1) (h : H1 p = none) : Kp st H (upd H1 p o) := fun b u n e => by
  rw [upd_ne (ne_of_none (a b u n e) h)]; exact a b u n e
theorem Kp.at {st : Addr} {H H1 : Hp} {o : HO} (a : Kp st H H1) : Kp st H (upd H1 st o) := fun b u n e => by
  rw [upd_ne n]; exact a b u n e
theorem Kp.mut {st p : Addr} {H H1 : Hp} {o : HO} (a : Kp st H H1) (h : H p = none) : Kp st H (upd H1 p o) := fun b u n e => by
  rw [upd_ne (ne_of_none e h)]; exact a b u n e
theorem Kp.of_same {st : Addr} {H H1 : Hp} (a : Same H H1) : Kp st H H1 := fun b u _ e => a b u e
theorem Same.new {p : Addr} {H H1 : Hp} {o : HO} (a : Same H H1) (h : H1 p = none) : Same H (upd H1 p o) := fun b u e => by
  rw [upd_ne (ne_of_none (a b u e) h)]; exact a b u e
theorem Same.mut {p : Addr} {H H1 : Hp} {o : HO} (a : Same H H1) (h : H p = none) : Same H (upd H1 p o) := fun b u e => by
  rw [upd_ne (ne_of_none e h)]; exact a b u e
theorem ne_fr {H : Hp} {a b : Addr} {o : HO} (h : H b = none) (e : H a = some o) : a ≠ b := ne_of_none e h
theorem free_upd {H : Hp} {p q : Addr} {o : HO} (h : upd H p o q = none) : H q = none ∧ q ≠ p := by
  by_cases e : q = p
  · rw [e, upd_same] at h; cases h
  · rw [upd_ne e] at h; exact ⟨h, e⟩
theorem at_upd {H : Hp} {p q : Addr} {o : HO} {u : Option HO} (n : q ≠ p) (h : H q = u) : upd H p o q = u := by rw [upd_ne n]; exact h
section
variable {K : PySem.W.Frag} {H H1 : Hp} {a p st : Addr} {o : HO} {xs : List V}
theorem sqL_ext (k : ∀ u, H a = some u → H1 a = some u) (h : SqL K H a xs) : SqL K H1 a xs := by
  rcases h with (h | ⟨o, h⟩) | h
  · exact .inl (.inl (k _ h))
  · exact .inl (.inr ⟨o, k _ h⟩)
  · exact .inr h
theorem sqT_ext (k : ∀ u, H a = some u → H1 a = some u) (h : SqT K H a xs) : SqT K H1 a xs := by
  rcases h with (h | ⟨o, h⟩) | h
  · exact .inl (.inl (k _ h))
  · exact .inl (.inr ⟨o, k _ h⟩)
  · exact .inr h
theorem sqL_new (n : H p = none) (h : SqL K H a xs) : SqL K (upd H p o) a xs := sqL_ext (fun u e => at_upd (ne_of_none e n) e) h
theorem sqT_new (n : H p = none) (h : SqT K H a xs) : SqT K (upd H p o) a xs := sqT_ext (fun u e => at_upd (ne_of_none e n) e) h
theorem sqL_ne (n : a ≠ p) (h : SqL K H a xs) : SqL K (upd H p o) a xs := sqL_ext (fun u e => at_upd n e) h
theorem sqT_ne (n : a ≠ p) (h : SqT K H a xs) : SqT K (upd H p o) a xs := sqT_ext (fun u e => at_upd n e) h
theorem sqL_same (s : Same H H1) (h : SqL K H a xs) : SqL K H1 a xs := sqL_ext (fun u e => s _ _ e) h
theorem sqT_same (s : Same H H1) (h : SqT K H a xs) : SqT K H1 a xs := sqT_ext (fun u e => s _ _ e) h
theorem sqL_kp (s : Kp st H H1) (n : a ≠ st) (h : SqL K H a xs) : SqL K H1 a xs := sqL_ext (fun u e => s _ _ n e) h
theorem sqT_kp (s : Kp st H H1) (n : a ≠ st) (h : SqT K H a xs) : SqT K H1 a xs := sqT_ext (fun u e => s _ _ n e) h
end
theorem atI_some {α : Type} {xs : List α} {i : Int} (h0 : 0 ≤ i) (h1 : i < xs.length) : atI xs i = some (xs[i.toNat]'(by omega)) := by
  obtain ⟨j, rfl⟩ := Int.eq_ofNat_of_zero_le h0
  exact atI_nat (List.getElem?_eq_getElem (by omega))
theorem atI_map {α β : Type} {f : α → β} {xs : List α} {i : Int} (h0 : 0 ≤ i) (h1 : i < xs.length) : atI (xs.map f) i = some (f (xs[i.toNat]'(by omega))) := by
  rw [atI_some h0 (by rw [List.length_map]; exact h1), List.getElem_map]
theorem ixN_some {n : Nat} {i : Int} (h0 : 0 ≤ i) (h1 : i < n) : ixN n i = some i.toNat := by
  unfold ixN; rw [if_pos h0, if_pos h1]
/-- what is frozen stays -/
def Fz (H H' : Hp) : Prop := ∀ b o u, H b = some (.frz o u) → H' b = some (.frz o u)
theorem Fz.refl (H : Hp) : Fz H H := fun _ _ _ h => h
theorem Fz.trans {H H1 H2 : Hp} (a : Fz H H1) (b : Fz H1 H2) : Fz H H2 := fun c o u h => b c o u (a c o u h)
theorem Fz.new {H : Hp} {p : Addr} {o : HO} (h : H p = none) : Fz H (upd H p o) := fun b x u e => at_upd (ne_of_none e h) e
theorem Fz.set {H : Hp} {p : Addr} {o o' : HO} (h : H p = some o) (n : ∀ x u, o ≠ .frz x u) : Fz H (upd H p o') := fun b x u e => at_upd (fun z => by subst z; rw [h] at e; exact n _ _ (Option.some.inj e)) e
theorem Fz.setL {H : Hp} {p : Addr} {xs : List V} {o' : HO} (h : H p = some (.lst xs)) : Fz H (upd H p o') := Fz.set h fun _ _ z => nomatch z
theorem Fz.of_same {H H1 : Hp} (s : Same H H1) : Fz H H1 := fun b o u e => s b _ e
theorem Fz.of_kp {H H1 : Hp} {st : Addr} {xs : List V} (h : H st = some (.lst xs)) (k : Kp st H H1) : Fz H H1 := fun b o u e => k b _ (fun z => by subst z; rw [h] at e; cases e) e
/-- the state of the draws: [turns, rest] at st; the script may be read while what is frozen stays -/
def St (K : PySem.W.Frag) (H : Hp) (st sc : Addr) (ns : List Int) : Prop :=
  (∃ n s : Int, H st = some (.lst [.int n, .int s])) ∧ (∀ H', Fz H H' → SqL K H' sc (ns.map V.int)) ∧ ns.length ≤ 63
section
variable {K : PySem.W.Frag} {H H1 : Hp} {st sc l : Addr} {ns : List Int} {o : HO}
theorem St.to (S : St K H st sc ns) (f : Fz H H1) (e : H1 st = H st) : St K H1 st sc ns := by
  obtain ⟨⟨n, s, h⟩, h1, h3⟩ := S
  exact ⟨⟨n, s, by rw [e]; exact h⟩, fun H' k => h1 _ (f.trans k), h3⟩
theorem St.ne (S : St K H st sc ns) (h : H l = none) : l ≠ st := by
  obtain ⟨⟨n, s, e⟩, _⟩ := S
  exact (ne_of_none e h).symm
theorem St.new (S : St K H st sc ns) (h : H l = none) : St K (upd H l o) st sc ns := S.to (Fz.new h) (upd_ne (S.ne h).symm)
theorem St.same (S : St K H st sc ns) (s : Same H H1) : St K H1 st sc ns := by
  obtain ⟨n, x, e⟩ := S.1
  exact S.to (Fz.of_same s) (by rw [e]; exact s _ _ e)
theorem St.setL (S : St K H st sc ns) {xs : List V} (h : H l = some (.lst xs)) (n : l ≠ st) : St K (upd H l o) st sc ns := S.to (Fz.setL h) (upd_ne n.symm)
theorem St.kp (S : St K H st sc ns) (k : Kp st H H1) (e : ∃ n s : Int, H1 st = some (.lst [.int n, .int s])) : St K H1 st sc ns := by
  obtain ⟨n, s, h⟩ := S.1
  exact ⟨e, fun H' f => S.2.1 _ ((Fz.of_kp h k).trans f), S.2.2⟩
/-- the law's start: the script -/
theorem St.start (hl : ns.length ≤ 63) (hS : (∃ o, H sc = some (.frz o (.lst (ns.map V.int)))) ∨ ∀ H', SqL K H' sc (ns.map V.int)) (n : H st = none) : St K (upd H st (.lst [.int 0, .int 0])) st sc ns := by
  refine ⟨⟨0, 0, upd_same⟩, fun H' f => ?_, hl⟩
  rcases hS with ⟨o, h⟩ | h
  · exact .inl (.inr ⟨o, f _ _ _ (at_upd (ne_of_none h n) h)⟩)
  · exact h H'
end
/-- the promise of a law over a script -/
def spL (K : PySem.W.Frag) : Sp := fun vs H Q _ => ∃ (sc : Addr) (ns : List Int), vs = [.ref sc] ∧ ((∃ o, H sc = some (.frz o (.lst (ns.map V.int)))) ∨ ∀ H', SqL K H' sc (ns.map V.int)) ∧ ns.length ≤ 63 ∧ ∀ H', Q (.bl true) H'
theorem spL_start {K : PySem.W.Frag} {H : Hp} {a : Addr} {ns : List Int} (hl : ns.length ≤ 63) (hO : Only H) (hS : SqL K H a (ns.map V.int)) : spL K [.ref a] H (fun v _ => v = .bl true) fun _ _ _ => False := by
  refine ⟨a, ns, rfl, ?_, hl, fun _ => rfl⟩
  rcases hS with (h | ⟨o, h⟩) | h
  · rcases hO a with z | ⟨o, xs, z⟩
    · rw [h] at z; cases z
    · rw [h] at z; cases z
  · exact .inl ⟨o, h⟩
  · exact .inr fun H' => .inr h
/-! ### one step of a reading -/
section
variable {σ : L2.St} {H : Hp}
theorem g_seq {t u : TS} {D : Ends} (h : t { D with nx := u D } σ H) : tSeq t u D σ H := h
theorem g_asg {te : TE} {g : TG} {D : Ends} (h : te σ H fun x H1 => g x σ H1 D.nx) : tAsg te g D σ H := h
theorem g_name {i : Nat} {v : V} {Q : L2.St → Hp → Prop} (h : Q (σ.set i (some v)) H) : gName i v σ H Q := h
theorem g_sub {to ti : TE} {t : TSet} {v : V} {Q : L2.St → Hp → Prop} (h : to σ H fun o H1 => ti σ H1 fun i H2 => t o i v H2 fun H3 => Q σ H3) : gSub to ti t v σ H Q := h
theorem g_op {r : R2} {ta tb : TE} {Q : VK} (h : ta σ H fun x H1 => tb σ H1 fun y H2 => r x y H2 Q) : tOp r ta tb σ H Q := h
theorem g_un {r : V → Hp → VK → Prop} {ta : TE} {Q : VK} (h : ta σ H fun x H1 => r x H1 Q) : tUn r ta σ H Q := h
theorem g_c {v : V} {Q : VK} (h : Q v H) : tC v σ H Q := h
theorem g_cb {r : List V → Hp → VK → Prop} {t : TA} {Q : VK} (h : t σ H fun vs H1 => r vs H1 Q) : tCB r t σ H Q := h
theorem g_call {sp : Sp} {dvs : List V} {E : XK} {t : TA} {Q : VK} (h : t σ H fun vs H1 => sp (vs ++ dvs) H1 Q E) : tCall sp dvs E t σ H Q := h
theorem g_cons {ta : TE} {tr : TA} {Q : List V → Hp → Prop} (h : ta σ H fun x H1 => tr σ H1 fun xs H2 => Q (x :: xs) H2) : tCons ta tr σ H Q := h
theorem g_nil {Q : List V → Hp → Prop} (h : Q [] H) : tNil σ H Q := h
theorem g_test {t : TE} {Q : Bool → Hp → Prop} (h : t σ H fun x H' => ∃ k, x = .bl k ∧ Q k H') : tTest t σ H Q := h
theorem g_tB {t : TE} {Q : Bool → Hp → Prop} (h : t σ H fun x H' => ∃ k, x = .bl k ∧ Q k H') : tB t σ H Q := h
theorem g_bl {b : Bool} {Q : Bool → Hp → Prop} (h : Q b H) : ∃ k, V.bl b = .bl k ∧ Q k H := ⟨b, rfl, h⟩
theorem g_ifs {c : TT} {t u : TS} {D : Ends} (h : c σ H fun b H1 => if b = true then t D σ H1 else u D σ H1) : tIfS c t u D σ H := h
theorem g_if {c : TT} {t u : TE} {Q : VK} (h : c σ H fun b H1 => if b = true then t σ H1 Q else u σ H1 Q) : tIf c t u σ H Q := h
theorem g_and {t u : TT} {Q : Bool → Hp → Prop} (h : t σ H fun c H1 => if c = true then u σ H1 Q else Q false H1) : tAnd t u σ H Q := h
theorem g_or {t u : TT} {Q : Bool → Hp → Prop} (h : t σ H fun c H1 => if c = true then Q true H1 else u σ H1 Q) : tOr t u σ H Q := h
theorem g_not {t : TT} {Q : Bool → Hp → Prop} (h : t σ H fun c H1 => Q (!c) H1) : tNot t σ H Q := h
theorem g_ret {te : TE} {D : Ends} (h : te σ H D.rt) : tRet te D σ H := h
theorem g_next {D : Ends} (h : D.nx σ H) : tNext D σ H := h
theorem g_drop {te : TE} {D : Ends} (h : te σ H fun _ H1 => D.nx σ H1) : tDrop te D σ H := h
theorem g_sl {r : V → Option Int → Option Int → Hp → VK → Prop} {te : TE} {tl th : TO} {Q : VK} (h : te σ H fun x H1 => tl σ H1 fun l H2 => th σ H2 fun u H3 => r x l u H3 Q) : tSl r te tl th σ H Q := h
theorem g_nopart {Q : Option Int → Hp → Prop} (h : Q none H) : tNoPart σ H Q := h
theorem g_part {t : TE} {Q : Option Int → Hp → Prop} (h : t σ H fun x H1 => ∃ i, x = .int i ∧ Q (some i) H1) : tPart t σ H Q := h
theorem g_int {i : Int} {Q : Int → Hp → Prop} (h : Q i H) : ∃ k, V.int i = .int k ∧ Q k H := ⟨i, rfl, h⟩
theorem g_bm {K : PySem.W.Frag} {T : String} {r : V → List V → Hp → VK → Prop} {to : TE} {t : TA} {Q : VK} (h : to σ H fun x H1 => tyV K T x H1 ∧ t σ H1 fun xs H2 => r x xs H2 Q) : tBM K T r to t σ H Q := h
theorem g_yes {Q : Bool → Hp → Prop} (h : Q true H) : tYes σ H Q := h
theorem g_ixL {K : PySem.W.Frag} {p : Addr} {xs : List V} {i : Int} {v : V} {Q : VK} (h : SqL K H p xs) (e : atI xs i = some v) (q : Q v H) : rIxL K (.ref p) (.int i) H Q := ⟨_, _, _, _, rfl, rfl, h, e, q⟩
theorem g_ixT {K : PySem.W.Frag} {p : Addr} {xs : List V} {i : Int} {v : V} {Q : VK} (h : SqT K H p xs) (e : atI xs i = some v) (q : Q v H) : rIxT K (.ref p) (.int i) H Q := ⟨_, _, _, _, rfl, rfl, h, e, q⟩
theorem g_setL {p : Addr} {xs : List V} {k : Int} {j : Nat} {v : V} {Q : Hp → Prop} (h : H p = some (.lst xs)) (e : ixN xs.length k = some j) (q : Q (upd H p (.lst (xs.set j v)))) : rSetL (.ref p) (.int k) v H Q := ⟨_, _, _, _, rfl, rfl, h, e, q⟩
/-- a for's turns, over what it walks -/
def ForW (J : It) (g : TG) (tb : TS) (D : Ends) (σ : L2.St) (H1 : Hp) : Prop := ∃ W : Nat → Nat → L2.St → Hp → Prop, (∃ m, W 0 m σ H1) ∧ ∀ i m σ H, W i m σ H →
  (J.stop i H ∧ D.nx σ H) ∨ (J.go i H ∧ ∃ N : L2.St → Hp → Prop, (∀ σ' H', N σ' H' → ∃ m', m' < m ∧ W (i + 1) m' σ' H') ∧ ∀ x H', J.yld i H x H' → g x σ H' fun σ2 H2 => tb { D with nx := N, ct := N, bk := D.nx } σ2 H2)
theorem g_for {wi : TI} {g : TG} {tb : TS} {D : Ends} (h : wi σ H fun J H1 => ForW J g tb D σ H1) : tFor wi g tb D σ H := h
theorem g_rng1 {ta : TA} {R : It → Hp → Prop} (h : ta σ H fun vs H1 => ∃ j : Int, vs = [.int j] ∧ -(2 ^ 62) ≤ j ∧ j < 2 ^ 62 ∧ R (Itr 0 j.toNat) H1) : iRng1 ta σ H R := h
theorem g_rng2 {ta : TA} {R : It → Hp → Prop} (h : ta σ H fun vs H1 => ∃ i j : Int, vs = [.int i, .int j] ∧ (-(2 ^ 62) ≤ i ∧ i < 2 ^ 62 ∧ -(2 ^ 62) ≤ j ∧ j < 2 ^ 62) ∧ R (Itr i (j - i).toNat) H1) : iRng2 ta σ H R := h
theorem g_rng3 {ta : TA} {R : It → Hp → Prop} (h : ta σ H fun vs H1 => ∃ (i j c : Int) (n : Nat), vs = [.int i, .int j, .int c] ∧ RgC i j c n ∧ R (Itc i c n) H1) : iRng3 ta σ H R := h
theorem g_list {K : PySem.W.Frag} {tl : TE} {R : It → Hp → Prop} (h : tl σ H fun x H1 => ∃ a, x = .ref a ∧ (∃ xs, SqL K H1 a xs) ∧ R (Itl K a) H1) : iList K tl σ H R := h
theorem g_itup {K : PySem.W.Frag} {tl : TE} {R : It → Hp → Prop} (h : tl σ H fun x H1 => ∃ a, x = .ref a ∧ (∃ xs, SqT K H1 a xs) ∧ R (Itt K a) H1) : iTup K tl σ H R := h
theorem forW_list {K : PySem.W.Frag} {a : Addr} (xs : List V) {g : TG} {tb : TS} {D : Ends} (Pv : Nat → L2.St → Hp → Prop) (h0 : Pv 0 σ H) (hl : ∀ i σ H, i ≤ xs.length → Pv i σ H → SqL K H a xs)
    (hs : ∀ i x σ H, xs[i]? = some x → Pv i σ H → g x σ H fun σ2 H2 => tb { D with nx := Pv (i + 1), ct := Pv (i + 1), bk := D.nx } σ2 H2) (hd : ∀ σ H, Pv xs.length σ H → D.nx σ H) : ForW (Itl K a) g tb D σ H := for_list Pv h0 hl hs hd
theorem forW_tup {K : PySem.W.Frag} {a : Addr} (xs : List V) {g : TG} {tb : TS} {D : Ends} (Pv : Nat → L2.St → Hp → Prop) (h0 : Pv 0 σ H) (hl : ∀ i σ H, i ≤ xs.length → Pv i σ H → SqT K H a xs)
    (hs : ∀ i x σ H, xs[i]? = some x → Pv i σ H → g x σ H fun σ2 H2 => tb { D with nx := Pv (i + 1), ct := Pv (i + 1), bk := D.nx } σ2 H2) (hd : ∀ σ H, Pv xs.length σ H → D.nx σ H) : ForW (Itt K a) g tb D σ H := for_tup Pv h0 hl hs hd
theorem forW_range {lo : Int} {n : Nat} {g : TG} {tb : TS} {D : Ends} (Pv : Nat → L2.St → Hp → Prop) (h0 : Pv 0 σ H)
    (hs : ∀ i σ H, i < n → Pv i σ H → g (.int (lo + i)) σ H fun σ2 H2 => tb { D with nx := Pv (i + 1), ct := Pv (i + 1), bk := D.nx } σ2 H2) (hd : ∀ σ H, Pv n σ H → D.nx σ H) : ForW (Itr lo n) g tb D σ H := for_range Pv h0 hs hd
theorem forW_rangeC {lo c : Int} {n : Nat} {g : TG} {tb : TS} {D : Ends} (Pv : Nat → L2.St → Hp → Prop) (h0 : Pv 0 σ H)
    (hs : ∀ i σ H, i < n → Pv i σ H → g (.int (lo + (i : Nat) * c)) σ H fun σ2 H2 => tb { D with nx := Pv (i + 1), ct := Pv (i + 1), bk := D.nx } σ2 H2) (hd : ∀ σ H, Pv n σ H → D.nx σ H) : ForW (Itc lo c n) g tb D σ H := for_rangeC Pv h0 hs hd
theorem forW_enum {K : PySem.W.Frag} {a : Addr} (xs : List V) {g : TG} {tb : TS} {D : Ends} (Pv : Nat → L2.St → Hp → Prop) (h0 : Pv 0 σ H) (hl : ∀ i σ H, i ≤ xs.length → Pv i σ H → SqL K H a xs)
    (hs : ∀ i x T σ H, xs[i]? = some x → H T = none → Pv i σ H → g (.ref T) σ (upd H T (.tup [.int (i : Nat), x])) fun σ2 H2 => tb { D with nx := Pv (i + 1), ct := Pv (i + 1), bk := D.nx } σ2 H2) (hd : ∀ σ H, Pv xs.length σ H → D.nx σ H) :
    ForW (Ite K a) g tb D σ H := by
  refine ⟨fun i m σ H => m = xs.length - i ∧ i ≤ xs.length ∧ Pv i σ H, ⟨xs.length, by simp, Nat.zero_le _, h0⟩, ?_⟩
  rintro i m σ H ⟨rfl, hi, p⟩
  have q := hl i σ H hi p
  by_cases e : i = xs.length
  · subst e
    exact .inl ⟨⟨xs, q, Nat.le_refl _⟩, hd σ H p⟩
  · have lt : i < xs.length := by omega
    refine .inr ⟨⟨xs, _, q, List.getElem?_eq_getElem lt⟩, Pv (i + 1), fun σ' H' p' => ⟨_, by omega, rfl, lt, p'⟩, ?_⟩
    rintro v H' ⟨T, x, rfl, nT, rfl, at_i⟩
    exact hs i x T σ H (at_i xs q) nT p
/-- a comprehension's turns -/
def LcW (J : It) (g : TG) (tt : TT) (te : TE) (vs : List Nat) (σ : L2.St) (H1 : Hp) (D : Addr) (Qd : Hp → Prop) : Prop := ∃ W : Nat → Nat → Hp → Prop, (∃ m, W 0 m (upd H1 D (.lst []))) ∧ ∀ i m H, W i m H →
  (J.stop i H ∧ Qd H) ∨ (J.go i H ∧ ∃ Nx : Hp → Prop, (∀ H', Nx H' → ∃ m', m' < m ∧ W (i + 1) m' H') ∧ ∀ x H', J.yld i H x H' → g x (wipe σ vs) H' fun σ2 H2 => wipe σ2 vs = wipe σ vs ∧ tt σ2 H2 fun b H3 =>
    if b = true then te σ2 H3 fun y H4 => ∃ acc, H4 D = some (.lst acc) ∧ acc.length < sizeLine ∧ Nx (upd H4 D (.lst (acc ++ [y]))) else Nx H3)
theorem g_lc {wi : TI} {g : TG} {tt : TT} {te : TE} {vs : List Nat} {Q : VK} (h : wi σ H fun J H1 => ∀ D, H1 D = none → LcW J g tt te vs σ H1 D fun H' => Q (.ref D) H') : tLc wi g tt te vs σ H Q := h
theorem lcW_list {K : PySem.W.Frag} {a : Addr} (xs : List V) {g : TG} {tt : TT} {te : TE} {vs : List Nat} {H1 : Hp} {D : Addr} {Qd : Hp → Prop} (Pv : Nat → Hp → Prop) (h0 : Pv 0 (upd H1 D (.lst []))) (hl : ∀ i H, i ≤ xs.length → Pv i H → SqL K H a xs)
    (hs : ∀ i x H, xs[i]? = some x → Pv i H → g x (wipe σ vs) H fun σ2 H2 => wipe σ2 vs = wipe σ vs ∧ tt σ2 H2 fun b H3 =>
      if b = true then te σ2 H3 fun y H4 => ∃ acc, H4 D = some (.lst acc) ∧ acc.length < sizeLine ∧ Pv (i + 1) (upd H4 D (.lst (acc ++ [y]))) else Pv (i + 1) H3) (hd : ∀ H, Pv xs.length H → Qd H) : LcW (Itl K a) g tt te vs σ H1 D Qd := lc_list Pv h0 hl hs hd
theorem lcW_range {lo : Int} {n : Nat} {g : TG} {tt : TT} {te : TE} {vs : List Nat} {H1 : Hp} {D : Addr} {Qd : Hp → Prop} (Pv : Nat → Hp → Prop) (h0 : Pv 0 (upd H1 D (.lst [])))
    (hs : ∀ i H, i < n → Pv i H → g (.int (lo + i)) (wipe σ vs) H fun σ2 H2 => wipe σ2 vs = wipe σ vs ∧ tt σ2 H2 fun b H3 =>
      if b = true then te σ2 H3 fun y H4 => ∃ acc, H4 D = some (.lst acc) ∧ acc.length < sizeLine ∧ Pv (i + 1) (upd H4 D (.lst (acc ++ [y]))) else Pv (i + 1) H3) (hd : ∀ H, Pv n H → Qd H) : LcW (Itr lo n) g tt te vs σ H1 D Qd := lc_range Pv h0 hs hd
/-- a comprehension over a list, no test, an element that changes nothing -/
theorem lcW_pure {K : PySem.W.Frag} {a : Addr} (xs : List V) (f : Nat → V) {g : TG} {te : TE} {vs : List Nat} {H1 : Hp} {D : Addr} {Qd : Hp → Prop} (nD : H1 D = none) (hA : SqL K H1 a xs) (hlen : xs.length ≤ 1000)
    (hs : ∀ i x H (R : VK) (Z : Hp → Prop), xs[i]? = some x → Same H1 H → R (f i) H → g x (wipe σ vs) H fun σ2 H2 => wipe σ2 vs = wipe σ vs ∧ tYes σ2 H2 fun b H3 => if b = true then te σ2 H3 R else Z H3)
    (hd : ∀ H, Same H1 H → H D = some (.lst ((List.range xs.length).map f)) → Qd H) : LcW (Itl K a) g tYes te vs σ H1 D Qd := by
  refine lcW_list xs (fun i H => Same H1 H ∧ H D = some (.lst ((List.range i).map f))) ⟨Same.new (Same.refl H1) nD, upd_same⟩ (fun i H _ h => sqL_same h.1 hA) ?_ (fun H h => hd H h.1 h.2)
  rintro i x H hx ⟨s, e⟩
  have hi : i < xs.length := (List.getElem?_eq_some_iff.mp hx).1
  refine hs i x H _ _ hx s ⟨_, e, by rw [List.length_map, List.length_range]; exact small1000 (by omega), Same.mut s nD, ?_⟩
  rw [upd_same, List.range_succ, List.map_append]; rfl
theorem g_gtup {K : PySem.W.Frag} {a : Addr} {xs : List V} {n : Nat} {t : TGs} {Q : L2.St → Hp → Prop} (h : SqT K H a xs) (e : xs.length = n) (q : t xs σ H Q) : gTup K n t (.ref a) σ H Q := ⟨_, _, rfl, h, e, q⟩
theorem g_enum {K : PySem.W.Frag} {ta : TA} {R : It → Hp → Prop} (h : ta σ H fun vs H1 => ∃ a xs, vs = [.ref a] ∧ SqL K H1 a xs ∧ R (Ite K a) H1) : iEnum K ta σ H R := h
/-- a comprehension over zip of two lists, no test, an element that changes nothing -/
theorem lcW_zip {K : PySem.W.Frag} {a b : Addr} (xs ys : List V) (f : Nat → V) {g : TG} {te : TE} {vs : List Nat} {H1 : Hp} {D : Addr} {Qd : Hp → Prop} (nD : H1 D = none) (hA : SqL K H1 a xs) (hB : SqL K H1 b ys) (hlen : xs.length ≤ 1000) (hle : ys.length = xs.length)
    (hs : ∀ i x y T H (R : VK) (Z : Hp → Prop), xs[i]? = some x → ys[i]? = some y → Same H1 H → H T = none → R (f i) (upd H T (.tup [x, y])) → g (.ref T) (wipe σ vs) (upd H T (.tup [x, y])) fun σ2 H2 => wipe σ2 vs = wipe σ vs ∧ tYes σ2 H2 fun b H3 => if b = true then te σ2 H3 R else Z H3)
    (hd : ∀ H, Same H1 H → H D = some (.lst ((List.range xs.length).map f)) → Qd H) : LcW (Itz K a b) g tYes te vs σ H1 D Qd := by
  refine ⟨fun i m H => m = xs.length - i ∧ i ≤ xs.length ∧ Same H1 H ∧ H D = some (.lst ((List.range i).map f)), ⟨xs.length, by simp, Nat.zero_le _, Same.new (Same.refl H1) nD, upd_same⟩, ?_⟩
  rintro i m H ⟨rfl, hi, s, e⟩
  have qa := sqL_same s hA
  have qb := sqL_same s hB
  by_cases ei : i = xs.length
  · subst ei
    exact .inl ⟨⟨xs, ys, qa, qb, .inl (Nat.le_refl _)⟩, hd H s e⟩
  · have lt : i < xs.length := by omega
    refine .inr ⟨⟨xs, ys, _, _, qa, qb, List.getElem?_eq_getElem lt, List.getElem?_eq_getElem (by omega)⟩, fun H' => i + 1 ≤ xs.length ∧ Same H1 H' ∧ H' D = some (.lst ((List.range (i + 1)).map f)), fun H' p => ⟨_, by omega, rfl, p.1, p.2⟩, ?_⟩
    rintro v H' ⟨T, x, y, rfl, nT, rfl, hx, hy⟩
    have nDT : D ≠ T := ne_of_none e nT
    refine hs i x y T H _ _ (hx xs qa) (hy ys qb) s nT ⟨_, at_upd nDT e, by rw [List.length_map, List.length_range]; exact small1000 (by omega), by omega, Same.mut (Same.new s nT) nD, ?_⟩
    rw [upd_same, List.range_succ, List.map_append]; rfl
theorem g_zip {K : PySem.W.Frag} {ta : TA} {R : It → Hp → Prop} (h : ta σ H fun vs H1 => ∃ a b xs ys, vs = [.ref a, .ref b] ∧ SqL K H1 a xs ∧ SqL K H1 b ys ∧ R (Itz K a b) H1) : iZip K ta σ H R := h
/-- while, by a word with its number -/
theorem whileW {c : TT} {tb : TS} {D : Ends} (Pv : Nat → L2.St → Hp → Prop) {m0 : Nat} (h0 : Pv m0 σ H)
    (hs : ∀ m σ H, Pv m σ H → c σ H fun b H1 => if b = true then ∃ N : L2.St → Hp → Prop, (∀ σ' H', N σ' H' → ∃ m', m' < m ∧ Pv m' σ' H') ∧ tb { D with nx := N, ct := N, bk := D.nx } σ H1 else D.nx σ H1) : tWhile c tb D σ H :=
  ⟨Pv, ⟨m0, h0⟩, hs⟩
theorem g_lst {t : TA} {Q : VK} (h : t σ H fun xs H1 => xs.length ≤ sizeLine ∧ ∀ p, H1 p = none → Q (.ref p) (upd H1 p (.lst xs))) : tLst t σ H Q := h
theorem g_tup {t : TA} {Q : VK} (h : t σ H fun xs H1 => xs.length ≤ sizeLine ∧ ∀ p, H1 p = none → Q (.ref p) (upd H1 p (.tup xs))) : tTup t σ H Q := h
theorem g_cut {t u : TS} {D : Ends} (Mid : L2.St → Hp → Prop) (h1 : t { D with nx := Mid } σ H) (h2 : ∀ σ' H', Mid σ' H' → u D σ' H') : C8.tCut t u D σ H := ⟨Mid, h1, h2⟩
theorem g_aug {i : Nat} {te : TE} {ti : TIp} {D : Ends} {x : V} (e : σ[i]? = some (some x)) (h : te σ H fun y H1 => ti x y H1 fun z H2 => D.nx (σ.set i (some z)) H2) : tAug i te ti D σ H := ⟨x, e, h⟩
theorem g_ite {b : Bool} {A B : Prop} (h1 : b = true → A) (h2 : b = false → B) : if b = true then A else B := by
  cases b
  · exact iteF (h2 rfl)
  · exact iteT (h1 rfl)
theorem g_itd {c : Prop} [Decidable c] {A B : Prop} (h1 : c → A) (h2 : ¬ c → B) : if decide c = true then A else B := by
  by_cases h : c
  · rw [decide_eq_true h]; exact iteT (h1 h)
  · rw [decide_eq_false h]; exact iteF (h2 h)
theorem g_itnd {c : Prop} [Decidable c] {A B : Prop} (h1 : ¬ c → A) (h2 : c → B) : if (!decide c) = true then A else B := by
  by_cases h : c
  · rw [decide_eq_true h]; exact iteF (h2 h)
  · rw [decide_eq_false h]; exact iteT (h1 h)
end
/-- len of a list or tuple -/
def rLenS (K : PySem.W.Frag) : List V → Hp → VK → Prop := fun xs H Q => ∃ p ys, xs = [.ref p] ∧ (SqL K H p ys ∨ SqT K H p ys) ∧ Q (.int ys.length) H
theorem call_lenS {X : Cx} : CallR X (.builtin "len") (rLenS X.K) := call_len_seq
theorem g_lenL {K : PySem.W.Frag} {H : Hp} {p : Addr} {ys : List V} {Q : VK} (h : SqL K H p ys) (q : Q (.int ys.length) H) : rLenS K [.ref p] H Q := ⟨_, _, rfl, .inl h, q⟩
/-- list(list or tuple) -/
def rListOf (K : PySem.W.Frag) : List V → Hp → VK → Prop := fun xs H Q => ∃ p ys, xs = [.ref p] ∧ (SqL K H p ys ∨ SqT K H p ys) ∧ ∀ l, H l = none → Q (.ref l) (upd H l (.lst ys))
theorem call_listS {X : Cx} : CallR X (.type "list") (rListOf X.K) := call_list_of
theorem g_listL {K : PySem.W.Frag} {H : Hp} {p : Addr} {ys : List V} {Q : VK} (h : SqL K H p ys) (q : ∀ l, H l = none → Q (.ref l) (upd H l (.lst ys))) : rListOf K [.ref p] H Q := ⟨_, _, rfl, .inl h, q⟩
/-- xs[i] read ahead of xs[i] op= e -/
def rGetL (K : PySem.W.Frag) : V → V → Hp → VK → Prop := fun x y H Q => ∃ p xs i v, x = .ref p ∧ y = .int i ∧ 0 ≤ i ∧ SqL K H p xs ∧ atI xs i = some v ∧ Q v H
theorem get_list {X : Cx} : PGet X (rGetL X.K) := by
  intro pins s σ H x y v u Q I rx ry h
  obtain ⟨p, xs, i, z, rfl, rfl, h0, hq, he, q⟩ := h
  cases rx
  obtain ⟨t, rfl⟩ := ry
  obtain ⟨its, r, pl, hz⟩ := I.list hq
  obtain ⟨j, h1, h2, h3, h4, h5⟩ := atI_get he
  obtain ⟨w, ew, rw'⟩ := r.get h2
  have hl := r.length
  have hj : i.toNat = j := by
    rw [seqIndex_of h0 h5] at h1
    exact Option.some.inj h1
  have hn := line63
  refine wpAny_getItem_list (x := w) pl.isList h0 (by omega) (by rw [hj]; simpa using ew) ⟨z, H, I, rw', q⟩
theorem g_augS {to ti te : TE} {tget : V → V → Hp → VK → Prop} {tip : TIp} {tset : TSet} {D : Ends} {σ : L2.St} {H : Hp}
    (h : to σ H fun o H1 => ti σ H1 fun i H2 => tget o i H2 fun x H3 => te σ H3 fun y H4 => tip x y H4 fun z H5 => tset o i z H5 fun H6 => D.nx σ H6) : tAugS to ti te tget tip tset D σ H := h
theorem g_getL {K : PySem.W.Frag} {H : Hp} {p : Addr} {xs : List V} {i : Int} {v : V} {Q : VK} (h0 : 0 ≤ i) (h : SqL K H p xs) (e : atI xs i = some v) (q : Q v H) : rGetL K (.ref p) (.int i) H Q := ⟨_, _, _, _, rfl, rfl, h0, h, e, q⟩
/-- kept but for a and b -/
def Kp2 (a b : Addr) (H H' : Hp) : Prop := ∀ c o, c ≠ a → c ≠ b → H c = some o → H' c = some o
theorem Kp2.refl (a b : Addr) (H : Hp) : Kp2 a b H H := fun _ _ _ _ h => h
theorem Kp2.trans {a b : Addr} {H H1 H2 : Hp} (x : Kp2 a b H H1) (y : Kp2 a b H1 H2) : Kp2 a b H H2 := fun c o h1 h2 e => y c o h1 h2 (x c o h1 h2 e)
theorem Kp2.at1 {a b : Addr} {H H1 : Hp} {o : HO} (x : Kp2 a b H H1) : Kp2 a b H (upd H1 a o) := fun c u h1 h2 e => at_upd h1 (x c u h1 h2 e)
theorem Kp2.at2 {a b : Addr} {H H1 : Hp} {o : HO} (x : Kp2 a b H H1) : Kp2 a b H (upd H1 b o) := fun c u h1 h2 e => at_upd h2 (x c u h1 h2 e)
theorem Kp2.new {a b p : Addr} {H H1 : Hp} {o : HO} (x : Kp2 a b H H1) (n : H1 p = none) : Kp2 a b H (upd H1 p o) := fun c u h1 h2 e => at_upd (ne_of_none (x c u h1 h2 e) n) (x c u h1 h2 e)
theorem Kp2.of_same {a b : Addr} {H H1 : Hp} (s : Same H H1) : Kp2 a b H H1 := fun c o _ _ e => s c o e
/-- the state of the takes: [turns, cells] at st, the cells at ce -/
def TSt (H : Hp) (st ce : Addr) : Prop := (∃ n : Int, H st = some (.lst [.int n, .ref ce])) ∧ ∃ cells : List Int, H ce = some (.lst (cells.map V.int)) ∧ 1 ≤ cells.length
theorem TSt.same {H H1 : Hp} {st ce : Addr} (S : TSt H st ce) (s : Same H H1) : TSt H1 st ce := by
  obtain ⟨⟨n, e1⟩, cells, e2, l⟩ := S
  exact ⟨⟨n, s _ _ e1⟩, cells, s _ _ e2, l⟩
theorem TSt.new {H : Hp} {st ce p : Addr} {o : HO} (S : TSt H st ce) (n : H p = none) : TSt (upd H p o) st ce := S.same (Same.new (Same.refl _) n)
theorem TSt.ne {H : Hp} {st ce p : Addr} (S : TSt H st ce) (n : H p = none) : p ≠ st ∧ p ≠ ce := by
  obtain ⟨⟨_, e1⟩, _, e2, _⟩ := S
  exact ⟨(ne_of_none e1 n).symm, (ne_of_none e2 n).symm⟩
theorem TSt.set {H : Hp} {st ce p : Addr} {o : HO} (S : TSt H st ce) (n : p ≠ st ∧ p ≠ ce) : TSt (upd H p o) st ce := by
  obtain ⟨⟨m, e1⟩, cells, e2, l⟩ := S
  exact ⟨⟨m, at_upd n.1.symm e1⟩, cells, at_upd n.2.symm e2, l⟩
/-- a test, what follows shown once -/
def tCutT (t : TT) : TT := fun σ H Q => ∃ M : Bool → Hp → Prop, t σ H M ∧ ∀ b H', M b H' → Q b H'
theorem pt_cutT {X : Cx} {e : Expr} {t : TT} (h : PT X e t) : PT X e (tCutT t) := ⟨fun pins s σ H Q I hq => by
  obtain ⟨M, h1, h2⟩ := hq
  exact thn (h.run pins s σ H M I h1) fun b s' ⟨H', I', q⟩ => ⟨H', I', h2 _ _ q⟩⟩
/-- an expression, what follows shown once -/
def tCutE (t : TE) : TE := fun σ H Q => ∃ M : VK, t σ H M ∧ ∀ b H', M b H' → Q b H'
theorem pe_cutE {X : Cx} {e : Expr} {t : TE} (h : PE X e t) : PE X e (tCutE t) := ⟨fun pins s σ H Q I hq => by
  obtain ⟨M, h1, h2⟩ := hq
  exact thn (h.run pins s σ H M I h1) fun u s' ⟨v, H', I', r, q⟩ => ⟨v, H', I', r, h2 _ _ q⟩⟩
/-- list(text) -/
theorem call_list_strV {X : Cx} (hc : X.calm = true) : CallR X (.type "list") (fun xs H Q => ∃ z : Str, xs = [.str z] ∧ z.length ≤ sizeLine ∧ ∀ l, H l = none → Q (.ref l) (upd H l (.lst (z.cps.toList.map fun c => V.str ⟨#[c]⟩)))) := by
  intro pins s σ H xs us Q I r h
  obtain ⟨z, rfl, hz, q⟩ := h
  obtain ⟨u, rfl, t, rfl⟩ := vals1 r
  refine PySem.call_list_str (I.ok.hd hc) z t (fun h' tk acc' c' hk e hi => ?_) hz
  refine ⟨.ref s.heap.objs.size, upd H s.heap.objs.size (.lst (z.cps.toList.map fun c => V.str ⟨#[c]⟩)), I.laid hk (Nat.le_refl _) (show ObjOk X.prog X.w _ _ _ (.lst (z.cps.toList.map fun c => V.str ⟨#[c]⟩)) from ⟨?_, acc'.toList, c', ?_, ?_⟩), rfl, q _ (I.hok.fresh (Nat.le_refl _))⟩
  · rw [List.length_map]; exact hz
  · refine vals_of_at (by rw [List.length_map, Array.length_toList, Array.length_toList, hi.1]) fun j x w h1 h2 => ?_
    obtain ⟨c, u, hcj, rfl⟩ := hi.2 j w (by rw [← Array.getElem?_toList]; exact h2)
    rw [List.getElem?_map, Array.getElem?_toList, hcj] at h1
    cases h1
    exact ⟨u, rfl⟩
  · exact e
end Go
/-! data and owned cells -/
namespace Dt
open PySem PySem.Spec PyProof.Rows L2 Go
/-! ### the heap is data and cells that are owned -/
def cellsOn (cs : List (Addr × HO)) (G : Hp) : Hp := cs.foldr (fun c H => upd H c.1 c.2) G
theorem upd_comm {H : Hp} {a b : Addr} {o u : HO} (n : a ≠ b) : upd (upd H a o) b u = upd (upd H b u) a o := by
  funext c
  unfold upd
  by_cases e : c = b
  · subst e; rw [if_pos rfl, if_neg (fun z => n z.symm), if_pos rfl]
  · rw [if_neg e]
    by_cases e2 : c = a
    · rw [if_pos e2, if_pos e2]
    · rw [if_neg e2, if_neg e2, if_neg e]
theorem cellsOn_upd {cs : List (Addr × HO)} {G : Hp} {p : Addr} {o : HO} (h : ∀ c ∈ cs, c.1 ≠ p) : upd (cellsOn cs G) p o = cellsOn cs (upd G p o) := by
  induction cs with
  | nil => rfl
  | cons c r ih =>
    show upd (upd (cellsOn r G) c.1 c.2) p o = upd (cellsOn r (upd G p o)) c.1 c.2
    rw [upd_comm (h c (List.mem_cons_self ..)), ih fun d hd => h d (List.mem_cons_of_mem _ hd)]
theorem cellsOn_off {cs : List (Addr × HO)} {G : Hp} {a : Addr} (h : ∀ c ∈ cs, c.1 ≠ a) : cellsOn cs G a = G a := by
  induction cs with
  | nil => rfl
  | cons c r ih =>
    show upd (cellsOn r G) c.1 c.2 a = G a
    rw [upd_ne (fun z => h c (List.mem_cons_self ..) z.symm), ih fun d hd => h d (List.mem_cons_of_mem _ hd)]
structure Own (cs : List (Addr × HO)) (G H : Hp) : Prop where
  eq : H = cellsOn cs G
  nd : (cs.map (·.1)).Nodup
  fr : ∀ c ∈ cs, G c.1 = none
theorem Own.nil (H : Hp) : Own [] H H := ⟨rfl, List.nodup_nil, fun c h => nomatch h⟩
section
variable {cs : List (Addr × HO)} {G H : Hp} {p : Addr} {o o' : HO}
theorem Own.tail {c : Addr × HO} (w : Own (c :: cs) G H) : Own cs G (cellsOn cs G) := ⟨rfl, (List.nodup_cons.mp w.nd).2, fun d hd => w.fr d (List.mem_cons_of_mem _ hd)⟩
theorem Own.off (w : Own cs G H) (h : ∀ c ∈ cs, c.1 ≠ p) : H p = G p := by rw [w.eq]; exact cellsOn_off h
theorem Own.at (w : Own cs G H) (h : (p, o) ∈ cs) : H p = some o := by
  obtain ⟨e, nd, fr⟩ := w
  rw [e]; clear e
  induction cs with
  | nil => cases h
  | cons c r ih =>
    show upd (cellsOn r G) c.1 c.2 p = some o
    rcases List.mem_cons.mp h with z | z
    · rw [← z]; exact upd_same
    · have hne : p ≠ c.1 := fun e => (List.nodup_cons.mp nd).1 (List.mem_map.mpr ⟨_, z, e⟩)
      rw [upd_ne hne]
      exact ih z (List.nodup_cons.mp nd).2 fun d hd => fr d (List.mem_cons_of_mem _ hd)
theorem Own.sub (w : Own cs G H) : Same G H := fun b u e => by
  rw [w.off fun c hc z => by have := w.fr c hc; rw [z, e] at this; cases this]; exact e
theorem Own.free (w : Own cs G H) (h : H p = none) : G p = none ∧ ∀ c ∈ cs, c.1 ≠ p := by
  refine ⟨w.sub.free h, fun c hc z => ?_⟩
  have := w.at (p := c.1) (o := c.2) hc
  rw [z, h] at this; cases this
/-- a new object of data -/
theorem Own.alloc (w : Own cs G H) (h : H p = none) : Own cs (upd G p o) (upd H p o) := by
  obtain ⟨h1, h2⟩ := w.free h
  exact ⟨by rw [w.eq]; exact cellsOn_upd h2, w.nd, fun c hc => by rw [upd_ne (h2 c hc)]; exact w.fr c hc⟩
/-- a new cell -/
theorem Own.grab (w : Own cs G H) (h : H p = none) : Own ((p, o) :: cs) G (upd H p o) := by
  obtain ⟨h1, h2⟩ := w.free h
  refine ⟨by rw [w.eq]; rfl, List.nodup_cons.mpr ⟨fun z => ?_, w.nd⟩, fun c hc => ?_⟩
  · obtain ⟨c, hc, e⟩ := List.mem_map.mp z
    exact h2 c hc e
  · rcases List.mem_cons.mp hc with z | z
    · rw [z]; exact h1
    · exact w.fr c z
theorem Own.set (w : Own ((p, o) :: cs) G H) : Own ((p, o') :: cs) G (upd H p o') :=
  ⟨by rw [w.eq]; exact upd_upd, w.nd, fun c hc => by
    rcases List.mem_cons.mp hc with z | z
    · rw [z]; exact w.fr (p, o) (List.mem_cons_self ..)
    · exact w.fr c (List.mem_cons_of_mem _ z)⟩
theorem Own.swap {c d : Addr × HO} (w : Own (c :: d :: cs) G H) : Own (d :: c :: cs) G H := by
  obtain ⟨e, nd, fr⟩ := w
  simp only [List.map_cons, List.nodup_cons, List.mem_cons, not_or] at nd
  refine ⟨?_, ?_, fun x hx => fr x ?_⟩
  · rw [e]; exact upd_comm (fun z => nd.1.1 z.symm)
  · simp only [List.map_cons, List.nodup_cons, List.mem_cons, not_or]
    exact ⟨⟨fun z => nd.1.1 z.symm, nd.2.1⟩, nd.1.2, nd.2.2⟩
  · simp only [List.mem_cons] at hx ⊢
    rcases hx with z | z | z
    · exact .inr (.inl z)
    · exact .inl z
    · exact .inr (.inr z)
theorem Own.set2 {c : Addr × HO} (w : Own (c :: (p, o) :: cs) G H) : Own (c :: (p, o') :: cs) G (upd H p o') := w.swap.set.swap
/-- the rest behind a first cell -/
theorem Own.under {c : Addr × HO} {cs' : List (Addr × HO)} (w : Own (c :: cs) G H) (k : ∀ H1, Own cs G H1 → Own cs' G (upd H1 p o)) (hc : c.1 ≠ p) (hk : ∀ d ∈ cs', d.1 ≠ c.1) : Own (c :: cs') G (upd H p o) := by
  have t := k _ w.tail
  refine ⟨?_, List.nodup_cons.mpr ⟨fun z => ?_, t.nd⟩, fun d hd => ?_⟩
  · show _ = upd (cellsOn cs' G) c.1 c.2
    rw [← t.eq, w.eq]
    exact upd_comm hc
  · obtain ⟨d, hd, e⟩ := List.mem_map.mp z
    exact hk d hd e
  · rcases List.mem_cons.mp hd with z | z
    · rw [z]; exact w.fr c (List.mem_cons_self ..)
    · exact t.fr d z
theorem Own.set3 {c d : Addr × HO} (w : Own (c :: d :: (p, o) :: cs) G H) : Own (c :: d :: (p, o') :: cs) G (upd H p o') := by
  have nd := w.nd
  simp only [List.map_cons, List.nodup_cons, List.mem_cons, not_or] at nd
  refine w.under (fun H1 w1 => w1.set2) nd.1.2.1 fun x hx => ?_
  simp only [List.mem_cons] at hx
  rcases hx with z | z | z
  · rw [z]; exact fun q => nd.1.1 q.symm
  · rw [z]; exact fun q => nd.1.2.1 q.symm
  · exact fun q => nd.1.2.2 (q ▸ List.mem_map_of_mem (f := (·.1)) z)
/-- a cell becomes data -/
theorem Own.drop (w : Own ((p, o) :: cs) G H) : Own cs (upd G p o) H := by
  have nd := w.nd
  simp only [List.map_cons, List.nodup_cons] at nd
  have h2 : ∀ c ∈ cs, c.1 ≠ p := fun c hc z => nd.1 (z ▸ List.mem_map_of_mem (f := (·.1)) hc)
  exact ⟨by rw [w.eq]; exact cellsOn_upd h2, nd.2, fun c hc => by rw [upd_ne (h2 c hc)]; exact w.fr c (List.mem_cons_of_mem _ hc)⟩
theorem Own.drop_same (w : Own ((p, o) :: cs) G H) : Same G (upd G p o) := fun b u e => by
  rw [upd_ne (fun z => by have := w.fr (p, o) (List.mem_cons_self ..); rw [← z, e] at this; cases this)]; exact e
theorem Own.take (w : Own cs (upd G p o) H) (n : G p = none) (h : ∀ c ∈ cs, c.1 ≠ p) : Own ((p, o) :: cs) G H := by
  refine ⟨by rw [w.eq]; exact (cellsOn_upd h).symm, List.nodup_cons.mpr ⟨fun z => ?_, w.nd⟩, fun c hc => ?_⟩
  · obtain ⟨c, hc, e⟩ := List.mem_map.mp z
    exact h c hc e
  · rcases List.mem_cons.mp hc with z | z
    · rw [z]; exact n
    · have := w.fr c z
      rw [upd_ne (h c z)] at this; exact this
/-- a data object becomes a cell again: the cells stand apart by themselves -/
theorem Own.take' (w : Own cs (upd G p o) H) (n : G p = none) : Own ((p, o) :: cs) G H := w.take n fun c hc z => by
  have := w.fr c hc
  rw [z, upd_same] at this; cases this
theorem alloc_to {Z : Hp → Prop} (w : Own cs G H) (n : H p = none) (h : ∀ G' H', Own cs G' H' → Same G G' → G' p = some o → Z H') : Z (upd H p o) :=
  h _ _ (w.alloc n) (Go.Same.new (Same.refl G) (w.free n).1) upd_same
/-- behind a call that keeps what stands -/
theorem Own.grow {H' : Hp} (w : Own cs G H) (s : Same H H') : ∃ G', Own cs G' H' ∧ Same G G' := by
  refine ⟨fun a => if a ∈ cs.map (·.1) then none else H' a, ⟨?_, w.nd, fun c hc => if_pos (List.mem_map_of_mem (f := (·.1)) hc)⟩, fun a o e => ?_⟩
  · have key : ∀ ds : List (Addr × HO), (∀ d ∈ ds, d ∈ cs) → ∀ a, cellsOn ds (fun a => if a ∈ cs.map (·.1) then none else H' a) a = if a ∈ ds.map (·.1) then H' a else (if a ∈ cs.map (·.1) then none else H' a) := by
      intro ds
      induction ds with
      | nil => intro _ a; rfl
      | cons d r ih =>
        intro hd a
        show upd (cellsOn r _) d.1 d.2 a = _
        by_cases e : a = d.1
        · subst e
          rw [upd_same, if_pos (by simp)]
          exact (s _ _ (w.at (p := d.1) (o := d.2) (hd d (List.mem_cons_self ..)))).symm
        · rw [upd_ne e, ih (fun x hx => hd x (List.mem_cons_of_mem _ hx)) a]
          simp only [List.map_cons, List.mem_cons, e, false_or]
    funext a
    rw [key cs (fun d h => h) a]
    split
    · rfl
    · rfl
  · have hn : a ∉ cs.map (·.1) := fun z => by
      obtain ⟨c, hc, e2⟩ := List.mem_map.mp z
      have := w.fr c hc
      rw [e2, e] at this; cases this
    show (if a ∈ cs.map (·.1) then none else H' a) = some o
    rw [if_neg hn]
    exact s _ _ (w.sub _ _ e)
/-- the cells' heap over more data -/
theorem Own.more {G' : Hp} (w : Own cs G H) (h : ∀ c ∈ cs, G' c.1 = none) : Own cs G' (cellsOn cs G') := ⟨rfl, w.nd, h⟩
theorem Own.keep {G' H' : Hp} (w : Own cs G H) (w' : Own cs G' H') : ∀ c ∈ cs, H' c.1 = some c.2 := fun c hc => w'.at hc
end
section
variable {c1 c2 : List (Addr × HO)} {G G2 H : Hp}
theorem cellsOn_app : cellsOn (c1 ++ c2) G = cellsOn c1 (cellsOn c2 G) := by unfold cellsOn; rw [List.foldr_append]
theorem Own.rest (w : Own (c1 ++ c2) G H) : Own c2 G (cellsOn c2 G) := by
  refine ⟨rfl, ?_, fun c hc => w.fr c (List.mem_append_right _ hc)⟩
  have := w.nd
  rw [List.map_append] at this
  exact (List.nodup_append.mp this).2.1
theorem Own.head (w : Own (c1 ++ c2) G H) : Own c1 (cellsOn c2 G) H := by
  have nd := w.nd
  rw [List.map_append] at nd
  obtain ⟨n1, n2, n3⟩ := List.nodup_append.mp nd
  refine ⟨by rw [w.eq, cellsOn_app], n1, fun c hc => ?_⟩
  rw [cellsOn_off fun d hd z => n3 _ (List.mem_map_of_mem (f := (·.1)) hc) _ (List.mem_map_of_mem (f := (·.1)) hd) z.symm]
  exact w.fr c (List.mem_append_left _ hc)
theorem Own.app (w2 : Own c2 G G2) (w1 : Own c1 G2 H) : Own (c1 ++ c2) G H := by
  refine ⟨by rw [cellsOn_app, ← w2.eq]; exact w1.eq, ?_, fun c hc => ?_⟩
  · rw [List.map_append]
    refine List.nodup_append.mpr ⟨w1.nd, w2.nd, fun a ha b hb e => ?_⟩
    obtain ⟨c, hc, rfl⟩ := List.mem_map.mp ha
    obtain ⟨d, hd, rfl⟩ := List.mem_map.mp hb
    have h1 := w1.fr c hc
    have h2 := w2.at (p := d.1) (o := d.2) hd
    rw [e, h2] at h1; cases h1
  · rcases List.mem_append.mp hc with z | z
    · exact w2.sub.free (w1.fr c z)
    · exact w2.fr c z
theorem own_nil : Own [] G H ↔ H = G := ⟨fun w => w.eq, fun e => by rw [e]; exact Own.nil G⟩
end
/-! ### the states of a law's draws -/
/-- [turns, cells] at st, the cells at ce -/
def TK (st ce : Addr) (tk : List (Addr × HO)) : Prop := ∃ (n : Int) (ms : List Int), tk = [(st, .lst [.int n, .ref ce]), (ce, .lst (ms.map V.int))] ∧ 1 ≤ ms.length
def TkS (st ce : Addr) (G H : Hp) : Prop := ∃ tk, TK st ce tk ∧ Own tk G H
theorem TkS.grow {st ce : Addr} {G H H' : Hp} (t : TkS st ce G H) (s : Same H H') : ∃ G', TkS st ce G' H' ∧ Same G G' := by
  obtain ⟨tk, h, w⟩ := t
  obtain ⟨G', w', s'⟩ := w.grow s
  exact ⟨G', ⟨tk, h, w'⟩, s'⟩
theorem TkS.alloc_to {st ce p : Addr} {G H : Hp} {o : HO} {Z : Hp → Prop} (t : TkS st ce G H) (n : H p = none) (h : ∀ G' H', TkS st ce G' H' → Same G G' → G' p = some o → Z H') : Z (upd H p o) := by
  obtain ⟨tk, h1, w⟩ := t
  exact Dt.alloc_to w n fun G' H' w' s e => h G' H' ⟨tk, h1, w'⟩ s e
theorem TkS.sub {st ce : Addr} {G H : Hp} (t : TkS st ce G H) : Same G H := by obtain ⟨tk, h, w⟩ := t; exact w.sub
/-- .. beside other cells -/
def Ts (pre : List (Addr × HO)) (st ce : Addr) (G H : Hp) : Prop := ∃ tk, TK st ce tk ∧ Own (pre ++ tk) G H
section
variable {pre : List (Addr × HO)} {st ce p : Addr} {G H : Hp} {o o' : HO}
theorem TkS.ts (t : TkS st ce G H) : Ts [] st ce G H := t
theorem Ts.tk (t : Ts [] st ce G H) : TkS st ce G H := t
theorem Ts.sub (t : Ts pre st ce G H) : Same G H := by obtain ⟨tk, h, w⟩ := t; exact w.sub
theorem Ts.alloc_to {Z : Hp → Prop} (t : Ts pre st ce G H) (n : H p = none) (h : ∀ G' H', Ts pre st ce G' H' → Same G G' → G' p = some o → Z H') : Z (upd H p o) := by
  obtain ⟨tk, h1, w⟩ := t
  exact Dt.alloc_to w n fun G' H' w' s e => h G' H' ⟨tk, h1, w'⟩ s e
theorem Ts.grab (t : Ts pre st ce G H) (n : H p = none) : Ts ((p, o) :: pre) st ce G (upd H p o) := by
  obtain ⟨tk, h1, w⟩ := t
  exact ⟨tk, h1, w.grab n⟩
theorem Ts.set (t : Ts ((p, o) :: pre) st ce G H) : Ts ((p, o') :: pre) st ce G (upd H p o') := by
  obtain ⟨tk, h1, w⟩ := t
  exact ⟨tk, h1, w.set⟩
theorem Ts.set2 {c : Addr × HO} (t : Ts (c :: (p, o) :: pre) st ce G H) : Ts (c :: (p, o') :: pre) st ce G (upd H p o') := by
  obtain ⟨tk, h1, w⟩ := t
  exact ⟨tk, h1, w.set2⟩
theorem Ts.drop (t : Ts ((p, o) :: pre) st ce G H) : Ts pre st ce (upd G p o) H ∧ Same G (upd G p o) := by
  obtain ⟨tk, h1, w⟩ := t
  exact ⟨⟨tk, h1, w.drop⟩, Own.drop_same w⟩
theorem Ts.take (t : Ts pre st ce (upd G p o) H) (n : G p = none) : Ts ((p, o) :: pre) st ce G H := by
  obtain ⟨tk, h1, w⟩ := t
  exact ⟨tk, h1, w.take' n⟩
theorem Ts.at (t : Ts pre st ce G H) (h : (p, o) ∈ pre) : H p = some o := by
  obtain ⟨tk, h1, w⟩ := t
  exact w.at (List.mem_append_left _ h)
theorem Ts.split (t : Ts pre st ce G H) : ∃ G1, Own pre G1 H ∧ TkS st ce G G1 := by
  obtain ⟨tk, h1, w⟩ := t
  exact ⟨_, w.head, tk, h1, w.rest⟩
theorem Ts.join {G1 : Hp} (w : Own pre G1 H) (t : TkS st ce G G1) : Ts pre st ce G H := by
  obtain ⟨tk, h1, w2⟩ := t
  exact ⟨tk, h1, w2.app w⟩
theorem Ts.grow {H' : Hp} (t : Ts pre st ce G H) (s : Same H H') : ∃ G', Ts pre st ce G' H' ∧ Same G G' := by
  obtain ⟨tk, h, w⟩ := t
  obtain ⟨G', w', s'⟩ := w.grow s
  exact ⟨G', ⟨tk, h, w'⟩, s'⟩
theorem TK.plain {tk : List (Addr × HO)} (h : TK st ce tk) : ∀ c ∈ tk, ∃ xs, c.2 = .lst xs := fun c hc => by
  obtain ⟨n, ms, rfl, _⟩ := h
  rcases List.mem_cons.mp hc with z | z
  · exact ⟨_, by rw [z]⟩
  · exact ⟨_, by rw [List.mem_singleton.mp z]⟩
end
/-- [turns, rest] at st -/
def DK (st : Addr) (dk : List (Addr × HO)) : Prop := ∃ n s : Int, dk = [(st, .lst [.int n, .int s])]
def DkS (st : Addr) (G H : Hp) : Prop := ∃ dk, DK st dk ∧ Own dk G H
theorem DkS.grow {st : Addr} {G H H' : Hp} (t : DkS st G H) (s : Same H H') : ∃ G', DkS st G' H' ∧ Same G G' := by
  obtain ⟨tk, h, w⟩ := t
  obtain ⟨G', w', s'⟩ := w.grow s
  exact ⟨G', ⟨tk, h, w'⟩, s'⟩
theorem DkS.alloc_to {st p : Addr} {G H : Hp} {o : HO} {Z : Hp → Prop} (t : DkS st G H) (n : H p = none) (h : ∀ G' H', DkS st G' H' → Same G G' → G' p = some o → Z H') : Z (upd H p o) := by
  obtain ⟨tk, h1, w⟩ := t
  exact Dt.alloc_to w n fun G' H' w' s e => h G' H' ⟨tk, h1, w'⟩ s e
theorem DkS.sub {st : Addr} {G H : Hp} (t : DkS st G H) : Same G H := by obtain ⟨tk, h, w⟩ := t; exact w.sub
/-- .. beside other cells -/
def Ds (pre : List (Addr × HO)) (st : Addr) (G H : Hp) : Prop := ∃ dk, DK st dk ∧ Own (pre ++ dk) G H
section
variable {pre : List (Addr × HO)} {st p : Addr} {G H : Hp} {o o' : HO}
theorem DkS.ds (t : DkS st G H) : Ds [] st G H := t
theorem Ds.dk (t : Ds [] st G H) : DkS st G H := t
theorem Ds.sub (t : Ds pre st G H) : Same G H := by obtain ⟨tk, h, w⟩ := t; exact w.sub
theorem Ds.alloc_to {Z : Hp → Prop} (t : Ds pre st G H) (n : H p = none) (h : ∀ G' H', Ds pre st G' H' → Same G G' → G' p = some o → Z H') : Z (upd H p o) := by
  obtain ⟨tk, h1, w⟩ := t
  exact Dt.alloc_to w n fun G' H' w' s e => h G' H' ⟨tk, h1, w'⟩ s e
theorem Ds.grab (t : Ds pre st G H) (n : H p = none) : Ds ((p, o) :: pre) st G (upd H p o) := by
  obtain ⟨tk, h1, w⟩ := t
  exact ⟨tk, h1, w.grab n⟩
theorem Ds.set (t : Ds ((p, o) :: pre) st G H) : Ds ((p, o') :: pre) st G (upd H p o') := by
  obtain ⟨tk, h1, w⟩ := t
  exact ⟨tk, h1, w.set⟩
theorem Ds.set2 {c : Addr × HO} (t : Ds (c :: (p, o) :: pre) st G H) : Ds (c :: (p, o') :: pre) st G (upd H p o') := by
  obtain ⟨tk, h1, w⟩ := t
  exact ⟨tk, h1, w.set2⟩
theorem Ds.drop (t : Ds ((p, o) :: pre) st G H) : Ds pre st (upd G p o) H ∧ Same G (upd G p o) := by
  obtain ⟨tk, h1, w⟩ := t
  exact ⟨⟨tk, h1, w.drop⟩, Own.drop_same w⟩
theorem Ds.take (t : Ds pre st (upd G p o) H) (n : G p = none) : Ds ((p, o) :: pre) st G H := by
  obtain ⟨tk, h1, w⟩ := t
  exact ⟨tk, h1, w.take' n⟩
theorem Ds.at (t : Ds pre st G H) (h : (p, o) ∈ pre) : H p = some o := by
  obtain ⟨tk, h1, w⟩ := t
  exact w.at (List.mem_append_left _ h)
theorem Ds.split (t : Ds pre st G H) : ∃ G1, Own pre G1 H ∧ DkS st G G1 := by
  obtain ⟨tk, h1, w⟩ := t
  exact ⟨_, w.head, tk, h1, w.rest⟩
theorem Ds.join {G1 : Hp} (w : Own pre G1 H) (t : DkS st G G1) : Ds pre st G H := by
  obtain ⟨tk, h1, w2⟩ := t
  exact ⟨tk, h1, w2.app w⟩
theorem Ds.grow {H' : Hp} (t : Ds pre st G H) (s : Same H H') : ∃ G', Ds pre st G' H' ∧ Same G G' := by
  obtain ⟨tk, h, w⟩ := t
  obtain ⟨G', w', s'⟩ := w.grow s
  exact ⟨G', ⟨tk, h, w'⟩, s'⟩
end
theorem hu65 {A : Around} {k : Nat} (hr : Room k A) : A.units + 65 < cLine := by have := hr.un; omega
theorem DK.plain {st : Addr} {tk : List (Addr × HO)} (h : DK st tk) : ∀ c ∈ tk, ∃ xs, c.2 = .lst xs := fun c hc => by
  obtain ⟨n, s, rfl⟩ := h
  exact ⟨_, by rw [List.mem_singleton.mp hc]⟩
/-! ### new objects -/
def NewAt (H : Hp) (o : HO) (Q : VK) : Prop := ∀ p H', H p = none → H' = upd H p o → Q (.ref p) H'
section
variable {H G : Hp} {o : HO} {Q : VK} {cs pre : List (Addr × HO)} {st ce : Addr}
theorem NewAt.of_old (h : ∀ p, H p = none → Q (.ref p) (upd H p o)) : NewAt H o Q := fun p H' n e => by subst e; exact h p n
theorem NewAt.old (h : NewAt H o Q) : ∀ p, H p = none → Q (.ref p) (upd H p o) := fun p n => h p _ n rfl
theorem NewAt.pl (h : ∀ p H', H p = none → Same H H' → H' p = some o → Q (.ref p) H') : NewAt H o Q := fun p H' n e => by subst e; exact h p _ n (Go.Same.new (Same.refl _) n) upd_same
theorem NewAt.ow (w : Own cs G H) (h : ∀ p G' H', Own cs G' H' → Same G G' → G' p = some o → H p = none → Q (.ref p) H') : NewAt H o Q := fun p H' n e => by
  subst e
  exact h p _ _ (w.alloc n) (Go.Same.new (Same.refl G) (w.free n).1) upd_same n
theorem NewAt.owc (w : Own cs G H) (h : ∀ p H', Own ((p, o) :: cs) G H' → H p = none → Q (.ref p) H') : NewAt H o Q := fun p H' n e => by
  subst e
  exact h p _ (w.grab n) n
theorem NewAt.ts (w : Ts pre st ce G H) (h : ∀ p G' H', Ts pre st ce G' H' → Same G G' → G' p = some o → H p = none → Q (.ref p) H') : NewAt H o Q := by
  obtain ⟨tk, h1, w⟩ := w
  exact NewAt.ow w fun p G' H' w' => h p G' H' ⟨tk, h1, w'⟩
theorem NewAt.tsc (w : Ts pre st ce G H) (h : ∀ p H', Ts ((p, o) :: pre) st ce G H' → H p = none → Q (.ref p) H') : NewAt H o Q := by
  obtain ⟨tk, h1, w⟩ := w
  exact NewAt.owc w fun p H' w' => h p H' ⟨tk, h1, w'⟩
theorem NewAt.ds (w : Ds pre st G H) (h : ∀ p G' H', Ds pre st G' H' → Same G G' → G' p = some o → H p = none → Q (.ref p) H') : NewAt H o Q := by
  obtain ⟨tk, h1, w⟩ := w
  exact NewAt.ow w fun p G' H' w' => h p G' H' ⟨tk, h1, w'⟩
theorem NewAt.dsc (w : Ds pre st G H) (h : ∀ p H', Ds ((p, o) :: pre) st G H' → H p = none → Q (.ref p) H') : NewAt H o Q := by
  obtain ⟨tk, h1, w⟩ := w
  exact NewAt.owc w fun p H' w' => h p H' ⟨tk, h1, w'⟩
end
section
variable {σ : L2.St} {H : Hp}
theorem g_lst2 {t : TA} {Q : VK} (h : t σ H fun xs H1 => xs.length ≤ sizeLine ∧ NewAt H1 (.lst xs) Q) : tLst t σ H Q := by
  have e : (fun (xs : List V) (H1 : Hp) => xs.length ≤ sizeLine ∧ ∀ p, H1 p = none → Q (.ref p) (upd H1 p (.lst xs))) = fun xs H1 => xs.length ≤ sizeLine ∧ NewAt H1 (.lst xs) Q := by
    funext xs H1
    exact propext ⟨fun h => ⟨h.1, fun p H' n e => by subst e; exact h.2 p n⟩, fun h => ⟨h.1, h.2.old⟩⟩
  show t σ H fun xs H1 => xs.length ≤ sizeLine ∧ ∀ p, H1 p = none → Q (.ref p) (upd H1 p (.lst xs))
  rw [e]; exact h
theorem g_orV {ta tb : TE} {Q : VK} (h : ta σ H fun x H1 => ∃ c, x = .bl c ∧ if c = true then Q (.bl true) H1 else tb σ H1 Q) : tOrV ta tb σ H Q := h
theorem g_andV {ta tb : TE} {Q : VK} (h : ta σ H fun x H1 => ∃ c, x = .bl c ∧ if c = true then tb σ H1 Q else Q (.bl false) H1) : tAndV ta tb σ H Q := h
theorem g_notV {ta : TE} {Q : VK} (h : ta σ H fun x H1 => ∃ c, x = .bl c ∧ Q (.bl (!c)) H1) : tNotV ta σ H Q := h
theorem g_tup2 {t : TA} {Q : VK} (h : t σ H fun xs H1 => xs.length ≤ sizeLine ∧ NewAt H1 (.tup xs) Q) : tTup t σ H Q := by
  have e : (fun (xs : List V) (H1 : Hp) => xs.length ≤ sizeLine ∧ ∀ p, H1 p = none → Q (.ref p) (upd H1 p (.tup xs))) = fun xs H1 => xs.length ≤ sizeLine ∧ NewAt H1 (.tup xs) Q := by
    funext xs H1
    exact propext ⟨fun h => ⟨h.1, fun p H' n e => by subst e; exact h.2 p n⟩, fun h => ⟨h.1, h.2.old⟩⟩
  show t σ H fun xs H1 => xs.length ≤ sizeLine ∧ ∀ p, H1 p = none → Q (.ref p) (upd H1 p (.tup xs))
  rw [e]; exact h
end
section
variable {X : Cx}
def rList2 (K : PySem.W.Frag) : List V → Hp → VK → Prop := fun xs H Q => ∃ p ys, xs = [.ref p] ∧ (SqL K H p ys ∨ SqT K H p ys) ∧ NewAt H (.lst ys) Q
theorem call_list2 : CallR X (.type "list") (rList2 X.K) := fun pins s σ H xs us Q I r ⟨p, ys, e, h, q⟩ => call_list_of pins s σ H xs us Q I r ⟨p, ys, e, h, q.old⟩
def rTuple2 (K : PySem.W.Frag) : List V → Hp → VK → Prop := fun xs H Q => ∃ p ys, xs = [.ref p] ∧ SqL K H p ys ∧ NewAt H (.tup ys) Q
theorem call_tuple2 : CallR X (.type "tuple") (rTuple2 X.K) := fun pins s σ H xs us Q I r ⟨p, ys, e, h, q⟩ => call_tuple_of pins s σ H xs us Q I r ⟨p, ys, e, .inl ⟨h, q.old⟩⟩
def rSlL2 (K : PySem.W.Frag) : V → Option Int → Option Int → Hp → VK → Prop := fun x lo hi H Q => ∃ a xs, x = .ref a ∧ SqL K H a xs ∧ NewAt H (.lst (cutV xs lo hi)) Q
theorem sl_list2 : SlR X (rSlL2 X.K) := fun pins s σ H x v vl vu lo hi sl Q I rx hs pl pu ⟨a, xs, e, h, q⟩ => sl_list pins s σ H x v vl vu lo hi sl Q I rx hs pl pu ⟨a, xs, e, h, q.old⟩
def rSlA2 (K : PySem.W.Frag) : V → Option Int → Option Int → Hp → VK → Prop := fun x lo hi H Q => ∃ a xs, x = .ref a ∧ SqT K H a xs ∧
  (HT.sIx xs.length 0 lo = 0 ∧ HT.sIx xs.length xs.length hi = xs.length → Q (.ref a) H) ∧ (¬ (HT.sIx xs.length 0 lo = 0 ∧ HT.sIx xs.length xs.length hi = xs.length) → NewAt H (.tup (cutV xs lo hi)) Q)
theorem sl_tupA2 : SlR X (rSlA2 X.K) := fun pins s σ H x v vl vu lo hi sl Q I rx hs pl pu ⟨a, xs, e, h, q1, q2⟩ => sl_tupA pins s σ H x v vl vu lo hi sl Q I rx hs pl pu ⟨a, xs, e, h, q1, fun z => (q2 z).old⟩
def rCatA2 (K : PySem.W.Frag) : R2 := fun x y H Q => ∃ a b xs ys, x = .ref a ∧ y = .ref b ∧ SqT K H a xs ∧ SqT K H b ys ∧ xs.length + ys.length ≤ sizeLine ∧
  (xs = [] → Q (.ref b) H) ∧ (xs ≠ [] → ys = [] → Q (.ref a) H) ∧ (xs ≠ [] → ys ≠ [] → NewAt H (.tup (xs ++ ys)) Q)
theorem op_catA2 : OpR X (binaryOp .Add) (rCatA2 X.K) := fun pins s σ H x y v u Q I rx ry ⟨a, b, xs, ys, e1, e2, h1, h2, hz, q0, q1, q2⟩ => op_catA pins s σ H x y v u Q I rx ry ⟨a, b, xs, ys, e1, e2, h1, h2, hz, q0, q1, fun z w => (q2 z w).old⟩
def rCat2 : R2 := fun x y H Q => ∃ l b xs zs, x = .ref l ∧ y = .ref b ∧ H l = some (.lst xs) ∧ H b = some (.lst zs) ∧ xs.length + zs.length ≤ sizeLine ∧ NewAt H (.lst (xs ++ zs)) Q
def rRep2 : R2 := fun x y H Q => ∃ l k xs, x = .ref l ∧ y = .int k ∧ H l = some (.lst xs) ∧ -(2 ^ 63) ≤ k ∧ k < 2 ^ 63 ∧ xs.length * k.toNat ≤ sizeLine ∧ NewAt H (.lst (List.replicate k.toNat xs).flatten) Q
theorem op_rep2 : OpR X (binaryOp .Mult) rRep2 := fun pins s σ H x y v u Q I rx ry ⟨a, k, xs, e1, e2, h1, h2, h3, hz, q⟩ => op_rep pins s σ H x y v u Q I rx ry ⟨a, k, xs, e1, e2, h1, h2, h3, hz, q.old⟩
theorem op_cat2 : OpR X (binaryOp .Add) rCat2 := fun pins s σ H x y v u Q I rx ry ⟨a, b, xs, ys, e1, e2, h1, h2, hz, q⟩ => op_cat pins s σ H x y v u Q I rx ry ⟨a, b, xs, ys, e1, e2, h1, h2, hz, q.old⟩
end
/-! ### a call sees the data alone -/
/-- objects that a call without them leaves as they are -/
def Plain : HO → Prop
  | .lst _ => True
  | .dK _ => True
  | .set _ _ => True
  | _ => False
/-- the promise, where some cells are out of the callee's sight -/
def spF (sp : Sp) : Sp := fun vs H Q E => ∃ cs G, Own cs G H ∧ (∀ c ∈ cs, Plain c.2) ∧ sp vs G (fun v G' => ∀ H', Own cs G' H' → Q v H') E
section
variable {P : Program} {w : World} {K : PySem.W.Frag} {mg : Str → Option Value} {base : Heap} {k : Nat} {f : Addr} {fd : FuncData} {ps : List Str} {sp : Sp}
theorem plain_own {a b : Addr} {o : HO} (h : Plain o) : o ≠ .own a := fun e => by subst e; exact h
theorem plain_tup {xs : List V} {o : HO} (h : Plain o) : o ≠ .tup xs := fun e => by subst e; exact h
theorem back {cs : List (Addr × HO)} {G H : Hp} (ow : Own cs G H) (pl : ∀ c ∈ cs, Plain c.2) {b : Addr} {u : HO} (e : H b = some u) (n : ¬ Plain u) : G b = some u := by
  rw [← ow.off (p := b) fun c hc z => ?_]
  · exact e
  · subst z
    rw [ow.at (p := c.1) (o := c.2) hc] at e
    cases e
    exact n (pl c hc)
theorem hok_hid {cs : List (Addr × HO)} {G H : Hp} {h : Heap} (ow : Own cs G H) (pl : ∀ c ∈ cs, Plain c.2) (x : HOk P w H h) : HOk P w G h := fun a o e =>
  (x a o (ow.sub _ _ e)).stay (fun b u _ q => q) (fun b q => back ow pl q (fun z => z)) fun b xs q => back ow pl q (fun z => z)
theorem frame_call (F : FnOk P w K mg base CX0 k f fd ps sp) : FnOk P w K mg base CX0 k f fd ps (spF sp) := by
  refine ⟨fun vs H Q E h => ?_, fun A outer s H args us vs Q E hr env bind vals h => ?_⟩
  · obtain ⟨cs, G, _, _, h⟩ := h
    exact F.len _ _ _ _ h
  · obtain ⟨cs, G, ow, pl, h⟩ := h
    have env' : Env0 P w K mg base A outer s G :=
      ⟨env.frames, env.mod, fun b o e => ⟨(env.bs b o e).1, ow.sub.free (env.bs b o e).2⟩, env.bsz, env.funs, fun b hb => ow.sub.free (env.frf b hb), hok_hid ow pl env.hok, env.bare⟩
    refine codeAny_mono (F.run A outer s G args us vs _ E hr env' bind vals h) ?_
    intro r s' hq
    match r, hq with
    | .error e, hq => exact False.elim hq
    | .ok .next, hq => exact False.elim hq
    | .ok .brk, hq => exact False.elim hq
    | .ok .cont, hq => exact False.elim hq
    | .ok (.ret u), hq =>
      obtain ⟨v, G', os, bare, un, ok', rv, q⟩ := hq
      have there : ∀ c ∈ cs, ∃ ob, s.heap.get? c.1 = some ob := fun c hc => by
        have x := env.hok _ _ (ow.at (p := c.1) (o := c.2) hc)
        have pc := pl c hc
        revert x pc
        cases c.2 with
        | lst xs => intro x _; obtain ⟨z, its, n, r, e⟩ := x; exact ⟨_, e⟩
        | dK kvs => intro x _; obtain ⟨z, y, vs, r, ob, es, ep, e, c⟩ := x; exact ⟨_, e⟩
        | set S n => intro x _; obtain ⟨ob, es, ep, t, e, c⟩ := x; exact ⟨_, e⟩
        | _ => intro x pc; exact pc.elim
      have fr : ∀ c ∈ cs, G' c.1 = none := fun c hc => by
        obtain ⟨ob, e⟩ := there c hc
        exact un.free _ _ e (ow.fr c hc) (by simp)
      have ow' := ow.more fr
      refine ⟨v, cellsOn cs G', os, bare, ?_, ?_, rv, q _ ow'⟩
      · exact ⟨fun b o e n h1 h2 => un.keep b o e (ow.sub.free n) h1 h2, fun b o e n h1 h2 => un.slot b o e (ow.sub.free n) h1 h2,
          fun b o e n h2 => by
            rw [ow'.off (ow.free n).2]
            exact un.free b o e (ow.free n).1 h2,
          un.there, fun b xs e => ow'.sub _ _ (un.tups b xs (back ow pl e (fun z => z))), fun b o u e => ow'.sub _ _ (un.frzs b o u (back ow pl e (fun z => z))),
          fun b p e => by
            obtain ⟨m, hm⟩ := un.tbls b p (back ow pl e (fun z => z))
            exact ⟨m, ow'.sub _ _ hm⟩⟩
      · intro a o e
        by_cases hc : ∃ c ∈ cs, c.1 = a
        · obtain ⟨c, hc, rfl⟩ := hc
          rw [ow'.at (p := c.1) (o := c.2) hc] at e
          cases e
          have x := env.hok _ _ (ow.at (p := c.1) (o := c.2) hc)
          have nf : c.1 ∉ frs outer := fun z => by
            have := env.frf _ z
            rw [ow.at (p := c.1) (o := c.2) hc] at this; cases this
          have kp : ∀ u, s.heap.get? c.1 = some u → s'.heap.get? c.1 = some u := fun u e => un.keep _ _ e (ow.fr c hc) nf (by simp)
          have pc := pl c hc
          revert x pc
          cases c.2 with
          | lst xs => intro x _; obtain ⟨z, its, n, r, e⟩ := x; exact ⟨z, its, n, r, kp _ e⟩
          | dK kvs => intro x _; obtain ⟨z, y, vs, r, ob, es, ep, e, c⟩ := x; exact ⟨z, y, vs, r, ob, es, ep, kp _ e, c⟩
          | set S n => intro x _; obtain ⟨ob, es, ep, t, e, c⟩ := x; exact ⟨ob, es, ep, t, kp _ e, c⟩
          | _ => intro x pc; exact pc.elim
        · have e' : G' a = some o := by
            rw [← ow'.off (p := a) fun c hc' z => hc ⟨c, hc', z⟩]; exact e
          exact (ok' a o e').stay (fun b u _ q => q) (fun b q => ow'.sub _ _ q) fun b xs q => ow'.sub _ _ q
end
/-- all cells out of sight -/
theorem Ts.hide {pre : List (Addr × HO)} {st ce : Addr} {G H : Hp} (t : Ts pre st ce G H) (pl : ∀ c ∈ pre, Plain c.2) : ∃ cs, Own cs G H ∧ (∀ c ∈ cs, Plain c.2) ∧ ∀ G' H', Own cs G' H' → Ts pre st ce G' H' := by
  obtain ⟨tk, h, w⟩ := t
  refine ⟨pre ++ tk, w, fun c hc => ?_, fun G' H' w' => ⟨tk, h, w'⟩⟩
  rcases List.mem_append.mp hc with z | z
  · exact pl c z
  · obtain ⟨xs, e⟩ := h.plain c z
    rw [e]; trivial
theorem Ds.hide {pre : List (Addr × HO)} {st : Addr} {G H : Hp} (t : Ds pre st G H) (pl : ∀ c ∈ pre, Plain c.2) : ∃ cs, Own cs G H ∧ (∀ c ∈ cs, Plain c.2) ∧ ∀ G' H', Own cs G' H' → Ds pre st G' H' := by
  obtain ⟨tk, h, w⟩ := t
  refine ⟨pre ++ tk, w, fun c hc => ?_, fun G' H' w' => ⟨tk, h, w'⟩⟩
  rcases List.mem_append.mp hc with z | z
  · exact pl c z
  · obtain ⟨xs, e⟩ := h.plain c z
    rw [e]; trivial
/-! ### data -/
mutual
theorem Dp.same {K : PySem.W.Frag} {H H' : Hp} (s : Same H H') : ∀ {v : V} {d : PyData}, Dp K H v d → Dp K H' v d
  | _, _, .non => .non
  | _, _, .bl b => .bl b
  | _, _, .int i => .int i
  | _, _, .str x => .str x
  | _, _, .lst h ha => .lst (sqL_same s h) (DpAll.same s ha)
  | _, _, .tup h ha => .tup (sqT_same s h) (DpAll.same s ha)
theorem DpAll.same {K : PySem.W.Frag} {H H' : Hp} (s : Same H H') : ∀ {vs : List V} {ds : List PyData}, DpAll K H vs ds → DpAll K H' vs ds
  | _, _, .nil => .nil
  | _, _, .cons h ha => .cons (Dp.same s h) (DpAll.same s ha)
end
section
variable {K : PySem.W.Frag} {H : Hp} {v : V} {d : PyData} {ds : List PyData} {xs : List V}
theorem dp_int {i : Int} : Dp K H v (.int i) ↔ v = .int i := ⟨fun h => by cases h; rfl, fun h => by subst h; exact .int i⟩
theorem dp_str {x : Str} : Dp K H v (.str x) ↔ v = .str x := ⟨fun h => by cases h; rfl, fun h => by subst h; exact .str x⟩
theorem dp_bool {b : Bool} : Dp K H v (.bool b) ↔ v = .bl b := ⟨fun h => by cases h; rfl, fun h => by subst h; exact .bl b⟩
theorem dp_none : Dp K H v .none ↔ v = .non := ⟨fun h => by cases h; rfl, fun h => by subst h; exact .non⟩
theorem dp_tup : Dp K H v (.tuple ds) ↔ ∃ t xs, v = .ref t ∧ SqT K H t xs ∧ DpAll K H xs ds := ⟨fun h => by cases h with | tup a b => exact ⟨_, _, rfl, a, b⟩, fun ⟨t, xs, e, a, b⟩ => by subst e; exact .tup a b⟩
theorem dp_lst : Dp K H v (.list ds) ↔ ∃ t xs, v = .ref t ∧ SqL K H t xs ∧ DpAll K H xs ds := ⟨fun h => by cases h with | lst a b => exact ⟨_, _, rfl, a, b⟩, fun ⟨t, xs, e, a, b⟩ => by subst e; exact .lst a b⟩
theorem dpAll_nil : DpAll K H xs [] ↔ xs = [] := ⟨fun h => by cases h; rfl, fun h => by subst h; exact .nil⟩
theorem dpAll_cons : DpAll K H xs (d :: ds) ↔ ∃ x ys, xs = x :: ys ∧ Dp K H x d ∧ DpAll K H ys ds := ⟨fun h => by cases h with | cons a b => exact ⟨_, _, rfl, a, b⟩, fun ⟨t, xs, e, a, b⟩ => by subst e; exact .cons a b⟩
theorem DpAll.length : ∀ {xs : List V} {ds : List PyData}, DpAll K H xs ds → xs.length = ds.length
  | _, _, .nil => rfl
  | _, _, .cons _ h => by rw [List.length_cons, List.length_cons, DpAll.length h]
theorem DpAll.get : ∀ {xs : List V} {ds : List PyData} {i : Nat} {x : V}, DpAll K H xs ds → xs[i]? = some x → ∃ d, ds[i]? = some d ∧ Dp K H x d
  | _, _, _, _, .nil, e => by simp at e
  | _, _, 0, _, .cons a _, e => by simp at e; subst e; exact ⟨_, rfl, a⟩
  | _, _, i + 1, _, .cons _ b, e => by
    obtain ⟨d, h1, h2⟩ := DpAll.get (i := i) b (by simpa using e)
    exact ⟨d, by simpa using h1, h2⟩
theorem DpAll.back : ∀ {xs : List V} {ds : List PyData} {i : Nat} {d : PyData}, DpAll K H xs ds → ds[i]? = some d → ∃ x, xs[i]? = some x ∧ Dp K H x d
  | _, _, _, _, .nil, e => by simp at e
  | _, _, 0, _, .cons a _, e => by simp at e; subst e; exact ⟨_, rfl, a⟩
  | _, _, i + 1, _, .cons _ b, e => by
    obtain ⟨d, h1, h2⟩ := DpAll.back (i := i) b (by simpa using e)
    exact ⟨d, by simpa using h1, h2⟩
theorem DpAll.app : ∀ {xs ys : List V} {ds es : List PyData}, DpAll K H xs ds → DpAll K H ys es → DpAll K H (xs ++ ys) (ds ++ es)
  | _, _, _, _, .nil, h => h
  | _, _, _, _, .cons a b, h => .cons a (DpAll.app b h)
theorem DpAll.snoc {α : Type} {enc : α → PyData} {as : List α} {a : α} (h : DpAll K H xs (as.map enc)) (h1 : Dp K H v (enc a)) : DpAll K H (xs ++ [v]) ((as ++ [a]).map enc) := by
  rw [List.map_append]; exact DpAll.app h (.cons h1 .nil)
theorem DpAll.take : ∀ {xs : List V} {ds : List PyData} (n : Nat), DpAll K H xs ds → DpAll K H (xs.take n) (ds.take n)
  | _, _, 0, _ => .nil
  | _, _, _ + 1, .nil => .nil
  | _, _, n + 1, .cons a b => .cons a (DpAll.take n b)
theorem DpAll.drop : ∀ {xs : List V} {ds : List PyData} (n : Nat), DpAll K H xs ds → DpAll K H (xs.drop n) (ds.drop n)
  | _, _, 0, h => h
  | _, _, _ + 1, .nil => .nil
  | _, _, n + 1, .cons a b => DpAll.drop n b
theorem DpAll.erase : ∀ {xs : List V} {ds : List PyData} (n : Nat), DpAll K H xs ds → DpAll K H (xs.eraseIdx n) (ds.eraseIdx n)
  | _, _, _, .nil => .nil
  | _, _, 0, .cons a b => b
  | _, _, n + 1, .cons a b => .cons a (DpAll.erase n b)
theorem DpAll.setAt : ∀ {xs : List V} {ds : List PyData} (n : Nat), DpAll K H xs ds → Dp K H v d → DpAll K H (xs.set n v) (ds.set n d)
  | _, _, _, .nil, _ => .nil
  | _, _, 0, .cons a b, h => .cons h b
  | _, _, n + 1, .cons a b, h => .cons a (DpAll.setAt n b h)
theorem dpAll_rev : ∀ {xs : List V} {ds : List PyData}, DpAll K H xs ds → DpAll K H xs.reverse ds.reverse
  | _, _, .nil => .nil
  | _, _, .cons a b => by rw [List.reverse_cons, List.reverse_cons]; exact DpAll.app (dpAll_rev b) (.cons a .nil)
theorem dpAll_ints : ∀ {ns : List Int} {xs : List V}, DpAll K H xs (ns.map .int) ↔ xs = ns.map V.int
  | [], xs => dpAll_nil
  | n :: ns, xs => by
    rw [List.map_cons, dpAll_cons]
    constructor
    · rintro ⟨x, ys, rfl, h1, h2⟩
      rw [dp_int.mp h1, dpAll_ints.mp h2]; rfl
    · intro e; subst e
      exact ⟨_, _, rfl, .int n, dpAll_ints.mpr rfl⟩
theorem dpAll_strs : ∀ {ns : List Str} {xs : List V}, DpAll K H xs (ns.map .str) ↔ xs = ns.map V.str
  | [], xs => dpAll_nil
  | n :: ns, xs => by
    rw [List.map_cons, dpAll_cons]
    constructor
    · rintro ⟨x, ys, rfl, h1, h2⟩
      rw [dp_str.mp h1, dpAll_strs.mp h2]; rfl
    · intro e; subst e
      exact ⟨_, _, rfl, .str n, dpAll_strs.mpr rfl⟩
theorem dpAll_bools : ∀ {bs : List Bool} {xs : List V}, DpAll K H xs (bs.map .bool) ↔ xs = bs.map V.bl
  | [], xs => dpAll_nil
  | n :: ns, xs => by
    rw [List.map_cons, dpAll_cons]
    constructor
    · rintro ⟨x, ys, rfl, h1, h2⟩
      rw [dp_bool.mp h1, dpAll_bools.mp h2]; rfl
    · intro e; subst e
      exact ⟨_, _, rfl, .bl n, dpAll_bools.mpr rfl⟩
theorem DpAll.at {α : Type} {enc : α → PyData} {as : List α} {i : Nat} {x : V} (h : DpAll K H xs (as.map enc)) (e : xs[i]? = some x) : ∃ hi : i < as.length, Dp K H x (enc as[i]) := by
  obtain ⟨d, h1, h2⟩ := DpAll.get h e
  rw [List.getElem?_map] at h1
  obtain ⟨a, ha, rfl⟩ := Option.map_eq_some_iff.mp h1
  obtain ⟨hi, e⟩ := List.getElem?_eq_some_iff.mp ha
  exact ⟨hi, by rw [e]; exact h2⟩
theorem DpAll.to {α : Type} {enc : α → PyData} {as : List α} {i : Nat} (h : DpAll K H xs (as.map enc)) (hi : i < as.length) : ∃ x, xs[i]? = some x ∧ Dp K H x (enc as[i]) :=
  DpAll.back h (by rw [List.getElem?_map, List.getElem?_eq_getElem hi]; rfl)
end
/-! ### what is walked -/
structure Src (K : PySem.W.Frag) (J : It) (n : Nat) (P : Hp → Prop) (Y : Nat → V → Hp → Prop) : Prop where
  stop : ∀ G H, P G → Same G H → J.stop n H
  go : ∀ i G H, i < n → P G → Same G H → J.go i H
  yld : ∀ i cs G H x H', i < n → P G → Own cs G H → J.yld i H x H' → ∃ G', Same G G' ∧ Own cs G' H' ∧ Y i x G'
  mono : ∀ G G', P G → Same G G' → P G'
section
variable {K : PySem.W.Frag} {α β : Type}
theorem src_list {a : Addr} (as : List α) (enc : α → PyData) : Src K (Itl K a) as.length (fun G => ∃ xs, SqL K G a xs ∧ DpAll K G xs (as.map enc)) (fun i x G => ∃ h : i < as.length, Dp K G x (enc as[i])) where
  stop := fun G H ⟨xs, h, d⟩ s => ⟨xs, sqL_same s h, by have := DpAll.length d; rw [List.length_map] at this; omega⟩
  go := fun i G H hi ⟨xs, h, d⟩ s => by
    obtain ⟨x, e, _⟩ := DpAll.to d hi
    exact ⟨xs, x, sqL_same s h, e⟩
  yld := fun i cs G H x H' hi ⟨xs, h, d⟩ w ⟨e, hy⟩ => by
    subst e
    exact ⟨G, Same.refl _, w, DpAll.at d (hy xs (sqL_same w.sub h))⟩
  mono := fun G G' ⟨xs, h, d⟩ s => ⟨xs, sqL_same s h, DpAll.same s d⟩
theorem src_tup {a : Addr} (as : List α) (enc : α → PyData) : Src K (Itt K a) as.length (fun G => ∃ xs, SqT K G a xs ∧ DpAll K G xs (as.map enc)) (fun i x G => ∃ h : i < as.length, Dp K G x (enc as[i])) where
  stop := fun G H ⟨xs, h, d⟩ s => ⟨xs, sqT_same s h, by have := DpAll.length d; rw [List.length_map] at this; omega⟩
  go := fun i G H hi ⟨xs, h, d⟩ s => by
    obtain ⟨x, e, _⟩ := DpAll.to d hi
    exact ⟨xs, x, sqT_same s h, e⟩
  yld := fun i cs G H x H' hi ⟨xs, h, d⟩ w ⟨e, hy⟩ => by
    subst e
    exact ⟨G, Same.refl _, w, DpAll.at d (hy xs (sqT_same w.sub h))⟩
  mono := fun G G' ⟨xs, h, d⟩ s => ⟨xs, sqT_same s h, DpAll.same s d⟩
theorem src_range {lo : Int} {n : Nat} : Src K (Itr lo n) n (fun _ => True) (fun i x _ => i < n ∧ x = .int (lo + i)) where
  stop := fun _ _ _ _ => Nat.le_refl _
  go := fun i _ _ hi _ _ => hi
  yld := fun i cs G H x H' hi _ w ⟨e, hy⟩ => by subst e; exact ⟨G, Same.refl _, w, hi, hy⟩
  mono := fun _ _ _ _ => trivial
theorem src_rangeC {lo c : Int} {n : Nat} : Src K (Itc lo c n) n (fun _ => True) (fun i x _ => i < n ∧ x = .int (lo + (i : Nat) * c)) where
  stop := fun _ _ _ _ => Nat.le_refl _
  go := fun i _ _ hi _ _ => hi
  yld := fun i cs G H x H' hi _ w ⟨e, hy⟩ => by subst e; exact ⟨G, Same.refl _, w, hi, hy⟩
  mono := fun _ _ _ _ => trivial
theorem src_enum {a : Addr} (as : List α) (enc : α → PyData) : Src K (Ite K a) as.length (fun G => ∃ xs, SqL K G a xs ∧ DpAll K G xs (as.map enc)) (fun i v G => ∃ h : i < as.length, ∃ T x, v = .ref T ∧ SqT K G T [.int (i : Nat), x] ∧ Dp K G x (enc as[i])) where
  stop := fun G H ⟨xs, h, d⟩ s => ⟨xs, sqL_same s h, by have := DpAll.length d; rw [List.length_map] at this; omega⟩
  go := fun i G H hi ⟨xs, h, d⟩ s => by
    obtain ⟨x, e, _⟩ := DpAll.to d hi
    exact ⟨xs, x, sqL_same s h, e⟩
  yld := fun i cs G H x H' hi ⟨xs, h, d⟩ w ⟨T, y, e1, nT, e2, hy⟩ => by
    subst e1 e2
    have s := Go.Same.new (o := .tup [.int (i : Nat), y]) (Same.refl G) (w.free nT).1
    obtain ⟨hi, d1⟩ := DpAll.at d (hy xs (sqL_same w.sub h))
    exact ⟨_, s, w.alloc nT, hi, T, y, rfl, SqT.of upd_same, Dp.same s d1⟩
  mono := fun G G' ⟨xs, h, d⟩ s => ⟨xs, sqL_same s h, DpAll.same s d⟩
theorem src_zip {a b : Addr} (as : List α) (enc : α → PyData) (bs : List β) (enc' : β → PyData) : Src K (Itz K a b) (min as.length bs.length) (fun G => (∃ xs, SqL K G a xs ∧ DpAll K G xs (as.map enc)) ∧ ∃ ys, SqL K G b ys ∧ DpAll K G ys (bs.map enc'))
    (fun i v G => ∃ (h1 : i < as.length) (h2 : i < bs.length) (T : Addr) (x y : V), v = .ref T ∧ SqT K G T [x, y] ∧ Dp K G x (enc as[i]) ∧ Dp K G y (enc' bs[i])) where
  stop := fun G H ⟨⟨xs, h, d⟩, ys, h', d'⟩ s => ⟨xs, ys, sqL_same s h, sqL_same s h', by have q1 := DpAll.length d; have q2 := DpAll.length d'; rw [List.length_map] at q1 q2; omega⟩
  go := fun i G H hi ⟨⟨xs, h, d⟩, ys, h', d'⟩ s => by
    obtain ⟨x, e, _⟩ := DpAll.to (i := i) d (by omega)
    obtain ⟨y, e', _⟩ := DpAll.to (i := i) d' (by omega)
    exact ⟨xs, ys, x, y, sqL_same s h, sqL_same s h', e, e'⟩
  yld := fun i cs G H x H' hi ⟨⟨xs, h, d⟩, ys, h', d'⟩ w ⟨T, x1, y1, e1, nT, e2, hx, hy⟩ => by
    subst e1 e2
    have s := Go.Same.new (o := .tup [x1, y1]) (Same.refl G) (w.free nT).1
    obtain ⟨hi, d1⟩ := DpAll.at d (hx xs (sqL_same w.sub h))
    obtain ⟨hi', d2⟩ := DpAll.at d' (hy ys (sqL_same w.sub h'))
    exact ⟨_, s, w.alloc nT, hi, hi', T, x1, y1, rfl, SqT.of upd_same, Dp.same s d1, Dp.same s d2⟩
  mono := fun G G' ⟨⟨xs, h, d⟩, ys, h', d'⟩ s => ⟨⟨xs, sqL_same s h, DpAll.same s d⟩, ys, sqL_same s h', DpAll.same s d'⟩
theorem src_rev {a : Addr} (as : List α) (enc : α → PyData) : Src K (Itv K a as.length) as.length (fun G => ∃ xs, SqL K G a xs ∧ DpAll K G xs (as.map enc)) (fun i x G => ∃ h : as.length - 1 - i < as.length, Dp K G x (enc as[as.length - 1 - i])) where
  stop := fun G H _ s => Nat.le_refl _
  go := fun i G H hi ⟨xs, h, d⟩ s => by
    obtain ⟨x, e, _⟩ := DpAll.to (i := as.length - 1 - i) d (by omega)
    exact ⟨hi, xs, x, sqL_same s h, e⟩
  yld := fun i cs G H x H' hi ⟨xs, h, d⟩ w ⟨e, hy⟩ => by
    subst e
    exact ⟨G, Same.refl _, w, DpAll.at d (hy xs (sqL_same w.sub h))⟩
  mono := fun G G' ⟨xs, h, d⟩ s => ⟨xs, sqL_same s h, DpAll.same s d⟩
theorem src_str {x : Str} : Src K (Its x) x.cps.toList.length (fun _ => True) (fun i v _ => ∃ h : i < x.cps.toList.length, v = .str ⟨#[x.cps.toList[i]]⟩) where
  stop := fun _ _ _ _ => by show x.cps.size ≤ _; simp
  go := fun i _ _ hi _ _ => by show i < x.cps.size; simpa using hi
  yld := fun i cs G H v H' hi _ w ⟨e, c, hc, hv⟩ => by
    subst e
    refine ⟨G, Same.refl _, w, hi, ?_⟩
    rw [hv]
    have : x.cps.toList[i]? = some c := by rw [Array.getElem?_toList]; exact hc
    obtain ⟨_, e⟩ := List.getElem?_eq_some_iff.mp this
    rw [e]
  mono := fun _ _ _ _ => trivial
end
/-! ### comprehensions -/
section
variable {K : PySem.W.Frag} {β : Type} {J : It} {n : Nat} {P : Hp → Prop} {Y : Nat → V → Hp → Prop} {g : TG} {tt : TT} {te : TE} {vs : List Nat} {σ : L2.St} {H1 : Hp} {D : Addr} {Qd : Hp → Prop} {cs : List (Addr × HO)} {G : Hp}
/-- what an element must give -/
def Elt (K : PySem.W.Frag) (enc : β → PyData) (I : List (Addr × HO) → List β → Prop) (D : Addr) (ys : List V) (bs : List β) (G1 : Hp) : VK := fun y H4 => ∃ cs' G2 b, Own ((D, .lst ys) :: cs') G2 H4 ∧ Same G1 G2 ∧ Dp K G2 y (enc b) ∧ I cs' (bs ++ [b])
/-- what a test that says no must give -/
def Eno (I : List (Addr × HO) → List β → Prop) (D : Addr) (ys : List V) (bs : List β) (G1 : Hp) (H4 : Hp) : Prop := ∃ cs' G2, Own ((D, .lst ys) :: cs') G2 H4 ∧ Same G1 G2 ∧ I cs' bs
theorem lcO (S : Src K J n P Y) (enc : β → PyData) (I : Nat → List (Addr × HO) → List β → Prop) (ow : Own cs G H1) (hP : P G) (nD : H1 D = none) (h0 : I 0 cs []) (hn : n < sizeLine)
    (step : ∀ i x cs bs ys G1 H2 (R : VK) (Z : Hp → Prop), i < n → I i cs bs → bs.length ≤ i → Same G G1 → Own ((D, .lst ys) :: cs) G1 H2 → DpAll K G1 ys (bs.map enc) → Y i x G1 →
      (∀ y H4, Elt K enc (I (i + 1)) D ys bs G1 y H4 → R y H4) → (∀ H4, Eno (I (i + 1)) D ys bs G1 H4 → Z H4) →
      g x (wipe σ vs) H2 fun σ2 H3 => wipe σ2 vs = wipe σ vs ∧ tt σ2 H3 fun b H4 => if b = true then te σ2 H4 R else Z H4)
    (hd : ∀ cs' G' H' ys bs, Same G G' → Own ((D, .lst ys) :: cs') G' H' → DpAll K G' ys (bs.map enc) → I n cs' bs → Qd H') : LcW J g tt te vs σ H1 D Qd := by
  refine ⟨fun i m H => m = n - i ∧ i ≤ n ∧ ∃ cs G1 ys bs, Same G G1 ∧ Own ((D, .lst ys) :: cs) G1 H ∧ DpAll K G1 ys (bs.map enc) ∧ bs.length ≤ i ∧ I i cs bs,
    ⟨n, rfl, Nat.zero_le _, cs, G, [], [], Same.refl _, ow.grab nD, .nil, Nat.le_refl _, h0⟩, ?_⟩
  rintro i m H ⟨rfl, hi, cs1, G1, ys, bs, s1, ow1, d1, l1, i1⟩
  have p1 := S.mono _ _ hP s1
  by_cases e : i = n
  · subst e
    exact .inl ⟨S.stop _ _ p1 ow1.sub, hd _ _ _ _ _ s1 ow1 d1 i1⟩
  have lt : i < n := by omega
  refine .inr ⟨S.go _ _ _ lt p1 ow1.sub, fun H' => i + 1 ≤ n ∧ ∃ cs G1 ys bs, Same G G1 ∧ Own ((D, .lst ys) :: cs) G1 H' ∧ DpAll K G1 ys (bs.map enc) ∧ bs.length ≤ i + 1 ∧ I (i + 1) cs bs, fun H' p => ⟨_, by omega, rfl, p.1, p.2⟩, ?_⟩
  intro x H' hy
  obtain ⟨G2, s2, ow2, y2⟩ := S.yld _ _ _ _ _ _ lt p1 ow1 hy
  have ly : ys.length < sizeLine := by have := DpAll.length d1; rw [List.length_map] at this; omega
  exact step i x cs1 bs ys G2 H' _ _ lt i1 l1 (s1.trans s2) ow2 (DpAll.same s2 d1) y2
    (fun y H4 ⟨cs', G3, b, ow3, s3, d3, i3⟩ => ⟨ys, ow3.at (List.mem_cons_self ..), ly, lt, cs', G3, ys ++ [y], bs ++ [b], (s1.trans s2).trans s3, ow3.set, DpAll.snoc (DpAll.same (s2.trans s3) d1) d3, by rw [List.length_append, List.length_singleton]; omega, i3⟩)
    (fun H4 ⟨cs', G3, ow3, s3, i3⟩ => ⟨lt, cs', G3, ys, bs, (s1.trans s2).trans s3, ow3, DpAll.same (s2.trans s3) d1, by omega, i3⟩)
/-- elements by a function of the place, no test -/
theorem lcF (S : Src K J n P Y) (enc : β → PyData) (f : Nat → β) (ow : Own cs G H1) (hP : P G) (nD : H1 D = none) (hn : n < sizeLine)
    (step : ∀ i x ys G1 H2 (R : VK) (Z : Hp → Prop), i < n → Same G G1 → Own ((D, .lst ys) :: cs) G1 H2 → Y i x G1 → (∀ y H4 G2, Own ((D, .lst ys) :: cs) G2 H4 → Same G1 G2 → Dp K G2 y (enc (f i)) → R y H4) →
      g x (wipe σ vs) H2 fun σ2 H3 => wipe σ2 vs = wipe σ vs ∧ tYes σ2 H3 fun b H4 => if b = true then te σ2 H4 R else Z H4)
    (hd : ∀ G' H' ys, Same G G' → Own ((D, .lst ys) :: cs) G' H' → DpAll K G' ys (((List.range n).map f).map enc) → Qd H') : LcW J g tYes te vs σ H1 D Qd := by
  refine lcO S enc (fun i cs' bs => cs' = cs ∧ bs = (List.range i).map f) ow hP nD ⟨rfl, rfl⟩ hn ?_ ?_
  · rintro i x cs' bs ys G1 H2 R Z hi ⟨rfl, rfl⟩ _ s1 ow1 d1 y1 hR _
    refine step i x ys G1 H2 R Z hi s1 ow1 y1 fun y H4 G2 ow2 s2 d2 => hR _ _ ⟨cs', G2, f i, ow2, s2, d2, rfl, ?_⟩
    rw [List.range_succ, List.map_append]; rfl
  · rintro cs' G' H' ys bs s1 ow1 d1 ⟨rfl, rfl⟩
    exact hd G' H' ys s1 ow1 d1
/-- elements by a function of the place, where a test of the place says yes -/
theorem lcP (S : Src K J n P Y) (enc : β → PyData) (p : Nat → Bool) (f : Nat → β) (ow : Own cs G H1) (hP : P G) (nD : H1 D = none) (hn : n < sizeLine)
    (step : ∀ i x ys G1 H2 (R : VK) (Z : Hp → Prop), i < n → Same G G1 → Own ((D, .lst ys) :: cs) G1 H2 → Y i x G1 → (p i = true → ∀ y H4 G2, Own ((D, .lst ys) :: cs) G2 H4 → Same G1 G2 → Dp K G2 y (enc (f i)) → R y H4) →
      (p i = false → ∀ H4 G2, Own ((D, .lst ys) :: cs) G2 H4 → Same G1 G2 → Z H4) →
      g x (wipe σ vs) H2 fun σ2 H3 => wipe σ2 vs = wipe σ vs ∧ tt σ2 H3 fun b H4 => if b = true then te σ2 H4 R else Z H4)
    (hd : ∀ G' H' ys, Same G G' → Own ((D, .lst ys) :: cs) G' H' → DpAll K G' ys ((((List.range n).filter p).map f).map enc) → Qd H') : LcW J g tt te vs σ H1 D Qd := by
  refine lcO S enc (fun i cs' bs => cs' = cs ∧ bs = ((List.range i).filter p).map f) ow hP nD ⟨rfl, rfl⟩ hn ?_ ?_
  · rintro i x cs' bs ys G1 H2 R Z hi ⟨rfl, rfl⟩ _ s1 ow1 d1 y1 hR hZ
    refine step i x ys G1 H2 R Z hi s1 ow1 y1 (fun hp y H4 G2 ow2 s2 d2 => hR _ _ ⟨cs', G2, f i, ow2, s2, d2, rfl, ?_⟩) (fun hp H4 G2 ow2 s2 => hZ _ ⟨cs', G2, ow2, s2, rfl, ?_⟩)
    · rw [List.range_succ, List.filter_append, List.filter_cons_of_pos hp, List.filter_nil, List.map_append]; rfl
    · rw [List.range_succ, List.filter_append, List.filter_cons_of_neg (by rw [hp]; decide), List.filter_nil, List.append_nil]
  · rintro cs' G' H' ys bs s1 ow1 d1 ⟨rfl, rfl⟩
    exact hd G' H' ys s1 ow1 d1
theorem range_map_get {α : Type} (as : List α) (f : α → β) (d : α) : (List.range as.length).map (fun i => f (as.getD i d)) = as.map f := by
  refine List.ext_getElem (by simp) fun i h1 h2 => ?_
  have hi : i < as.length := by simpa using h1
  simp [List.getD_eq_getElem?_getD, List.getElem?_eq_getElem hi]
theorem range_filter_get {α : Type} (as : List α) (p : α → Bool) (f : α → β) (d : α) : ((List.range as.length).filter fun i => p (as.getD i d)).map (fun i => f (as.getD i d)) = (as.filter p).map f := by
  have h : (List.range as.length).map (fun i => as.getD i d) = as := by
    have := range_map_get as id d
    simpa using this
  have h2 : ∀ l : List Nat, (l.filter fun i => p (as.getD i d)).map (fun i => f (as.getD i d)) = ((l.map fun i => as.getD i d).filter p).map f := by
    intro l
    rw [List.filter_map, List.map_map]; rfl
  rw [h2, h]
/-! ### for -/
theorem forO {tb : TS} {DD : Ends} (S : Src K J n P Y) (I : Nat → L2.St → List (Addr × HO) → Hp → Prop) (ow : Own cs G H1) (hP : P G) (h0 : I 0 σ cs G)
    (step : ∀ i x σ cs G G1 H2, i < n → P G → I i σ cs G → Same G G1 → Own cs G1 H2 → Y i x G1 → ∀ N : L2.St → Hp → Prop, (∀ σ' H' cs' G', Own cs' G' H' → Same G G' → I (i + 1) σ' cs' G' → N σ' H') →
      g x σ H2 fun σ2 H3 => tb { DD with nx := N, ct := N, bk := DD.nx } σ2 H3)
    (hd : ∀ σ' H' cs' G', Own cs' G' H' → P G' → I n σ' cs' G' → DD.nx σ' H') : ForW J g tb DD σ H1 := by
  refine ⟨fun i m σ H => m = n - i ∧ i ≤ n ∧ ∃ cs G, Own cs G H ∧ P G ∧ I i σ cs G, ⟨n, rfl, Nat.zero_le _, cs, G, ow, hP, h0⟩, ?_⟩
  rintro i m σ H ⟨rfl, hi, cs1, G1, ow1, p1, i1⟩
  by_cases e : i = n
  · subst e
    exact .inl ⟨S.stop _ _ p1 ow1.sub, hd _ _ _ _ ow1 p1 i1⟩
  have lt : i < n := by omega
  refine .inr ⟨S.go _ _ _ lt p1 ow1.sub, fun σ' H' => i + 1 ≤ n ∧ ∃ cs G, Own cs G H' ∧ P G ∧ I (i + 1) σ' cs G, fun σ' H' p => ⟨_, by omega, rfl, p.1, p.2⟩, ?_⟩
  intro x H' hy
  obtain ⟨G2, s2, ow2, y2⟩ := S.yld _ _ _ _ _ _ lt p1 ow1 hy
  exact step i x σ cs1 G1 G2 H' lt p1 i1 s2 ow2 y2 _ fun σ' H' cs' G' ow' s' i' => ⟨lt, cs', G', ow', S.mono _ _ p1 s', i'⟩
/-- .. beside a law's draws -/
theorem forT {tb : TS} {DD : Ends} {pre : List (Addr × HO)} {st ce : Addr} (S : Src K J n P Y) (I : Nat → L2.St → List (Addr × HO) → Hp → Prop) (t : Ts pre st ce G H1) (hP : P G) (h0 : I 0 σ pre G)
    (step : ∀ i x σ pre G G1 H2, i < n → P G → I i σ pre G → Same G G1 → Ts pre st ce G1 H2 → Y i x G1 → ∀ N : L2.St → Hp → Prop, (∀ σ' H' pre' G', Ts pre' st ce G' H' → Same G G' → I (i + 1) σ' pre' G' → N σ' H') →
      g x σ H2 fun σ2 H3 => tb { DD with nx := N, ct := N, bk := DD.nx } σ2 H3)
    (hd : ∀ σ' H' pre' G', Ts pre' st ce G' H' → P G' → I n σ' pre' G' → DD.nx σ' H') : ForW J g tb DD σ H1 := by
  obtain ⟨tk, htk, w⟩ := t
  refine forO S (fun i σ cs G => ∃ pre tk, cs = pre ++ tk ∧ TK st ce tk ∧ I i σ pre G) w hP ⟨pre, tk, rfl, htk, h0⟩ ?_ ?_
  · rintro i x σ _ G G1 H2 hi hp ⟨pre, tk, rfl, htk, i1⟩ s1 w1 y1 N hN
    exact step i x σ pre G G1 H2 hi hp i1 s1 ⟨tk, htk, w1⟩ y1 N fun σ' H' pre' G' ⟨tk', htk', w'⟩ s' i' => hN σ' H' _ G' w' s' ⟨pre', tk', rfl, htk', i'⟩
  · rintro σ' H' _ G' w' hp ⟨pre', tk', rfl, htk', i'⟩
    exact hd σ' H' pre' G' ⟨tk', htk', w'⟩ hp i'
theorem forD {tb : TS} {DD : Ends} {pre : List (Addr × HO)} {st : Addr} (S : Src K J n P Y) (I : Nat → L2.St → List (Addr × HO) → Hp → Prop) (t : Ds pre st G H1) (hP : P G) (h0 : I 0 σ pre G)
    (step : ∀ i x σ pre G G1 H2, i < n → P G → I i σ pre G → Same G G1 → Ds pre st G1 H2 → Y i x G1 → ∀ N : L2.St → Hp → Prop, (∀ σ' H' pre' G', Ds pre' st G' H' → Same G G' → I (i + 1) σ' pre' G' → N σ' H') →
      g x σ H2 fun σ2 H3 => tb { DD with nx := N, ct := N, bk := DD.nx } σ2 H3)
    (hd : ∀ σ' H' pre' G', Ds pre' st G' H' → P G' → I n σ' pre' G' → DD.nx σ' H') : ForW J g tb DD σ H1 := by
  obtain ⟨tk, htk, w⟩ := t
  refine forO S (fun i σ cs G => ∃ pre tk, cs = pre ++ tk ∧ DK st tk ∧ I i σ pre G) w hP ⟨pre, tk, rfl, htk, h0⟩ ?_ ?_
  · rintro i x σ _ G G1 H2 hi hp ⟨pre, tk, rfl, htk, i1⟩ s1 w1 y1 N hN
    exact step i x σ pre G G1 H2 hi hp i1 s1 ⟨tk, htk, w1⟩ y1 N fun σ' H' pre' G' ⟨tk', htk', w'⟩ s' i' => hN σ' H' _ G' w' s' ⟨pre', tk', rfl, htk', i'⟩
  · rintro σ' H' _ G' w' hp ⟨pre', tk', rfl, htk', i'⟩
    exact hd σ' H' pre' G' ⟨tk', htk', w'⟩ hp i'
theorem lcT {pre : List (Addr × HO)} {st ce : Addr} (S : Src K J n P Y) (enc : β → PyData) (I : Nat → List β → Prop) (t : Ts pre st ce G H1) (hP : P G) (nD : H1 D = none) (h0 : I 0 []) (hn : n < sizeLine)
    (step : ∀ i x bs ys G1 H2 (R : VK) (Z : Hp → Prop), i < n → I i bs → bs.length ≤ i → Same G G1 → Ts ((D, .lst ys) :: pre) st ce G1 H2 → Y i x G1 →
      (∀ y H4 G2 b, Ts ((D, .lst ys) :: pre) st ce G2 H4 → Same G1 G2 → Dp K G2 y (enc b) → I (i + 1) (bs ++ [b]) → R y H4) → (∀ H4 G2, Ts ((D, .lst ys) :: pre) st ce G2 H4 → Same G1 G2 → I (i + 1) bs → Z H4) →
      g x (wipe σ vs) H2 fun σ2 H3 => wipe σ2 vs = wipe σ vs ∧ tt σ2 H3 fun b H4 => if b = true then te σ2 H4 R else Z H4)
    (hd : ∀ G' H' ys bs, Same G G' → Ts ((D, .lst ys) :: pre) st ce G' H' → DpAll K G' ys (bs.map enc) → I n bs → Qd H') : LcW J g tt te vs σ H1 D Qd := by
  obtain ⟨tk, htk, w⟩ := t
  refine lcO S enc (fun i cs bs => ∃ tk, cs = pre ++ tk ∧ TK st ce tk ∧ I i bs) w hP nD ⟨tk, rfl, htk, h0⟩ hn ?_ ?_
  · rintro i x _ bs ys G1 H2 R Z hi ⟨tk, rfl, htk, i1⟩ lb s1 w1 d1 y1 hR hZ
    exact step i x bs ys G1 H2 R Z hi i1 lb s1 ⟨tk, htk, w1⟩ y1 (fun y H4 G2 b ⟨tk', htk', w'⟩ s' d' i' => hR y H4 ⟨pre ++ tk', G2, b, w', s', d', tk', rfl, htk', i'⟩) (fun H4 G2 ⟨tk', htk', w'⟩ s' i' => hZ H4 ⟨pre ++ tk', G2, w', s', tk', rfl, htk', i'⟩)
  · rintro _ G' H' ys bs s' w' d' ⟨tk', rfl, htk', i'⟩
    exact hd G' H' ys bs s' ⟨tk', htk', w'⟩ d' i'
theorem lcD {pre : List (Addr × HO)} {st : Addr} (S : Src K J n P Y) (enc : β → PyData) (I : Nat → List β → Prop) (t : Ds pre st G H1) (hP : P G) (nD : H1 D = none) (h0 : I 0 []) (hn : n < sizeLine)
    (step : ∀ i x bs ys G1 H2 (R : VK) (Z : Hp → Prop), i < n → I i bs → bs.length ≤ i → Same G G1 → Ds ((D, .lst ys) :: pre) st G1 H2 → Y i x G1 →
      (∀ y H4 G2 b, Ds ((D, .lst ys) :: pre) st G2 H4 → Same G1 G2 → Dp K G2 y (enc b) → I (i + 1) (bs ++ [b]) → R y H4) → (∀ H4 G2, Ds ((D, .lst ys) :: pre) st G2 H4 → Same G1 G2 → I (i + 1) bs → Z H4) →
      g x (wipe σ vs) H2 fun σ2 H3 => wipe σ2 vs = wipe σ vs ∧ tt σ2 H3 fun b H4 => if b = true then te σ2 H4 R else Z H4)
    (hd : ∀ G' H' ys bs, Same G G' → Ds ((D, .lst ys) :: pre) st G' H' → DpAll K G' ys (bs.map enc) → I n bs → Qd H') : LcW J g tt te vs σ H1 D Qd := by
  obtain ⟨tk, htk, w⟩ := t
  refine lcO S enc (fun i cs bs => ∃ tk, cs = pre ++ tk ∧ DK st tk ∧ I i bs) w hP nD ⟨tk, rfl, htk, h0⟩ hn ?_ ?_
  · rintro i x _ bs ys G1 H2 R Z hi ⟨tk, rfl, htk, i1⟩ lb s1 w1 d1 y1 hR hZ
    exact step i x bs ys G1 H2 R Z hi i1 lb s1 ⟨tk, htk, w1⟩ y1 (fun y H4 G2 b ⟨tk', htk', w'⟩ s' d' i' => hR y H4 ⟨pre ++ tk', G2, b, w', s', d', tk', rfl, htk', i'⟩) (fun H4 G2 ⟨tk', htk', w'⟩ s' i' => hZ H4 ⟨pre ++ tk', G2, w', s', tk', rfl, htk', i'⟩)
  · rintro _ G' H' ys bs s' w' d' ⟨tk', rfl, htk', i'⟩
    exact hd G' H' ys bs s' ⟨tk', htk', w'⟩ d' i'
theorem plain1 {p : Addr} {xs : List V} : ∀ c ∈ [(p, HO.lst xs)], Plain c.2 := fun c hc => by rw [List.mem_singleton.mp hc]; trivial
theorem plain0 : ∀ c ∈ ([] : List (Addr × HO)), Plain c.2 := fun c hc => nomatch hc
theorem plain2 {p q : Addr} {xs ys : List V} : ∀ c ∈ [(p, HO.lst xs), (q, HO.lst ys)], Plain c.2 := fun c hc => by
  rcases List.mem_cons.mp hc with z | z
  · rw [z]; trivial
  · rw [List.mem_singleton.mp z]; trivial
theorem plainC {p : Addr} {xs : List V} {cs : List (Addr × HO)} (h : ∀ c ∈ cs, Plain c.2) : ∀ c ∈ (p, HO.lst xs) :: cs, Plain c.2 := fun c hc => by
  rcases List.mem_cons.mp hc with z | z
  · rw [z]; trivial
  · exact h c z
end
/-! ### sorted -/
section
open PySem.W
variable {X : Cx}
theorem vals_each {R : Value → V → Prop} : ∀ {xs : List V} {us : List Value}, Vals xs us → (∀ x u, x ∈ xs → RelV x u → R u x) → EachIs R us xs
  | _, _, .nil, _ => .nil
  | _, _, .cons r rs, h => .cons (h _ _ (List.mem_cons_self ..) r) (vals_each rs fun x u hx => h x u (List.mem_cons_of_mem _ hx))
theorem each_data {β : Type} {enc : β → PyData} {K : PySem.W.Frag} {H : Hp} {R : Value → β → Prop} : ∀ {xs : List V} {us : List Value} {bs : List β}, Vals xs us → DpAll K H xs (bs.map enc) → (∀ x u b, x ∈ xs → RelV x u → Dp K H x (enc b) → R u b) → EachIs R us bs
  | _, _, [], .nil, _, _ => .nil
  | _, _, [], .cons _ _, d, _ => by cases d
  | _, _, _ :: _, .nil, d, _ => by cases d
  | _, _, b :: bs, .cons r rs, d, h => by
    rw [List.map_cons] at d
    cases d with
    | cons d1 d2 => exact .cons (h _ _ _ (List.mem_cons_self ..) r d1) (each_data rs d2 fun x u b hx => h x u b (List.mem_cons_of_mem _ hx))
theorem each_out {β : Type} {enc : β → PyData} {K : PySem.W.Frag} {H : Hp} : ∀ {out : List Value} {bs : List β}, EachIs (fun u b => ∃ x, RelV x u ∧ Dp K H x (enc b)) out bs → ∃ ys, Vals ys out ∧ DpAll K H ys (bs.map enc)
  | _, _, .nil => ⟨[], .nil, .nil⟩
  | _, _, .cons ⟨x, r, d⟩ t => by
    obtain ⟨ys, h1, h2⟩ := each_out t
    exact ⟨x :: ys, .cons r h1, .cons d h2⟩
/-- sorted(xs), xs a list of like data: a new list, in order, equal ones in their order -/
def rSortedQ (K : PySem.W.Frag) : List V → Hp → VK → Prop := fun vs H Q => ∃ (a : Addr) (xs : List V) (β : Type) (bs : List β) (enc : β → PyData) (G : Hp), vs = [V.ref a] ∧ SqL K H a xs ∧ Same G H ∧ DpAll K G xs (bs.map enc) ∧ AllAlike (bs.map enc) ∧ Sortable (bs.map enc) ∧
  (∀ b ∈ bs, (enc b).depth ≤ 60) ∧ ∀ ys, DpAll K G ys ((bs.mergeSort (dataLe false enc)).map enc) → NewAt H (.lst ys) Q
theorem cr_sortedQ (hu : X.A.units + 64 < cLine) : CallR X (.builtin "sorted") (rSortedQ X.K) := by
  intro pins s σ H vs us Q I r h
  obtain ⟨a, xs, β, bs, enc, G, rfl, hs, sGH, hd, hal, hk, hdep, q⟩ := h
  obtain ⟨its, rv, hl, hz⟩ := I.list hs
  obtain ⟨u, rfl, ru⟩ := vals1 r
  obtain rfl : u = Value.ref a := ru
  have hv := rv.length
  have hlen : bs.length = its.length := by have := DpAll.length hd; rw [List.length_map] at this; rw [← this, rv.length]
  refine sorted_data (R := fun u b => ∃ x, RelV x u ∧ Dp X.K G x (enc b)) (bs := bs) (enc := enc) hl.isList (each_data rv hd fun x u b _ r d => ⟨x, r, d⟩) (each_data rv hd fun x u b _ r d => Dp.reads I _ _ _ (Dp.same sGH d) r) hal hk (by omega) (fun b hb => by have := hdep b hb; omega) fun out ho eo => ?_
  obtain ⟨ys, r1, d1⟩ := each_out eo
  obtain ⟨c, hc⟩ := sortedAll_at s.heap its out.toArray
  have hf : H (s.heap.objs.size + 1) = none := I.hok.fresh (Nat.le_succ _)
  have kp : ∀ b o, s.heap.get? b = some o → (sortedAll s.heap its out.toArray).get? b = some o := fun b o e => sortedAll_old e
  refine ⟨.ref (s.heap.objs.size + 1), upd H (s.heap.objs.size + 1) (.lst ys), ?_, rfl, q ys d1 _ _ hf rfl⟩
  exact I.laid (t' := s.toks) kp (Nat.le_succ _) ⟨by rw [r1.length, ho]; omega, out, c, r1, hc⟩
end
/-! ### data that repr can show -/
mutual
/-- small leaves, no dict -/
def fit : PyData → Bool
  | .none | .bool _ => true
  | .int i => decide (i.natAbs < 10 ^ 12)
  | .str x => x.cps.toList.all (fun c => decide (c < 16 ^ 8)) && decide (x.cps.size ≤ 1000) && PyData.canLay0 (.str x)
  | .list xs | .tuple xs => fitAll xs
  | .dict _ => false
def fitAll : List PyData → Bool
  | [] => true
  | x :: xs => fit x && fitAll xs
end
mutual
/-- how many leaves and knots -/
def knots : PyData → Nat
  | .none | .bool _ | .int _ | .str _ | .dict _ => 1
  | .list xs | .tuple xs => 1 + knotsAll xs
def knotsAll : List PyData → Nat
  | [] => 0
  | x :: xs => knots x + knotsAll xs
end
mutual
theorem fit_weight : ∀ d : PyData, fit d = true → d.weight + 1 ≤ 1100 * knots d
  | .none, _ => by simp only [PyData.weight, knots]; omega
  | .bool _, _ => by simp only [PyData.weight, knots]; omega
  | .int i, h => by
    simp only [fit, decide_eq_true_eq] at h
    simp only [PyData.weight, knots]
    have h2 : i.natAbs.log2 < 40 := by
      by_cases h0 : i.natAbs = 0
      · rw [h0]; decide
      · exact (Nat.log2_lt h0).mpr (Nat.lt_of_lt_of_le h (by decide))
    first | omega | (split <;> omega)
  | .str x, h => by
    simp only [fit, Bool.and_eq_true, decide_eq_true_eq] at h
    simp only [PyData.weight, knots]
    omega
  | .list xs, h => by
    simp only [fit] at h
    have := fitAll_weight xs h
    simp only [PyData.weight, knots]; omega
  | .tuple xs, h => by
    simp only [fit] at h
    have := fitAll_weight xs h
    simp only [PyData.weight, knots]; omega
  | .dict _, h => by simp [fit] at h
theorem fitAll_weight : ∀ ds : List PyData, fitAll ds = true → PyData.weightAll ds ≤ 1100 * knotsAll ds
  | [], _ => by simp only [PyData.weightAll, knotsAll]; omega
  | d :: ds, h => by
    simp only [fitAll, Bool.and_eq_true] at h
    have h1 := fit_weight d h.1
    have h2 := fitAll_weight ds h.2
    simp only [PyData.weightAll, knotsAll]; omega
end
mutual
theorem fit_facts : ∀ d : PyData, fit d = true → d.showable = true ∧ d.hasDict = false ∧ d.leavesShort 13 = true
  | .none, _ => ⟨rfl, rfl, rfl⟩
  | .bool _, _ => ⟨rfl, rfl, rfl⟩
  | .int i, h => by
    simp only [fit, decide_eq_true_eq] at h
    have h2 : i.natAbs.log2 < 1920 := by
      by_cases h0 : i.natAbs = 0
      · rw [h0]; decide
      · exact Nat.lt_trans ((Nat.log2_lt h0).mpr (Nat.lt_of_lt_of_le h (by decide : 10 ^ 12 ≤ 2 ^ 40))) (by decide)
    exact ⟨by simp only [PyData.showable]; exact decide_eq_true h2, rfl, by simp only [PyData.leavesShort]; exact decide_eq_true (PyData.shown_int_le h)⟩
  | .str x, h => by
    simp only [fit, Bool.and_eq_true, decide_eq_true_eq] at h
    exact ⟨rfl, rfl, by simp only [PyData.leavesShort]; exact h.1.1⟩
  | .list xs, h => by
    simp only [fit] at h
    have := fitAll_facts xs h
    exact ⟨by simp only [PyData.showable]; exact this.1, by simp only [PyData.hasDict]; exact this.2.1, by simp only [PyData.leavesShort]; exact this.2.2⟩
  | .tuple xs, h => by
    simp only [fit] at h
    have := fitAll_facts xs h
    exact ⟨by simp only [PyData.showable]; exact this.1, by simp only [PyData.hasDict]; exact this.2.1, by simp only [PyData.leavesShort]; exact this.2.2⟩
  | .dict _, h => by simp [fit] at h
theorem fitAll_facts : ∀ ds : List PyData, fitAll ds = true → PyData.showableAll ds = true ∧ PyData.hasDictAll ds = false ∧ PyData.leavesShortAll 13 ds = true
  | [], _ => ⟨rfl, rfl, rfl⟩
  | d :: ds, h => by
    simp only [fitAll, Bool.and_eq_true] at h
    obtain ⟨a1, a2, a3⟩ := fit_facts d h.1
    obtain ⟨b1, b2, b3⟩ := fitAll_facts ds h.2
    exact ⟨by simp only [PyData.showableAll, a1, b1, Bool.and_self], by simp only [PyData.hasDictAll, a2, b2, Bool.or_self], by simp only [PyData.leavesShortAll, a3, b3, Bool.and_self]⟩
end
theorem fit_shown {d : PyData} (h : fit d = true) (hk : knots d ≤ 900) : d.shown.length ≤ sizeLine :=
  PyData.shown_fits (B := 13) (by decide) (by decide) (fit_facts d h).2.2 (by have := fit_weight d h; omega)
theorem fitAll_map {α : Type} {enc : α → PyData} : ∀ {as : List α}, (∀ a ∈ as, fit (enc a) = true) → fitAll (as.map enc) = true
  | [], _ => rfl
  | a :: as, h => by
    rw [List.map_cons, fitAll, h a (List.mem_cons_self ..), fitAll_map fun b hb => h b (List.mem_cons_of_mem _ hb)]; rfl
theorem knotsAll_map {α : Type} {enc : α → PyData} {k : Nat} : ∀ {as : List α}, (∀ a ∈ as, knots (enc a) ≤ k) → knotsAll (as.map enc) ≤ as.length * k
  | [], _ => by simp [knotsAll]
  | a :: as, h => by
    have h1 := h a (List.mem_cons_self ..)
    have h2 := knotsAll_map (as := as) fun b hb => h b (List.mem_cons_of_mem _ hb)
    rw [List.map_cons, knotsAll, List.length_cons, Nat.add_mul]; omega
mutual
theorem fit_lay : ∀ d : PyData, fit d = true → d.canLay0 = true
  | .none, _ => rfl
  | .bool _, _ => rfl
  | .int i, _ => rfl
  | .str x, h => by
    simp only [fit, Bool.and_eq_true] at h
    exact h.2
  | .list xs, h => by
    simp only [fit] at h
    simp only [PyData.canLay0]; exact fitAll_lay xs h
  | .tuple xs, h => by
    simp only [fit] at h
    simp only [PyData.canLay0]; exact fitAll_lay xs h
  | .dict _, h => by simp [fit] at h
theorem fitAll_lay : ∀ ds : List PyData, fitAll ds = true → PyData.canLayAll0 ds = true
  | [], _ => rfl
  | d :: ds, h => by
    simp only [fitAll, Bool.and_eq_true] at h
    simp only [PyData.canLayAll0, fit_lay d h.1, fitAll_lay ds h.2, Bool.and_self]
end
theorem fit_shaped {d : PyData} (h : fit d = true) (hd : d.depth ≤ 60) : SeqAt.shaped d = true := by
  unfold SeqAt.shaped
  rw [fit_lay d h, Bool.true_and]
  exact decide_eq_true (by omega)
theorem fit_refl {d : PyData} (h : fit d = true) : PyData.eqv d d = true := SeqAt.eqv_refl _ (fit_lay d h)
theorem rd_isi {K : PySem.W.Frag} {H : Hp} {x : V} {a c : String} {b : Bool} {Q : VK} (hx : TyX K H x (.type a)) (e : kitB a c = some b) (q : Q (.bl b) H) : rIsi K [x, .ty c] H Q := ⟨x, .ty c, .type a, .type c, b, rfl, .ty c, hx, kit_ty e, q⟩
/-- the script can be read -/
def Scr (K : PySem.W.Frag) (G : Hp) (sc : Addr) : Prop := ∃ ns : List Int, SqL K G sc (ns.map V.int) ∧ ns.length ≤ 63
theorem Scr.same {K : PySem.W.Frag} {G G' : Hp} {sc : Addr} (s : Same G G') (h : Scr K G sc) : Scr K G' sc := by
  obtain ⟨ns, h1, h2⟩ := h
  exact ⟨ns, sqL_same s h1, h2⟩
/-! ### texts by their code points; drawn names -/
def mkS (w : List Nat) : Str := ⟨w.toArray⟩
theorem mkS_len (w : List Nat) : (mkS w).length = w.length := by simp [mkS, Str.length]
theorem mkS_list (w : List Nat) : (mkS w).cps.toList = w := by simp [mkS]
theorem mkS_app (a b : List Nat) : mkS a ++ mkS b = mkS (a ++ b) := by
  show Str.append (mkS a) (mkS b) = mkS (a ++ b)
  simp [mkS, Str.append]
theorem mkS_inj {a b : List Nat} (h : mkS a = mkS b) : a = b := by
  have := congrArg (fun s : Str => s.cps.toList) h
  simpa [mkS] using this
def signsC : List Nat := (List.range 26).map (97 + ·) ++ (List.range 10).map (48 + ·)
theorem signs_eq : ("abcdefghijklmnopqrstuvwxyz0123456789" : Str) = mkS signsC := by decide +kernel
theorem signs_len : signsC.length = 36 := by decide
/-- the two figures behind a drawn name -/
def sfx (k : Nat) : List Nat := (Str.ofString (toString ((10 : Int) + (k : Int)))).cps.toList
theorem sfx_of (k : Nat) : Str.ofString (toString ((10 : Int) + (k : Int))) = mkS (sfx k) := by simp [sfx, mkS]
theorem sfx_all : ∀ k : _root_.Fin 90, (sfx k.val).length = 2 ∧ ∀ c ∈ sfx k.val, c ∈ signsC := by decide +kernel
theorem sfx_inj : ∀ j : _root_.Fin 90, ∀ k : _root_.Fin 90, sfx j.val = sfx k.val → j = k := by decide +kernel
/-- a drawn name -/
def NmK (k : Nat) (w : List Nat) : Prop := ∃ p : List Nat, w = p ++ sfx k ∧ 1 ≤ p.length ∧ p.length ≤ 10 ∧ ∀ c ∈ p, c ∈ signsC
theorem NmK.other {j k : Nat} {a b : List Nat} (h1 : NmK j a) (h2 : NmK k b) (hj : j < 90) (hk : k < 90) (e : a = b) : j = k := by
  obtain ⟨p, rfl, _⟩ := h1
  obtain ⟨q, rfl, _⟩ := h2
  have l1 := (sfx_all ⟨j, hj⟩).1
  have l2 := (sfx_all ⟨k, hk⟩).1
  have := (List.append_inj' e (by rw [show (sfx j).length = 2 from l1, show (sfx k).length = 2 from l2])).2
  have := sfx_inj ⟨j, hj⟩ ⟨k, hk⟩ this
  exact congrArg Fin.val this
theorem NmK.len {k : Nat} {w : List Nat} (h : NmK k w) (hk : k < 90) : 3 ≤ w.length ∧ w.length ≤ 12 := by
  obtain ⟨p, rfl, h1, h2, _⟩ := h
  have l1 : (sfx k).length = 2 := (sfx_all ⟨k, hk⟩).1
  rw [List.length_append, l1]; omega
theorem NmK.signs {k : Nat} {w : List Nat} (h : NmK k w) (hk : k < 90) : ∀ c ∈ w, c ∈ signsC := by
  obtain ⟨p, rfl, h1, h2, h3⟩ := h
  intro c hc
  rcases List.mem_append.mp hc with z | z
  · exact h3 c z
  · exact (sfx_all ⟨k, hk⟩).2 c z
theorem signs_fit : ∀ c ∈ signsC, c < 16 ^ 8 ∧ c < 0x110000 := by decide +kernel
theorem NmK.fit {k : Nat} {w : List Nat} (h : NmK k w) (hk : k < 90) : Dt.fit (.str (mkS w)) = true := by
  have h1 := h.signs hk
  have h2 := (h.len hk).2
  simp only [Dt.fit, Bool.and_eq_true, decide_eq_true_eq]
  refine ⟨⟨List.all_eq_true.mpr fun c hc => ?_, ?_⟩, ?_⟩
  · rw [mkS_list] at hc
    exact decide_eq_true (signs_fit c (h1 c hc)).1
  · show (mkS w).length ≤ 1000
    rw [mkS_len]; omega
  · show PyData.strOk (mkS w) = true
    unfold PyData.strOk
    rw [← Array.all_toList]
    refine List.all_eq_true.mpr fun c hc => ?_
    have hc : c ∈ w := by have := mkS_list w; rw [this] at hc; exact hc
    exact decide_eq_true (signs_fit c (h1 c hc)).2
/-- a row of drawn names, each with its own number -/
def Nms (ws : List (List Nat)) : Prop := ∀ i (h : i < ws.length), NmK i ws[i]
def wsV (ws : List (List Nat)) : List V := ws.map fun a => V.str (mkS a)
end Dt

namespace Grd
open PySem PySem.Spec PyProof.Rows L2 Go
/-- a def's promise where no repr is under way -/
structure FnG (P : Program) (w : World) (K : PySem.W.Frag) (mg : Str → Option Value) (base : Heap) (k : Nat) (f : Addr) (fd : FuncData) (ps : List Str) (sp : Sp) : Prop where
  size : ∀ vs H Q E, sp vs H Q E → vs.length = ps.length
  goes : ∀ (A : Around) (outer : List Env) (s : Shared) (H : Hp) (args : Args) (us : List Value) (vs : List V) (Q : VK) (E : XK),
    A.guards = some [] → Room k A → Env0 P w K mg base A outer s H → BindsTo s fd args (ps.zip us) → Vals vs us → sp vs H Q E →
      codeAny (model P w) A (.call (.ref f) args) (CR CX0 outer P w H s Q E) s
theorem FnG.of {P : Program} {w : World} {K : PySem.W.Frag} {mg : Str → Option Value} {base : Heap} {k : Nat} {f : Addr} {fd : FuncData} {ps : List Str} {sp : Sp}
    (F : FnOk P w K mg base CX0 k f fd ps sp) : FnG P w K mg base k f fd ps sp :=
  ⟨F.len, fun A outer s H args us vs Q E _ => F.run A outer s H args us vs Q E⟩
section
variable {P : Program} {w : World} {K : PySem.W.Frag} {mg : Str → Option Value} {base : Heap}
theorem ok_of {x qual : Str} {st : Stmt} {f : Addr} {fd : FuncData} {N ps : List Str} {k : Nat} {sp : Sp} (F : Fun K x qual st f fd) (S : FnScope N ps (defScope st))
    (size : ∀ vs H Q E, sp vs H Q E → vs.length = ps.length)
    (walk : ∀ (cdv : Value) (A : Around) (outer : List Env) (s : Shared) (H : Hp) (vs : List V) (Q : VK) (E : XK),
      A.guards = some [] → Room k (A.deeper (envOfC qual (defScope st) s.heap.objs.size f cdv)) → sp vs H Q E →
      ∃ t, PSs (cxOf CX0 P w K mg base N qual (defScope st) f cdv A outer s H E).nox (defBody st) t ∧ t { nx := fun _ H' => Q .non H', rt := Q } (L2.start N vs) H) :
    FnG P w K mg base (k + 1) f fd ps sp := by
  obtain ⟨oc, od, kV, doc, pm, an, cdv, ct, osl, rfl, at_f, code_f⟩ := F.ex
  refine ⟨size, ?_⟩
  intro A outer s H args us vs Q E gA room env bind vals pr
  have same := env.bs
  have inK : K.In s.heap := env.mod.kin.keeps (fun b o e => (same b o e).1)
  have slots : ∀ y ∈ ps.zip us, (defScope st).names.lookup y.1 = some .local ∨
      ((defScope st).names.lookup y.1 = some .cell ∧ ((cellsFrom (s.heap.objs.size + 1) (defScope st).names []).lookup y.1).isSome = true) := by
    rintro ⟨n, v⟩ hy
    rcases S.par n (List.of_mem_zip hy).1 with q | q
    · left; exact q
    · right; exact ⟨q, PySem.W.cellsFrom_some _ _ _ (Or.inl q)⟩
  apply codeAny_call_function room.depth (inK _ _ at_f) rfl S.co S.gen rfl (PySem.W.codeRec_of inK code_f)
  apply bind
  apply wpAny_newFunctionEnv_cells S.kind slots
  intro env' he s1 made
  subst he
  refine ⟨(env.mod.nolimit.keeps (fun b o e => (same b o e).1)).keeps made.toInCall.keep, codeAny_func ?_⟩
  obtain ⟨t, body, wish⟩ := walk cdv A outer s H vs Q E gA (room.deeper _) pr
  have begun := inv_start (CX := CX0) (E := E) S room.hd env (size _ _ _ _ pr) vals made
  refine wpAny_mono (body.nox.run [] s1 _ H _ begun wish) (fun fl s' done => ?_) (fun e s' bad => bad)
  have leave : ∀ {σ' : L2.St} {H' : Hp} {v : V} {u : Value}, Inv (cxOf CX0 P w K mg base N qual (defScope st) f cdv A outer s H E) [] σ' H' s' → RelV v u → Q v H' →
      CE outer P w H s Q u s' := by
    intro σ' H' v u J rv q
    exact ⟨v, H', J.os, J.bare, J.base, J.hok, rv, q⟩
  cases fl with
  | next => obtain ⟨σ', H', J, q⟩ := done; exact leave (v := V.non) (u := Value.none) J rfl q
  | ret u => obtain ⟨v, σ', H', J, rv, q⟩ := done; exact leave J rv q
  | brk => obtain ⟨_, _, _, q⟩ := done; exact False.elim q
  | cont => obtain ⟨_, _, _, q⟩ := done; exact False.elim q
end
/-! ### a call of such a def -/
section
variable {X : Cx} {k : Nat} {f : Addr} {fd : FuncData} {ps : List Str} {sp : Sp} {x : Str} {p pos : Pos} {e : Expr} {es : List Expr} {t : TA}
theorem run_g {pins : List (Addr × Obj)} {σ : L2.St} {H : Hp} {s : Shared} {Q : VK} {us : List Value} {vs : List V} (F : FnG X.prog X.w X.K X.mg X.base k f fd ps sp) (gA : X.A.guards = some []) (hr : Room k X.A)
    (hb : Binds X.K fd ps []) (I : Inv X pins σ H s) (r : Vals vs us) (h : sp vs H Q E0) : wpAny (model X.prog X.w) X.A (call (.ref f) us) (EP X pins σ Q) X.xe s := by
  have len : us.length = ps.length := by rw [← r.length]; exact F.size _ _ _ _ h
  have bind := hb s us I.kIn (by rw [List.append_nil]; exact len)
  rw [List.append_nil] at bind
  apply wpAny_call
  refine codeAny_mono (F.goes X.A X.stack s H ⟨us, []⟩ us vs Q E0 gA hr I.env0 bind r h) ?_
  intro res s' hq
  match res, hq with
  | .error e, hq => exact False.elim hq
  | .ok (.ret u), hq => exact I.after hq
  | .ok .next, hq => exact False.elim hq
  | .ok .brk, hq => exact False.elim hq
  | .ok .cont, hq => exact False.elim hq
theorem pe_callG (F : FnG X.prog X.w X.K X.mg X.base k f fd ps sp) (gA : X.A.guards = some []) (hr : Room k X.A) (hg : Gl X x) (hm : X.mg x = some (.ref f)) (hk : PySem.W.keepIn X.K (.ref f) = true) (hb : Binds X.K fd ps [])
    (ha : PA X (e :: es) t) (hdb : (x == ("__debug__" : Str)) = false := by decide)
    (he : starEach (e :: es) X.env = (false, eval e X.env) :: starEach es X.env := by rfl) (hpl : (backTo pos (starEach es X.env)).any (·.1) = false := by rfl) :
    PE X (.Call (.Name x p) (e :: es) [] pos) (tCall sp [] E0 t) := by
  constructor
  intro pins s σ H Q I h
  apply wpAny_Call_Name_kw
  refine ld_glob I hg hm ?_ hdb
  refine PySem.W.callWith_K (h₀ := X.base) I.ok.mod.kin hk ?_ he hpl
  refine thn (ha.run pos pins s σ H _ I h) ?_
  rintro us s1 ⟨vs, H1, I1, r, q⟩
  exact ⟨I1.kIn, run_g F gA hr hb I1 r (by rw [← List.append_nil vs]; exact q)⟩
end
/-! ### data with dicts, repr -/
def kD : Key → PyData
  | .inl i => .int i
  | .inr x => .str x
mutual
inductive Dq (K : PySem.W.Frag) (H : Hp) : V → PyData → Prop
  | non : Dq K H .non .none
  | bl (b : Bool) : Dq K H (.bl b) (.bool b)
  | int (i : Int) : Dq K H (.int i) (.int i)
  | str (x : Str) : Dq K H (.str x) (.str x)
  | lst {a : Addr} {xs : List V} {ds : List PyData} : SqL K H a xs → DqAll K H xs ds → Dq K H (.ref a) (.list ds)
  | tup {a : Addr} {xs : List V} {ds : List PyData} : SqT K H a xs → DqAll K H xs ds → Dq K H (.ref a) (.tuple ds)
  | dct {a : Addr} {kvs : List (Key × V)} {ds : List PyData} : H a = some (.dK kvs) → DqAll K H (kvs.map (·.2)) ds → Dq K H (.ref a) (.dict ((kvs.map fun p => kD p.1).zip ds))
inductive DqAll (K : PySem.W.Frag) (H : Hp) : List V → List PyData → Prop
  | nil : DqAll K H [] []
  | cons {v : V} {vs : List V} {d : PyData} {ds : List PyData} : Dq K H v d → DqAll K H vs ds → DqAll K H (v :: vs) (d :: ds)
end
section
variable {X : Cx} {pins : List (Addr × Obj)} {σ : L2.St} {H : Hp} {s : Shared}
/-- what stands at sys.modules is no list -/
def NoSys (h : Heap) : Prop := ∀ o, h.get? sysModules = some o → o.cls ≠ .type "list"
theorem keys_read {h : Heap} {P : Program} {w : World} : ∀ {kvs : List (Key × V)} {vs : List (Key × Value)} {es : List DictEntry}, KV kvs vs → Pairs (mixKind P w) es vs →
    ReadsAll h (es.map (·.key)) (kvs.map fun p => kD p.1) [] ∧ Vals (kvs.map (·.2)) (es.map (·.val))
  | [], _, _, .nil, .nil => ⟨.nil, .nil⟩
  | (k, x) :: kvs, _, _, .cons (b := (k', u)) r rs, .cons (e := e) h1 h2 h3 => by
    obtain ⟨a, b⟩ := keys_read (h := h) rs h3
    obtain ⟨r1, r2⟩ := r
    have r1 : k = k' := r1
    subst r1
    refine ⟨?_, .cons (by show RelV x e.val; rw [h2]; exact r2) b⟩
    have hk : keyIs k e.key = true := h1
    rcases keyIs_shape hk with ⟨n, t, e1, e2⟩ | ⟨z, t, e1, e2⟩
    · subst e1
      show ReadsAll h (e.key :: _) (PyData.int n :: _) ([] ++ [])
      rw [e2]; exact .cons (.int n t) a
    · subst e1
      show ReadsAll h (e.key :: _) (PyData.str z :: _) ([] ++ [])
      rw [e2]; exact .cons (.str z t) a
theorem DqAll.len {K : PySem.W.Frag} {H : Hp} : ∀ {vs : List V} {ds : List PyData}, DqAll K H vs ds → vs.length = ds.length
  | _, _, .nil => rfl
  | _, _, .cons _ h => by rw [List.length_cons, List.length_cons, h.len]
theorem zip_fst {α β : Type} : ∀ {a : List α} {b : List β}, a.length = b.length → (a.zip b).map (·.1) = a
  | [], [], _ => rfl
  | x :: a, y :: b, h => by rw [List.zip_cons_cons, List.map_cons, zip_fst (by simpa using h)]
theorem zip_snd {α β : Type} : ∀ {a : List α} {b : List β}, a.length = b.length → (a.zip b).map (·.2) = b
  | [], [], _ => rfl
  | x :: a, y :: b, h => by rw [List.zip_cons_cons, List.map_cons, zip_snd (by simpa using h)]
mutual
theorem Dq.reads (I : Inv X pins σ H s) : ∀ {v : V} {d : PyData} {u : Value}, Dq X.K H v d → RelV v u → ∃ as, Reads s.heap u d as ∧ (NoSys s.heap → sysModules ∉ as)
  | _, _, _, .non, r => by cases r; exact ⟨_, .none, fun _ h => nomatch h⟩
  | _, _, _, .bl b, r => by cases r; exact ⟨_, .bool b, fun _ h => nomatch h⟩
  | _, _, _, .int i, r => by obtain ⟨t, rfl⟩ := r; exact ⟨_, .int i t, fun _ h => nomatch h⟩
  | _, _, _, .str x, r => by obtain ⟨t, rfl⟩ := r; exact ⟨_, .str x t, fun _ h => nomatch h⟩
  | _, _, _, .lst (a := a) hs ha, r => by
    cases r
    obtain ⟨its, rv, ⟨o, n, ho, hc, _, hd⟩, _⟩ := I.list hs
    obtain ⟨as, hr, hn⟩ := DqAll.reads I ha rv
    refine ⟨_, .list ho hc hd hr, fun ns hm => ?_⟩
    rcases List.mem_cons.mp hm with e | e
    · subst e; exact ns o ho hc
    · exact hn ns e
  | _, _, _, .tup hs ha, r => by
    cases r
    obtain ⟨its, rv, ⟨o, ho, hc, n, hd⟩, _⟩ := I.tuple hs
    obtain ⟨as, hr, hn⟩ := DqAll.reads I ha rv
    exact ⟨_, .tuple ho hc hd hr, hn⟩
  | _, _, _, .dct (a := a) (kvs := kvs) (ds := ds) hs ha, r => by
    cases r
    obtain ⟨_, ny, vs, kv, o, es, ep, ho, ex, hd, _, pr, _⟩ := (show ObjOk X.prog X.w H s.heap a (.dK kvs) from I.hok a _ hs)
    obtain ⟨rk, rv⟩ := keys_read (h := s.heap) kv pr
    obtain ⟨as, hr, hn⟩ := DqAll.reads I ha rv
    have el : (kvs.map fun p => kD p.1).length = ds.length := by rw [List.length_map]; have := ha.len; rw [List.length_map] at this; exact this
    refine ⟨_, .dict ho ex.1 hd (as := []) (by rw [zip_fst el]; exact rk) (by rw [zip_snd el]; exact hr), fun ns hm => ?_⟩
    rcases List.mem_cons.mp hm with e | e
    · subst e; simp at ny
    · exact hn ns e
theorem DqAll.reads (I : Inv X pins σ H s) : ∀ {vs : List V} {ds : List PyData} {us : List Value}, DqAll X.K H vs ds → Vals vs us → ∃ as, ReadsAll s.heap us ds as ∧ (NoSys s.heap → sysModules ∉ as)
  | _, _, _, .nil, r => by cases r; exact ⟨_, .nil, fun _ h => nomatch h⟩
  | _, _, _, .cons h1 h2, r => by
    cases r with
    | cons r1 r2 =>
      obtain ⟨as, q1, n1⟩ := Dq.reads I h1 r1
      obtain ⟨bs, q2, n2⟩ := DqAll.reads I h2 r2
      refine ⟨_, .cons q1 q2, fun ns hm => ?_⟩
      rcases List.mem_append.mp hm with e | e
      · exact n1 ns e
      · exact n2 ns e
end
end
/-- repr(x) of data; hd: sys.modules is a written dict (asked only of data with dicts) -/
theorem call_reprQ {X : Cx} (gA : X.A.guards = some []) (hu : X.A.units + 64 < cLine) : CallR X (.builtin "repr") (fun xs H Q => ∃ (x : V) (d : PyData), xs = [x] ∧ Dq X.K H x d ∧ d.showable = true ∧ d.depth ≤ 60 ∧
    (d.hasDict = true → ∃ o, X.K.lookup sysModules = some o ∧ o.cls = .type "dict") ∧ d.shown.length ≤ sizeLine ∧ Q (.str d.shown) H) := by
  intro pins s σ H xs us Q I r h
  obtain ⟨x, d, rfl, hq, hs, hdp, hsy, hz, q⟩ := h
  obtain ⟨u, rfl, rx⟩ := vals1 r
  obtain ⟨as, rd, hn⟩ := Dq.reads I hq rx
  have ns : d.hasDict = true → sysModules ∉ as := fun e => hn fun o ho hc => by
    obtain ⟨o', h1, h2⟩ := hsy e
    have := I.kIn _ _ h1
    rw [ho] at this
    cases this
    rw [hc] at h2
    exact absurd (Value.type.inj h2) (by decide)
  cases hq with
  | non => cases rx; exact PySem.P.repr_of_none ⟨.str _, H, I.tok _, ⟨_, rfl⟩, q⟩
  | bl b => cases rx; exact PySem.P.repr_of_bool ⟨.str _, H, I.tok _, ⟨_, rfl⟩, q⟩
  | int i =>
    obtain ⟨t, rfl⟩ := rx
    have hs : i.natAbs.log2 < 1920 := by simpa [PyData.showable] using hs
    exact PySem.P.repr_of_int hs ⟨.str _, H, I.tok _, ⟨_, rfl⟩, q⟩
  | str z =>
    obtain ⟨t, rfl⟩ := rx
    exact PySem.P.repr_of_str ⟨.str _, H, I.tok _, ⟨_, rfl⟩, q⟩ hz
  | lst h1 h2 =>
    cases rx
    exact repr_of_reads' rd hs ns gA (by omega) (fun _ _ e => e) (fun h' u tk hk => ⟨.str _, H, I.kept hk, ⟨_, rfl⟩, q⟩) hz
  | tup h1 h2 =>
    cases rx
    exact repr_of_reads' rd hs ns gA (by omega) (fun _ _ e => e) (fun h' u tk hk => ⟨.str _, H, I.kept hk, ⟨_, rfl⟩, q⟩) hz
  | dct h1 h2 =>
    cases rx
    exact repr_of_reads' rd hs ns gA (by omega) (fun _ _ e => e) (fun h' u tk hk => ⟨.str _, H, I.kept hk, ⟨_, rfl⟩, q⟩) hz
mutual
theorem dq_of {K : PySem.W.Frag} {H : Hp} : ∀ {v : V} {d : PyData}, Dp K H v d → Dq K H v d
  | _, _, .non => .non
  | _, _, .bl b => .bl b
  | _, _, .int i => .int i
  | _, _, .str x => .str x
  | _, _, .lst h ha => .lst h (dqAll_of ha)
  | _, _, .tup h ha => .tup h (dqAll_of ha)
theorem dqAll_of {K : PySem.W.Frag} {H : Hp} : ∀ {vs : List V} {ds : List PyData}, DpAll K H vs ds → DqAll K H vs ds
  | _, _, .nil => .nil
  | _, _, .cons h ha => .cons (dq_of h) (dqAll_of ha)
end
/-- repr of data that fits -/
def rRepr (K : PySem.W.Frag) : List V → Hp → VK → Prop := fun xs H Q => ∃ (x : V) (d : PyData), xs = [x] ∧ Dp K H x d ∧ Dt.fit d = true ∧ Dt.knots d ≤ 900 ∧ d.depth ≤ 60 ∧ Q (.str d.shown) H
theorem call_reprF {X : Cx} (gA : X.A.guards = some []) (hu : X.A.units + 64 < cLine) : CallR X (.builtin "repr") (rRepr X.K) := fun pins s σ H xs us Q I r ⟨x, d, e, h, f, k, dp, q⟩ =>
  call_reprQ gA hu pins s σ H xs us Q I r ⟨x, d, e, dq_of h, (Dt.fit_facts d f).1, dp, (fun z => by rw [(Dt.fit_facts d f).2.1] at z; cases z), Dt.fit_shown f k, q⟩
theorem rd_repr {K : PySem.W.Frag} {H : Hp} {x : V} {d : PyData} {Q : VK} (h : Dp K H x d) (f : Dt.fit d = true) (k : Dt.knots d ≤ 900) (dp : d.depth ≤ 60) (q : Q (.str d.shown) H) : rRepr K [x] H Q := ⟨x, d, rfl, h, f, k, dp, q⟩
/-! ### the end of a law whose own def asks repr -/
section
variable {P : Program} {w : World} {K : PySem.W.Frag} {mg mb : Str → Option Value} {k : Nat} {fa a : Addr} {fd : FuncData} {x : Str} {sp : Sp} {s : Shared} {vs : List Value} {ns : List Int}
/-- the law's call, from a heap in which at most the script is tracked -/
theorem end_core (inK : K.In s.heap) (gl : s.heap.Ns mainGlobals mg) (bl : s.heap.Ns builtinsNs mb) (bb : ∀ y : Str, y ≠ "__name__" → mb y = bootBuiltins y) (nl : s.heap.NoLimit) (ng : s.gens = #[])
    (lst : s.heap.get? a = some { cls := .type "list", data := .seq vs.toArray }) (hr : Room k callerA)
    (F : ∀ base : Heap, K.In base → base.Ns mainGlobals mg → FnG P w K mg base k fa fd [x] sp) (bind : ∀ (s : Shared) (u : Value), BindsTo s fd ⟨[u], []⟩ [(x, u)])
    (H : Hp) (only : Only H) (pr : sp [.ref a] H (fun v _ => v = .bl true) fun _ _ _ => False) (ok : HOk P w H s.heap) (one : ∀ b, H b ≠ none → b = a) (out : H a ≠ none → K.lookup a = none) :
    codeAny (model P w) callerA (.call (.ref fa) ⟨[.ref a], []⟩) (fun r s' => r = .ok (.ret (.bool true)) ∧ OldK s.heap s'.heap ∧ s'.os = s.os ∧ AllBare s'.gens) s := by
  have dictFree : ∀ {b : Addr} {o : Obj} {es : Array DictEntry} {ep : Nat}, s.heap.get? b = some o → o.data = .dict es ep → H b = none := by
    intro b o es ep ho hd
    by_cases e : H b = none
    · exact e
    · have := one b e
      subst this
      rw [lst] at ho
      cases ho
      cases (show Data.seq vs.toArray _ = Data.dict es ep from hd)
  have ns_hid : ∀ {b : Addr} {m : Str → Option Value}, s.heap.Ns b m → (hidT s.heap H).Ns b m := by
    rintro b m ⟨o, es, ep, ho, hd, rest⟩
    exact ⟨o, es, ep, hidT_get ho (dictFree ho hd), hd, rest⟩
  have kin : K.In (hidT s.heap H) := by
    intro b o ho
    refine hidT_get (inK b o ho) ?_
    by_cases e : H b = none
    · exact e
    · have := one b e
      subst this
      rw [out e] at ho
      cases ho
  obtain ⟨mc, l1, l2⟩ := nl
  have md : Mod K mg (hidT s.heap H) := ⟨kin, ns_hid gl, ⟨mb, ns_hid bl, bb⟩, ⟨mc, ns_hid l1, l2⟩⟩
  have env : Env0 P w K mg (hidT s.heap H) callerA [] s H := {
    frames := rfl
    mod := md
    bs := fun b o e => of_hidT e
    bsz := Nat.le_of_eq (hidT_size _ _)
    funs := trivial
    frf := fun b hb => absurd (show b ∈ ([] : List Addr) from hb) (by simp)
    hok := ok
    bare := .of_eq ng }
  have run := (F _ kin (ns_hid gl)).goes callerA [] s H ⟨[.ref a], []⟩ [.ref a] [.ref a] _ _ rfl hr env (bind s (.ref a)) (.cons rfl .nil) pr
  refine codeAny_mono run ?_
  intro r s' res
  match r, res with
  | .error e, res => exact False.elim res
  | .ok .next, res => exact False.elim res
  | .ok .brk, res => exact False.elim res
  | .ok .cont, res => exact False.elim res
  | .ok (.ret u), res =>
    obtain ⟨v, H', os, bare, un, ok', rv, q⟩ := res
    cases (show v = V.bl true from q)
    cases (show u = Value.bool true from rv)
    refine ⟨rfl, OldK.of_keep ?_, os, bare⟩
    intro b o ho
    rcases only b with n | ⟨ob, xs, n⟩
    · exact un.keep b o ho n (by intro z; exact absurd (show b ∈ ([] : List Addr) from z) (by simp)) (by simp)
    · have e1 := (ok b _ n).1
      have e2 := (ok' b _ (un.frzs b ob _ n)).1
      rw [ho] at e1
      cases e1
      exact e2
theorem end_call (inK : K.In s.heap) (gl : s.heap.Ns mainGlobals mg) (bl : s.heap.Ns builtinsNs mb) (bb : ∀ y : Str, y ≠ "__name__" → mb y = bootBuiltins y) (nl : s.heap.NoLimit) (ng : s.gens = #[])
    (lst : s.heap.get? a = some { cls := .type "list", data := .seq vs.toArray }) (inums : IntsAre vs ns) (hl : ns.length ≤ sizeLine) (hr : Room k callerA)
    (F : ∀ base : Heap, K.In base → base.Ns mainGlobals mg → FnG P w K mg base k fa fd [x] sp) (bind : ∀ (s : Shared) (u : Value), BindsTo s fd ⟨[u], []⟩ [(x, u)])
    (pr : ∀ H : Hp, Only H → SqL K H a (ns.map V.int) → sp [.ref a] H (fun v _ => v = .bl true) fun _ _ _ => False) :
    codeAny (model P w) callerA (.call (.ref fa) ⟨[.ref a], []⟩) (fun r s' => r = .ok (.ret (.bool true)) ∧ OldK s.heap s'.heap ∧ s'.os = s.os ∧ AllBare s'.gens) s := by
  have rel := vals_ints inums
  have len := inums.length
  by_cases hk : K.lookup a = none
  · let H : Hp := fun b => if b = a then some (.frz { cls := .type "list", data := .seq vs.toArray } (.lst (ns.map V.int))) else none
    have at_a : H a = some (.frz { cls := .type "list", data := .seq vs.toArray } (.lst (ns.map V.int))) := if_pos rfl
    have off : ∀ b, b ≠ a → H b = none := fun b n => if_neg n
    have only : Only H := by
      intro b
      by_cases e : b = a
      · subst e; exact .inr ⟨_, _, at_a⟩
      · exact .inl (off b e)
    refine end_core inK gl bl bb nl ng lst hr F bind H only (pr H only (.inl (.inr ⟨_, at_a⟩))) ?_ ?_ fun _ => hk
    · intro b u hu
      by_cases e : b = a
      · subst e
        rw [at_a] at hu
        cases hu
        exact ⟨lst, by rw [List.length_map]; exact hl, vs, _, rel, lst⟩
      · rw [off b e] at hu; cases hu
    · intro b hb
      by_cases e : b = a
      · exact e
      · exact absurd (off b e) hb
  · obtain ⟨o, ho⟩ := Option.ne_none_iff_exists'.mp hk
    have e := inK a o ho
    rw [lst] at e
    cases e
    have only : Only (fun _ => none) := fun _ => .inl rfl
    refine end_core inK gl bl bb nl ng lst hr F bind (fun _ => none) only (pr _ only (.inr ⟨_, vs.toArray, _, ho, rfl, rfl, rfl, ?_, ?_⟩)) ?_ ?_ fun n => absurd rfl n
    · rw [List.size_toArray, len]; exact hl
    · simpa using rel
    · intro b u z; cases z
    · intro b n; exact absurd rfl n
end
theorem end_of {l : PySem.W.OpenLaw} {n k : Nat} {q : Program} {loose : List Str} {XP : (Str → Option Value) → Heap → Prop} {YP : World → Heap → Prop} {d : DefRec} {K : Params → PySem.W.Frag} {sp : World → Sp} {x : Str}
    (hn : l.most = some n) (hn2 : n ≤ sizeLine) (hdf : d.params.defaults = []) (hr : Room k callerA) (hY : ∀ (w : World) (h : Heap), YP w h → (K w.params).In h)
    (F : ∀ (w : World) (mg : Str → Option Value) (fa : Addr) (h : Heap), (K w.params).In h → h.Ns mainGlobals mg → mg d.name = some (.ref fa) →
      ∃ fd : FuncData, (∀ (s : Shared) (u : Value), BindsTo s fd ⟨[u], []⟩ [(x, u)]) ∧ ∀ base : Heap, (K w.params).In base → base.Ns mainGlobals mg → FnG l.prog w (K w.params) mg base k fa fd [x] (sp w))
    (pr : ∀ (w : World) (H : Hp) (a : Addr) (ns : List Int), ns.length ≤ n → Only H → SqL (K w.params) H a (ns.map V.int) → sp w [.ref a] H (fun v _ => v = .bl true) fun _ _ _ => False) :
    PySem.W.WalkO q loose XP YP l.row.toRowW d [] (fun f vs => PySem.call f vs) := by
  refine Att.attach_call hn hdf ?_
  intro w s0 s1 mg mb fa o pm cd doc a vs ns G Y ho hd hcd hmg hobj hints hlen hg
  have inK := hY w _ Y
  obtain ⟨fd, bind, goes⟩ := F w mg fa _ inK G.T.g hmg
  exact end_call inK G.T.g G.T.b G.T.builtins G.T.nolimit hg hobj hints (Nat.le_trans hlen hn2) hr goes bind fun H hO hS => pr w H a ns hlen hO hS
end Grd

namespace K55
/-! the mathematics: shares by the greatest rests -/
def at0 (l : List Int) (k : Nat) : Int := l.getD k 0
theorem at0_get {l : List Int} {k : Nat} (h : k < l.length) : at0 l k = l[k] := by
  unfold at0; rw [List.getD_eq_getElem?_getD, List.getElem?_eq_getElem h]; rfl
/-- how far a part stands ahead -/
def ahead (A T : Int) (w p : List Int) (k : Nat) : Int := at0 p k * T - A * at0 w k
def badPair (A : Int) (w p : List Int) (i j : Nat) : Bool :=
  decide (ahead A w.sum w p i - ahead A w.sum w p j > w.sum) || (decide (ahead A w.sum w p i - ahead A w.sum w p j = w.sum) && decide (j < i))
structure Fair (A : Int) (w p : List Int) : Prop where
  len : p.length = w.length
  pos : ∀ k, k < p.length → 0 ≤ at0 p k
  sum : p.sum = A
  pair : ∀ i j, i < p.length → j < p.length → badPair A w p i j = false
theorem badPair_iff {A : Int} {w p : List Int} {i j : Nat} : badPair A w p i j = false ↔ ahead A w.sum w p i - ahead A w.sum w p j ≤ w.sum ∧ (ahead A w.sum w p i - ahead A w.sum w p j = w.sum → i ≤ j) := by
  unfold badPair
  rw [Bool.or_eq_false_iff, Bool.and_eq_false_iff, decide_eq_false_iff_not, decide_eq_false_iff_not, decide_eq_false_iff_not]
  omega
/-- of two different lists with one sum: somewhere more, somewhere less -/
theorem differ : ∀ {p q : List Int}, p.length = q.length → p.sum = q.sum → p ≠ q → ∃ i j, i < p.length ∧ j < p.length ∧ at0 q i < at0 p i ∧ at0 p j < at0 q j := by
  have less : ∀ {p q : List Int}, p.length = q.length → p.sum < q.sum → ∃ j, j < p.length ∧ at0 p j < at0 q j := by
    intro p
    induction p with
    | nil =>
      intro q hl hs
      cases q with
      | nil => simp at hs
      | cons _ _ => simp at hl
    | cons a p ih =>
      intro q hl hs
      cases q with
      | nil => simp at hl
      | cons b q =>
        rw [List.sum_cons, List.sum_cons] at hs
        by_cases h : a < b
        · exact ⟨0, by simp, h⟩
        · obtain ⟨j, h1, h2⟩ := ih (q := q) (by simpa using hl) (by omega)
          exact ⟨j + 1, by simp; omega, h2⟩
  intro p
  induction p with
  | nil =>
    intro q hl _ hne
    cases q with
    | nil => exact absurd rfl hne
    | cons _ _ => simp at hl
  | cons a p ih =>
    intro q hl hs hne
    cases q with
    | nil => simp at hl
    | cons b q =>
      have hl' : p.length = q.length := by simpa using hl
      rw [List.sum_cons, List.sum_cons] at hs
      rcases Int.lt_trichotomy a b with h | h | h
      · obtain ⟨i, h1, h2⟩ := less (p := q) (q := p) hl'.symm (by omega)
        exact ⟨i + 1, 0, by simp; omega, by simp, h2, h⟩
      · subst h
        obtain ⟨i, j, h1, h2, h3, h4⟩ := ih hl' (by omega) (fun e => hne (by rw [e]))
        exact ⟨i + 1, j + 1, by simp; omega, by simp; omega, h3, h4⟩
      · obtain ⟨j, h1, h2⟩ := less (p := p) (q := q) hl' (by omega)
        exact ⟨0, j + 1, by simp, by simp; omega, h, h2⟩
theorem mul_ge {a T : Int} (h : 1 ≤ a) (hT : 0 ≤ T) : T ≤ a * T := by
  have := Int.mul_le_mul_of_nonneg_right h hT
  omega
/-- one answer alone is fair -/
theorem Fair.unique {A : Int} {w p q : List Int} (hT : 0 < w.sum) (hp : Fair A w p) (hq : Fair A w q) : p = q := by
  by_cases hne : p = q
  · exact hne
  · exfalso
    obtain ⟨i, j, hi, hj, h1, h2⟩ := differ (hp.len.trans hq.len.symm) (hp.sum.trans hq.sum.symm) hne
    have hi' : i < q.length := by rw [hq.len, ← hp.len]; exact hi
    have hj' : j < q.length := by rw [hq.len, ← hp.len]; exact hj
    have c1 := badPair_iff.mp (hp.pair i j hi hj)
    have c2 := badPair_iff.mp (hq.pair j i hj' hi')
    unfold ahead at c1 c2
    have e1 : at0 p i * w.sum ≥ at0 q i * w.sum + w.sum := by
      have := mul_ge (a := at0 p i - at0 q i) (T := w.sum) (by omega) (by omega)
      rw [Int.sub_mul] at this; omega
    have e2 : at0 q j * w.sum ≥ at0 p j * w.sum + w.sum := by
      have := mul_ge (a := at0 q j - at0 p j) (T := w.sum) (by omega) (by omega)
      rw [Int.sub_mul] at this; omega
    generalize at0 p i * w.sum = x1 at *
    generalize at0 q i * w.sum = x2 at *
    generalize at0 p j * w.sum = x3 at *
    generalize at0 q j * w.sum = x4 at *
    generalize A * at0 w i = y1 at *
    generalize A * at0 w j = y2 at *
    have t1 : i ≤ j := c1.2 (by omega)
    have t2 : j ≤ i := c2.2 (by omega)
    have : i = j := by omega
    subst this
    omega
/-! the whole parts and the rests -/
def rest (A : Int) (w : List Int) (k : Nat) : Int := A * at0 w k % w.sum
def whole (A : Int) (w : List Int) : List Int := w.map fun x => A * x / w.sum
/-- the parts p: whole parts and one more for those in S, which is closed upward by (rest, index) -/
structure Ups (A : Int) (w p : List Int) (S : Nat → Prop) : Prop where
  len : p.length = w.length
  yes : ∀ k, k < w.length → S k → at0 p k = A * at0 w k / w.sum + 1
  no : ∀ k, k < w.length → ¬ S k → at0 p k = A * at0 w k / w.sum
  up : ∀ i j, i < w.length → j < w.length → S i → ¬ S j → rest A w j < rest A w i ∨ (rest A w j = rest A w i ∧ i < j)
theorem at0_map {f : Int → Int} {l : List Int} {k : Nat} (h : k < l.length) : at0 (l.map f) k = f (at0 l k) := by
  rw [at0_get (by rw [List.length_map]; exact h), at0_get h, List.getElem_map]
theorem whole_rest (A T x : Int) : (A * x / T) * T = A * x - A * x % T := by
  have := Int.mul_ediv_add_emod (A * x) T
  have e : T * (A * x / T) = (A * x / T) * T := Int.mul_comm _ _
  omega
theorem Ups.fair {A : Int} {w p : List Int} {S : Nat → Prop} (u : Ups A w p S) (hA : 0 ≤ A) (hT : 0 < w.sum) (hw : ∀ k, k < w.length → 0 ≤ at0 w k) (hs : p.sum = A) : Fair A w p := by
  have hq : ∀ k, k < w.length → 0 ≤ A * at0 w k / w.sum := fun k hk => Int.ediv_nonneg (Int.mul_nonneg hA (hw k hk)) (by omega)
  have hr : ∀ k, 0 ≤ rest A w k ∧ rest A w k < w.sum := fun k => ⟨Int.emod_nonneg _ (by omega), Int.emod_lt_of_pos _ hT⟩
  have ha1 : ∀ k, k < w.length → S k → ahead A w.sum w p k = w.sum - rest A w k := fun k hk h => by
    unfold ahead rest
    rw [u.yes k hk h, Int.add_mul, whole_rest]; omega
  have ha0 : ∀ k, k < w.length → ¬ S k → ahead A w.sum w p k = - rest A w k := fun k hk h => by
    unfold ahead rest
    rw [u.no k hk h, whole_rest]; omega
  refine ⟨u.len, fun k hk => ?_, hs, fun i j hi hj => badPair_iff.mpr ?_⟩
  · rw [u.len] at hk
    by_cases h : S k
    · rw [u.yes k hk h]; have := hq k hk; omega
    · rw [u.no k hk h]; exact hq k hk
  · rw [u.len] at hi hj
    have r1 := hr i
    have r2 := hr j
    by_cases h1 : S i
    · by_cases h2 : S j
      · rw [ha1 i hi h1, ha1 j hj h2]; omega
      · rw [ha1 i hi h1, ha0 j hj h2]
        have := u.up i j hi hj h1 h2
        omega
    · by_cases h2 : S j
      · rw [ha0 i hi h1, ha1 j hj h2]; omega
      · rw [ha0 i hi h1, ha0 j hj h2]; omega
theorem sum_map_mul (A T : Int) : ∀ (l : List Int), ((l.map fun x => A * x / T).sum) * T = A * l.sum - (l.map fun x => A * x % T).sum
  | [] => by simp
  | x :: l => by
    rw [List.map_cons, List.sum_cons, List.sum_cons, List.map_cons, List.sum_cons, Int.add_mul, sum_map_mul A T l, whole_rest, Int.mul_add]
    omega
theorem rests_bound (A T : Int) (hT : 0 < T) : ∀ (l : List Int), 0 ≤ (l.map fun x => A * x % T).sum ∧ (l.map fun x => A * x % T).sum ≤ (T - 1) * (l.length : Int)
  | [] => by simp
  | x :: l => by
    obtain ⟨h1, h2⟩ := rests_bound A T hT l
    have a := Int.emod_nonneg (A * x) (show T ≠ 0 by omega)
    have b := Int.emod_lt_of_pos (A * x) hT
    rw [List.map_cons, List.sum_cons, List.length_cons]
    have e : (T - 1) * ((l.length + 1 : Nat) : Int) = (T - 1) * (l.length : Int) + (T - 1) := by rw [Int.natCast_add, Int.mul_add]; simp
    rw [e]
    generalize (T - 1) * (l.length : Int) = z at *
    omega
/-- how many cents the whole parts leave: fewer than parts -/
theorem left_bound {A : Int} {w : List Int} (hT : 0 < w.sum) (hl : 1 ≤ w.length) : 0 ≤ A - (whole A w).sum ∧ A - (whole A w).sum < w.length := by
  have h1 := sum_map_mul A w.sum w
  obtain ⟨h2, h3⟩ := rests_bound A w.sum hT w
  have e : (A - (whole A w).sum) * w.sum = (w.map fun x => A * x % w.sum).sum := by
    rw [Int.sub_mul]; unfold whole; omega
  constructor
  · refine Int.nonneg_of_mul_nonneg_left ?_ hT
    rw [e]; exact h2
  · refine Int.lt_of_mul_lt_mul_right ?_ (Int.le_of_lt hT)
    rw [e]
    have e2 : (w.sum - 1) * (w.length : Int) = (w.length : Int) * w.sum - w.length := by rw [Int.sub_mul, Int.mul_comm]; simp
    omega
theorem at0_set {l : List Int} {k j : Nat} {v : Int} (h : k < l.length) : at0 (l.set k v) j = if j = k then v else at0 l j := by
  unfold at0
  rw [List.getD_eq_getElem?_getD, List.getD_eq_getElem?_getD, List.getElem?_set]
  by_cases e : k = j
  · subst e; rw [if_pos rfl, if_pos h, if_pos rfl]; rfl
  · rw [if_neg e, if_neg (fun z => e z.symm)]
theorem sum_set : ∀ {l : List Int} {k : Nat} {v : Int}, k < l.length → (l.set k v).sum = l.sum - at0 l k + v
  | [], _, _, h => by simp at h
  | a :: l, 0, v, _ => by show (v :: l).sum = _; rw [List.sum_cons, List.sum_cons]; show v + l.sum = a + l.sum - a + v; omega
  | a :: l, k + 1, v, h => by
    show (a :: l.set k v).sum = _
    rw [List.sum_cons, List.sum_cons, sum_set (by simpa using h)]
    show a + (l.sum - at0 l k + v) = a + l.sum - at0 l k + v
    omega
/-- one more cent -/
theorem Ups.more {A : Int} {w p : List Int} {S : Nat → Prop} (u : Ups A w p S) {b : Nat} (hb : b < w.length) (nb : ¬ S b) (top : ∀ j, j < w.length → ¬ S j → j ≠ b → rest A w j < rest A w b ∨ (rest A w j = rest A w b ∧ b < j)) :
    Ups A w (p.set b (at0 p b + 1)) (fun k => S k ∨ k = b) := by
  have hb' : b < p.length := by rw [u.len]; exact hb
  refine ⟨by rw [List.length_set, u.len], fun k hk h => ?_, fun k hk h => ?_, fun i j hi hj h1 h2 => ?_⟩
  · rw [at0_set hb']
    by_cases e : k = b
    · subst e; rw [if_pos rfl, u.no k hk nb]
    · rw [if_neg e, u.yes k hk (h.resolve_right e)]
  · rw [at0_set hb', if_neg (fun e => h (.inr e)), u.no k hk (fun s => h (.inl s))]
  · have h2' : ¬ S j ∧ j ≠ b := ⟨fun s => h2 (.inl s), fun s => h2 (.inr s)⟩
    rcases h1 with h1 | rfl
    · exact u.up i j hi hj h1 h2'.1
    · exact top j hj h2'.1 h2'.2
theorem Ups.none (A : Int) (w : List Int) : Ups A w (whole A w) (fun _ => False) :=
  ⟨by unfold whole; rw [List.length_map], fun _ _ h => h.elim, fun k hk _ => by unfold whole; rw [at0_map hk], fun _ _ _ _ h => h.elim⟩
end K55

namespace K55
open PySem PySem.Spec PyProof.Rows L2 Go Dt
def topS (i : Nat) : Stmt := PySem.Challenge.pw_everycoin_k55_what_a_fund_may_match.main.body.getD i (.Pass ⟨0, 0, 0, 0⟩)
abbrev s_split : Stmt := topS 1
theorem sc_split : FnScope ["amount", "weights", "total", "parts", "weight", "rests", "k", "row"] ["amount", "weights"] (defScope s_split) := ⟨rfl, rfl, rfl, by decide +kernel, rfl, by decide +kernel, by decide +kernel⟩
abbrev s__law_draw : Stmt := topS 6
theorem sc__law_draw : FnScope ["state", "script", "size", "cell", "mixed", "digit"] ["state", "script", "size"] (defScope s__law_draw) := ⟨rfl, rfl, rfl, by decide +kernel, rfl, by decide +kernel, by decide +kernel⟩
abbrev s__law_ways : Stmt := topS 11
theorem sc__law_ways : FnScope ["cents", "form", "purpose", "row", "parts", "rests", "k"] ["cents", "form"] (defScope s__law_ways) := ⟨rfl, rfl, rfl, by decide +kernel, rfl, by decide +kernel, by decide +kernel⟩
abbrev s_ways : Stmt := topS 2
theorem sc_ways : FnScope ["cents", "form", "purpose", "parts", "row", "found", "k", "part"] ["cents", "form"] (defScope s_ways) := ⟨rfl, rfl, rfl, by decide +kernel, rfl, by decide +kernel, by decide +kernel⟩
abbrev s__law_pick : Stmt := topS 7
theorem sc__law_pick : FnScope ["state", "script", "items"] ["state", "script", "items"] (defScope s__law_pick) := ⟨rfl, rfl, rfl, by decide +kernel, rfl, by decide +kernel, by decide +kernel⟩
abbrev s__law_name : Stmt := topS 8
theorem sc__law_name : FnScope ["state", "script", "at", "signs", "name", "_"] ["state", "script", "at"] (defScope s__law_name) := ⟨rfl, rfl, rfl, by decide +kernel, rfl, by decide +kernel, by decide +kernel⟩
abbrev s__law_some : Stmt := topS 10
theorem sc__law_some : FnScope ["state", "script", "items", "most", "left", "found", "_"] ["state", "script", "items", "most"] (defScope s__law_some) := ⟨rfl, rfl, rfl, by decide +kernel, rfl, by decide +kernel, by decide +kernel⟩
abbrev s__law_may : Stmt := topS 16
theorem sc__law_may : FnScope ["fund", "gift", "told", "row"] ["fund", "gift"] (defScope s__law_may) := ⟨rfl, rfl, rfl, by decide +kernel, rfl, by decide +kernel, by decide +kernel⟩
abbrev s_may_match : Stmt := topS 4
theorem sc_may_match : FnScope ["fund", "gift", "told", "purpose", "cap"] ["fund", "gift"] (defScope s_may_match) := ⟨rfl, rfl, rfl, by decide +kernel, rfl, by decide +kernel, by decide +kernel⟩
abbrev s__law_names : Stmt := topS 9
theorem sc__law_names : FnScope ["state", "script", "many", "names", "at"] ["state", "script", "many"] (defScope s__law_names) := ⟨rfl, rfl, rfl, by decide +kernel, rfl, by decide +kernel, by decide +kernel⟩
abbrev s__law_form : Stmt := topS 12
theorem sc__law_form : FnScope ["state", "script", "purposes", "kind", "chosen", "p", "left", "rows", "at", "part"] ["state", "script", "purposes"] (defScope s__law_form) := ⟨rfl, rfl, rfl, by decide +kernel, rfl, by decide +kernel, by decide +kernel⟩
abbrev s__law_funds : Stmt := topS 14
theorem sc__law_funds : FnScope ["state", "script", "world", "many", "greatest", "funds", "at", "start", "end", "cap", "each", "n", "d", "purposes", "owner"] ["state", "script", "world", "many", "greatest"] (defScope s__law_funds) := ⟨rfl, rfl, rfl, by decide +kernel, rfl, by decide +kernel, by decide +kernel⟩
abbrev s__law_gifts : Stmt := topS 13
theorem sc__law_gifts : FnScope ["state", "script", "world", "many", "greatest", "gifts", "at", "giver", "day", "cents", "hidden", "last", "form"] ["state", "script", "world", "many", "greatest"] (defScope s__law_gifts) := ⟨rfl, rfl, rfl, by decide +kernel, rfl, by decide +kernel, by decide +kernel⟩
abbrev s__law_world : Stmt := topS 15
theorem sc__law_world : FnScope ["state", "script", "parties", "purposes"] ["state", "script"] (defScope s__law_world) := ⟨rfl, rfl, rfl, by decide +kernel, rfl, by decide +kernel, by decide +kernel⟩
abbrev s__law_pair : Stmt := topS 17
theorem sc__law_pair : FnScope ["state", "script", "world", "gift", "fund", "start", "end", "day", "owner", "name", "hidden", "spoil", "purposes", "told", "row", "one"] ["state", "script", "world"] (defScope s__law_pair) := ⟨rfl, rfl, rfl, by decide +kernel, rfl, by decide +kernel, by decide +kernel⟩
abbrev s_law : Stmt := topS 18
theorem sc_law : FnScope ["script", "state", "world", "_", "fund", "gift", "told", "due"] ["script"] (defScope s_law) := ⟨rfl, rfl, rfl, by decide +kernel, rfl, by decide +kernel, by decide +kernel⟩
/-- what the top has left -/
structure Txt (K : PySem.W.Frag) (mg : Str → Option Value) where
  a_split : Addr
  fd_split : FuncData
  F_split : Fun K "split" "split" s_split a_split fd_split
  b_split : Binds K fd_split ["amount", "weights"] []
  g_split : mg "split" = some (.ref a_split)
  a__law_draw : Addr
  fd__law_draw : FuncData
  F__law_draw : Fun K "_law_draw" "_law_draw" s__law_draw a__law_draw fd__law_draw
  b__law_draw : Binds K fd__law_draw ["state", "script", "size"] []
  g__law_draw : mg "_law_draw" = some (.ref a__law_draw)
  a__law_ways : Addr
  fd__law_ways : FuncData
  F__law_ways : Fun K "_law_ways" "_law_ways" s__law_ways a__law_ways fd__law_ways
  b__law_ways : Binds K fd__law_ways ["cents", "form"] []
  g__law_ways : mg "_law_ways" = some (.ref a__law_ways)
  a_ways : Addr
  fd_ways : FuncData
  F_ways : Fun K "ways" "ways" s_ways a_ways fd_ways
  b_ways : Binds K fd_ways ["cents", "form"] []
  g_ways : mg "ways" = some (.ref a_ways)
  a__law_pick : Addr
  fd__law_pick : FuncData
  F__law_pick : Fun K "_law_pick" "_law_pick" s__law_pick a__law_pick fd__law_pick
  b__law_pick : Binds K fd__law_pick ["state", "script", "items"] []
  g__law_pick : mg "_law_pick" = some (.ref a__law_pick)
  a__law_name : Addr
  fd__law_name : FuncData
  F__law_name : Fun K "_law_name" "_law_name" s__law_name a__law_name fd__law_name
  b__law_name : Binds K fd__law_name ["state", "script", "at"] []
  g__law_name : mg "_law_name" = some (.ref a__law_name)
  a__law_some : Addr
  fd__law_some : FuncData
  F__law_some : Fun K "_law_some" "_law_some" s__law_some a__law_some fd__law_some
  b__law_some : Binds K fd__law_some ["state", "script", "items", "most"] []
  g__law_some : mg "_law_some" = some (.ref a__law_some)
  a__law_may : Addr
  fd__law_may : FuncData
  F__law_may : Fun K "_law_may" "_law_may" s__law_may a__law_may fd__law_may
  b__law_may : Binds K fd__law_may ["fund", "gift"] []
  g__law_may : mg "_law_may" = some (.ref a__law_may)
  a_may_match : Addr
  fd_may_match : FuncData
  F_may_match : Fun K "may_match" "may_match" s_may_match a_may_match fd_may_match
  b_may_match : Binds K fd_may_match ["fund", "gift"] []
  g_may_match : mg "may_match" = some (.ref a_may_match)
  a__law_names : Addr
  fd__law_names : FuncData
  F__law_names : Fun K "_law_names" "_law_names" s__law_names a__law_names fd__law_names
  b__law_names : Binds K fd__law_names ["state", "script", "many"] []
  g__law_names : mg "_law_names" = some (.ref a__law_names)
  a__law_form : Addr
  fd__law_form : FuncData
  F__law_form : Fun K "_law_form" "_law_form" s__law_form a__law_form fd__law_form
  b__law_form : Binds K fd__law_form ["state", "script", "purposes"] []
  g__law_form : mg "_law_form" = some (.ref a__law_form)
  a__law_funds : Addr
  fd__law_funds : FuncData
  F__law_funds : Fun K "_law_funds" "_law_funds" s__law_funds a__law_funds fd__law_funds
  b__law_funds : Binds K fd__law_funds ["state", "script", "world", "many", "greatest"] []
  g__law_funds : mg "_law_funds" = some (.ref a__law_funds)
  a__law_gifts : Addr
  fd__law_gifts : FuncData
  F__law_gifts : Fun K "_law_gifts" "_law_gifts" s__law_gifts a__law_gifts fd__law_gifts
  b__law_gifts : Binds K fd__law_gifts ["state", "script", "world", "many", "greatest"] []
  g__law_gifts : mg "_law_gifts" = some (.ref a__law_gifts)
  a__law_world : Addr
  fd__law_world : FuncData
  F__law_world : Fun K "_law_world" "_law_world" s__law_world a__law_world fd__law_world
  b__law_world : Binds K fd__law_world ["state", "script"] []
  g__law_world : mg "_law_world" = some (.ref a__law_world)
  a__law_pair : Addr
  fd__law_pair : FuncData
  F__law_pair : Fun K "_law_pair" "_law_pair" s__law_pair a__law_pair fd__law_pair
  b__law_pair : Binds K fd__law_pair ["state", "script", "world"] []
  g__law_pair : mg "_law_pair" = some (.ref a__law_pair)
  a_law : Addr
  fd_law : FuncData
  F_law : Fun K "law" "law" s_law a_law fd_law
  b_law : Binds K fd_law ["script"] []
  g_law : mg "law" = some (.ref a_law)
  n_any : mg "any" = none
  n_int : mg "int" = none
  n_len : mg "len" = none
  n_list : mg "list" = none
  n_min : mg "min" = none
  n_range : mg "range" = none
  n_sorted : mg "sorted" = none
  n_str : mg "str" = none
  n_sum : mg "sum" = none
  n_tuple : mg "tuple" = none

end K55

namespace K55
open PySem PySem.Spec PyProof.Rows L2 Go Dt
set_option maxHeartbeats 8000000
local macro_rules | `(tactic| walk_at "ne") => `(tactic| first
  | assumption
  | (refine Ne.symm ?_; assumption)
  | exact (Go.free_upd (by assumption)).2
  | exact (Go.free_upd (by assumption)).2.symm
  | exact Go.ne_fr (by assumption) (by walk_at "hp")
  | exact (Go.ne_fr (by assumption) (by walk_at "hp")).symm)
local macro_rules | `(tactic| walk_at "fr") => `(tactic| first
  | assumption
  | exact (Go.free_upd (by assumption)).1
  | exact (Go.free_upd (Go.free_upd (by assumption)).1).1
  | exact Same.free (by assumption) (by walk_at "fr"))
local macro_rules | `(tactic| walk_at "hp") => `(tactic| first
  | assumption
  | with_reducible exact upd_same
  | ((with_reducible show upd _ _ _ _ = _); exact Go.at_upd (by walk_at "ne") (by walk_at "hp"))
  | exact (by assumption : Same _ _) _ _ (by walk_at "hp")
  | exact Dt.Own.at (by assumption) (List.mem_cons_self ..)
  | exact Dt.Own.at (by assumption) (List.mem_cons_of_mem _ (List.mem_cons_self ..))
  | exact Dt.Own.at (by assumption) (List.mem_cons_of_mem _ (List.mem_cons_of_mem _ (List.mem_cons_self ..)))
  | exact Dt.Ts.at (by assumption) (List.mem_cons_self ..)
  | exact Dt.Ts.at (by assumption) (List.mem_cons_of_mem _ (List.mem_cons_self ..))
  | exact Dt.Ds.at (by assumption) (List.mem_cons_self ..)
  | exact Dt.Ds.at (by assumption) (List.mem_cons_of_mem _ (List.mem_cons_self ..))
  | exact (Dt.Own.sub (by assumption)) _ _ (by walk_at "hp")
  | exact (Dt.TkS.sub (by assumption)) _ _ (by walk_at "hp")
  | exact (Dt.Ts.sub (by assumption)) _ _ (by walk_at "hp")
  | exact (Dt.DkS.sub (by assumption)) _ _ (by walk_at "hp")
  | exact (Dt.Ds.sub (by assumption)) _ _ (by walk_at "hp")
  | exact (by assumption : Go.Kp _ _ _) _ _ (by walk_at "ne") (by walk_at "hp")
  | exact (by assumption : Go.Kp2 _ _ _ _) _ _ (by walk_at "ne") (by walk_at "ne") (by walk_at "hp"))
local macro_rules | `(tactic| walk_at "sq") => `(tactic| first
  | assumption
  | ((with_reducible show SqL _ (upd _ _ _) _ _); exact (by assumption : ∀ o, SqL _ (upd _ _ o) _ _) _)
  | ((with_reducible show SqL _ _ _ _); exact SqL.of (by walk_at "hp"))
  | ((with_reducible show SqT _ _ _ _); exact SqT.of (by walk_at "hp"))
  | ((with_reducible show SqL _ (upd _ _ _) _ _); exact Go.sqL_new (by walk_at "fr") (by walk_at "sq"))
  | ((with_reducible show SqT _ (upd _ _ _) _ _); exact Go.sqT_new (by walk_at "fr") (by walk_at "sq"))
  | ((with_reducible show SqL _ (upd _ _ _) _ _); exact Go.sqL_ne (by walk_at "ne") (by walk_at "sq"))
  | ((with_reducible show SqL _ _ _ _); exact Go.sqL_same (by assumption) (by walk_at "sq"))
  | ((with_reducible show SqT _ _ _ _); exact Go.sqT_same (by assumption) (by walk_at "sq"))
  | ((with_reducible show SqL _ _ _ _); exact Go.sqL_same (Dt.Own.sub (by assumption)) (by walk_at "sq"))
  | ((with_reducible show SqT _ _ _ _); exact Go.sqT_same (Dt.Own.sub (by assumption)) (by walk_at "sq"))
  | ((with_reducible show SqL _ _ _ _); exact Go.sqL_same (Dt.TkS.sub (by assumption)) (by walk_at "sq"))
  | ((with_reducible show SqL _ _ _ _); exact Go.sqL_same (Dt.Ts.sub (by assumption)) (by walk_at "sq"))
  | ((with_reducible show SqT _ _ _ _); exact Go.sqT_same (Dt.TkS.sub (by assumption)) (by walk_at "sq"))
  | ((with_reducible show SqT _ _ _ _); exact Go.sqT_same (Dt.Ts.sub (by assumption)) (by walk_at "sq"))
  | ((with_reducible show SqL _ _ _ _); exact Go.sqL_same (Dt.DkS.sub (by assumption)) (by walk_at "sq"))
  | ((with_reducible show SqL _ _ _ _); exact Go.sqL_same (Dt.Ds.sub (by assumption)) (by walk_at "sq"))
  | ((with_reducible show SqT _ _ _ _); exact Go.sqT_same (Dt.DkS.sub (by assumption)) (by walk_at "sq"))
  | ((with_reducible show SqT _ _ _ _); exact Go.sqT_same (Dt.Ds.sub (by assumption)) (by walk_at "sq"))
  | ((with_reducible show SqL _ _ _ _); exact Go.sqL_kp (by assumption) (by walk_at "ne") (by walk_at "sq"))
  | ((with_reducible show SqT _ _ _ _); exact Go.sqT_kp (by assumption) (by walk_at "ne") (by walk_at "sq")))
local macro_rules | `(tactic| walk_at "dp") => `(tactic| first
  | assumption
  | with_reducible exact L2.Dp.int _
  | with_reducible exact L2.Dp.str _
  | with_reducible exact L2.Dp.non
  | with_reducible exact L2.Dp.bl _
  | with_reducible exact L2.DpAll.nil
  | ((with_reducible show L2.Dp _ _ _ _); exact Dt.Dp.same (by assumption) (by walk_at "dp"))
  | ((with_reducible show L2.DpAll _ _ _ _); exact Dt.DpAll.same (by assumption) (by walk_at "dp"))
  | ((with_reducible show L2.Dp _ _ _ _); exact Dt.Dp.same (Dt.Own.sub (by assumption)) (by walk_at "dp"))
  | ((with_reducible show L2.DpAll _ _ _ _); exact Dt.DpAll.same (Dt.Own.sub (by assumption)) (by walk_at "dp"))
  | ((with_reducible show L2.Dp _ _ _ _); exact Dt.Dp.same (Dt.TkS.sub (by assumption)) (by walk_at "dp"))
  | ((with_reducible show L2.Dp _ _ _ _); exact Dt.Dp.same (Dt.Ts.sub (by assumption)) (by walk_at "dp"))
  | ((with_reducible show L2.DpAll _ _ _ _); exact Dt.DpAll.same (Dt.TkS.sub (by assumption)) (by walk_at "dp"))
  | ((with_reducible show L2.DpAll _ _ _ _); exact Dt.DpAll.same (Dt.Ts.sub (by assumption)) (by walk_at "dp"))
  | ((with_reducible show L2.Dp _ _ _ _); exact Dt.Dp.same (Dt.DkS.sub (by assumption)) (by walk_at "dp"))
  | ((with_reducible show L2.Dp _ _ _ _); exact Dt.Dp.same (Dt.Ds.sub (by assumption)) (by walk_at "dp"))
  | ((with_reducible show L2.DpAll _ _ _ _); exact Dt.DpAll.same (Dt.DkS.sub (by assumption)) (by walk_at "dp"))
  | ((with_reducible show L2.DpAll _ _ _ _); exact Dt.DpAll.same (Dt.Ds.sub (by assumption)) (by walk_at "dp"))
  | ((with_reducible show L2.Dp _ _ _ _); exact L2.Dp.tup (by walk_at "sq") (by walk_at "dp"))
  | ((with_reducible show L2.Dp _ _ _ _); exact L2.Dp.lst (by walk_at "sq") (by walk_at "dp"))
  | with_reducible exact L2.DpAll.cons (by walk_at "dp") (by walk_at "dp")
  | ((with_reducible show Dt.Scr _ _ _); exact Dt.Scr.same (by assumption) (by walk_at "dp"))
  | exact Dt.dpAll_ints.mpr rfl
  | exact Dt.dpAll_strs.mpr rfl
  | exact Dt.dpAll_bools.mpr rfl)
local macro_rules | `(tactic| walk_at "ci") => `(tactic| first
  | exact .inr ⟨by decide, by decide⟩
  | exact .inl ⟨by decide, by decide⟩
  | exact ⟨by decide, by decide, by decide⟩
  | decide
  | omega
  | exact ⟨by omega, by omega⟩
  | exact .inl ⟨by omega, by omega⟩
  | exact .inr ⟨by omega, by omega⟩)
local macro_rules | `(tactic| walk_at "g0") => `(tactic| first
  | with_reducible refine Go.g_seq ?_
  | ((with_reducible show tVar _ _ _ _); refine ⟨_, rfl, ?_⟩)
  | with_reducible refine Go.g_c ?_
  | with_reducible refine Go.g_op ?_
  | with_reducible refine Go.g_asg ?_
  | with_reducible refine Go.g_name ?_
  | with_reducible refine Go.g_cons ?_
  | with_reducible refine Dt.g_orV ?_
  | with_reducible refine Dt.g_andV ?_
  | with_reducible refine Dt.g_notV ?_
  | with_reducible refine Dt.g_lst2 ?_
  | with_reducible refine Dt.g_tup2 ?_
  | with_reducible refine Go.g_for ?_
  | with_reducible refine Go.g_rng1 ?_
  | with_reducible refine Go.g_rng2 ?_
  | with_reducible refine Go.g_rng3 ?_
  | with_reducible refine Go.g_list ?_
  | with_reducible refine Go.g_itup ?_
  | with_reducible refine Go.g_enum ?_
  | ((with_reducible show tPar _ _ _ _ _ _); unfold tPar)
  | ((with_reducible show ∃ v w, [_, _] = [v, w] ∧ _); refine ⟨_, _, rfl, ?_⟩)
  | with_reducible refine Go.g_zip ?_
  | with_reducible refine Go.g_augS ?_
  | with_reducible refine Go.g_lc ?_
  | with_reducible refine Go.g_nil ?_
  | with_reducible refine Go.g_cb ?_
  | with_reducible refine Go.g_call ?_
  | with_reducible refine Go.g_ret ?_
  | with_reducible refine Go.g_next ?_
  | with_reducible refine Go.g_drop ?_
  | with_reducible refine Go.g_un ?_
  | with_reducible refine Go.g_test ?_
  | with_reducible refine Go.g_tB ?_
  | with_reducible refine Go.g_ifs ?_
  | with_reducible refine Go.g_if ?_
  | with_reducible refine Go.g_and ?_
  | with_reducible refine Go.g_or ?_
  | with_reducible refine Go.g_not ?_
  | with_reducible refine Go.g_sl ?_
  | with_reducible refine Go.g_nopart ?_
  | with_reducible refine Go.g_part ?_
  | ((with_reducible show ∃ k, V.bl _ = V.bl k ∧ _); refine ⟨_, rfl, ?_⟩)
  | ((with_reducible show ∃ k, V.int _ = V.int k ∧ _); refine ⟨_, rfl, ?_⟩)
  | with_reducible refine Go.g_bm ?_
  | with_reducible refine Go.g_yes ?_
  | ((with_reducible show rI0 _ _ _ _ _); refine ⟨_, _, rfl, rfl, ?_⟩)
  | ((with_reducible show rI _ _ _ _ _ _); refine ⟨_, _, rfl, rfl, ?_, ?_⟩; (focus walk_at "ci"))
  | ((with_reducible show rU _ _ _ _); refine ⟨_, rfl, ?_⟩)
  | ((with_reducible show V.non = V.non ∧ _); refine ⟨rfl, ?_⟩)
  | ((with_reducible show rIsB _ _ _ _); refine ⟨_, _, rfl, rfl, ?_⟩)
  | ((with_reducible show rNotB _ _ _ _); refine ⟨_, _, rfl, rfl, ?_⟩)
  | ((with_reducible show rEq _ _ _ _); refine ⟨rfl, ?_⟩)
  | ((with_reducible show rNe _ _ _ _); refine ⟨rfl, ?_⟩)
  | ((with_reducible show rIxL _ _ _ _ _); refine Go.g_ixL (by walk_at "sq") (by rfl) ?_)
  | ((with_reducible show rIxT _ _ _ _ _); refine Go.g_ixT (by walk_at "sq") (by rfl) ?_)
  | ((with_reducible show rSetL _ _ _ _ _); refine Go.g_setL (by walk_at "hp") (by rfl) ?_)
  | ((with_reducible show ∃ p ys, [V.ref _] = [V.ref p] ∧ (SqL _ _ _ _ ∨ SqT _ _ _ _) ∧ _); refine ⟨_, _, rfl, .inl (by walk_at "sq"), ?_⟩)
  | ((with_reducible show (∃ i, [V.int _] = [V.int i] ∧ _) ∨ _); refine .inl ⟨_, rfl, ?_⟩)
  | ((with_reducible show ∃ (c : Nat) (z : Str), V.str _ = V.str ⟨#[c]⟩ ∧ V.str _ = V.str z ∧ _); refine ⟨_, _, rfl, rfl, ?_⟩)
  | ((with_reducible show ∃ x : Str, [V.str _] = [V.str x] ∧ Str.length x = 1 ∧ _); refine ⟨_, rfl, rfl, ?_⟩)
  | ((with_reducible show ∃ z : Str, [V.str _] = [V.str z] ∧ Str.length z ≤ sizeLine ∧ _); refine ⟨_, rfl, by assumption, ?_⟩)
  | ((with_reducible show rSlS _ _ _ _ _); refine ⟨_, rfl, by assumption, ?_⟩)
  | ((with_reducible show gTup _ _ _ _ _ _ _); refine Go.g_gtup (by walk_at "sq") (by rfl) ?_)
  | ((with_reducible show gCons _ _ _ _ _ _); refine ⟨_, _, rfl, ?_⟩)
  | ((with_reducible show gNil _ _ _ _); refine ⟨rfl, ?_⟩)
  | ((with_reducible show rLenS _ _ _ _); refine Go.g_lenL (by walk_at "sq") ?_)
  | ((with_reducible show rListOf _ _ _ _); refine Go.g_listL (by walk_at "sq") ?_)
  | ((with_reducible show Dt.rList2 _ _ _ _); refine ⟨_, _, rfl, .inl (by walk_at "sq"), ?_⟩)
  | ((with_reducible show Dt.rTuple2 _ _ _ _); refine ⟨_, _, rfl, by walk_at "sq", ?_⟩)
  | ((with_reducible show Dt.rSlL2 _ _ _ _ _ _); refine ⟨_, _, rfl, by walk_at "sq", ?_⟩)
  | ((with_reducible show wipe _ _ = wipe _ _ ∧ _); refine ⟨rfl, ?_⟩)
  | ((with_reducible show if true = true then _ else _); refine iteT ?_)
  | ((with_reducible show if false = true then _ else _); refine iteF ?_)
  | ((with_reducible show ∃ a b xs ys, [V.ref _, V.ref _] = [V.ref a, V.ref b] ∧ SqL _ _ a xs ∧ SqL _ _ b ys ∧ _); refine ⟨_, _, _, _, rfl, by walk_at "sq", by walk_at "sq", ?_⟩)
  | ((with_reducible show ∃ a xs, [V.ref _] = [V.ref a] ∧ SqL _ _ a xs ∧ _); refine ⟨_, _, rfl, by walk_at "sq", ?_⟩)
  | ((with_reducible show ∃ a, V.ref _ = V.ref a ∧ (∃ xs, SqL _ _ a xs) ∧ _); refine ⟨_, rfl, ⟨_, by walk_at "sq"⟩, ?_⟩)
  | ((with_reducible show ∃ a, V.ref _ = V.ref a ∧ (∃ xs, SqT _ _ a xs) ∧ _); refine ⟨_, rfl, ⟨_, by walk_at "sq"⟩, ?_⟩)
  | ((with_reducible show ∃ j : Int, [V.int _] = [V.int j] ∧ _ ≤ j ∧ j < _ ∧ _); refine ⟨_, rfl, by omega, by omega, ?_⟩)
  | ((with_reducible show ∃ i j : Int, [V.int _, V.int _] = [V.int i, V.int j] ∧ (_ ≤ i ∧ i < _ ∧ _ ≤ j ∧ j < _) ∧ _); refine ⟨_, _, rfl, ⟨by omega, by omega, by omega, by omega⟩, ?_⟩)
  | ((with_reducible show ∃ i j : Int, [V.int _, V.int _] = [V.int i, V.int j] ∧ _); refine ⟨_, _, rfl, ?_⟩)
  | ((with_reducible show ∃ i : Int, [V.int _] = [V.int i] ∧ _); refine ⟨_, rfl, ?_⟩)
  | ((with_reducible show _ ≤ sizeLine ∧ _); refine ⟨by first | decide | (simp only [List.length_cons, List.length_nil]; decide), ?_⟩))
local macro_rules | `(tactic| walk_at "g1") => `(tactic| first | walk_at "g0" | with_reducible refine Go.g_sub ?_)
local macro_rules | `(tactic| walk_at "g") => `(tactic| repeat walk_at "g1")
local macro_rules | `(tactic| walk_at "v") => `(tactic| repeat walk_at "g0")
local macro_rules | `(tactic| walk_at "if") => `(tactic| first
  | with_reducible refine @Go.g_itd _ _ _ _ ?_ ?_
  | with_reducible refine @Go.g_itnd _ _ _ _ ?_ ?_
  | with_reducible refine Go.g_ite ?_ ?_)

section
variable {P : Program} {w : World} {K : PySem.W.Frag} {mg : Str → Option Value} {base : Heap}
def sp__law_draw (K : PySem.W.Frag) : Sp := fun vs H Q _ => ∃ (st sc : Addr) (size : Int) (G : Hp), vs = [.ref st, .ref sc, .int size] ∧ DkS st G H ∧ Scr K G sc ∧
  1 ≤ size ∧ size < 1000000000 ∧ ∀ H' d, DkS st G H' → 0 ≤ d → d < size → Q (.int d) H'
theorem ok__law_draw (T : Txt K mg) : FnOk P w K mg base CX0 1 T.a__law_draw T.fd__law_draw ["state", "script", "size"] (sp__law_draw K) := by
  refine T.F__law_draw.ok sc__law_draw (fun vs H Q E h => ?_) (fun cdv A outer s H vs Q E hr h => ?_)
  · obtain ⟨st, sc, size, G, rfl, _⟩ := h; rfl
  · obtain ⟨st, sc, size, G, rfl, ⟨dk, ⟨n, s, rfl⟩, ow⟩, ⟨ns, hsG, hlen⟩, h1, h2, q⟩ := h
    have hst := ow.at (List.mem_cons_self ..)
    have hsc := sqL_same ow.sub hsG
    refine ⟨_, C8.pss_cut (ps_if (pt_cmpR op_eq (pe_ix ix_list (pv 0) pe_int (fun _ _ => rfl)) pe_int (nomark _))
        (pss_cons (ps_set (i := 3) sc__law_draw.nd rfl (.inl rfl) pe_int)
        (C8.pss_cut (ps_if (pt_cmpR op_gt (pe_callB call_lenS (by rfl) T.n_len PySem.boot_len (pa_cons (pv 1) pa_nil)) pe_int (nomark _))
          (pss_one (ps_set (i := 3) sc__law_draw.nd rfl (.inl rfl) (pe_ix ix_list (pv 1) (pe_op op_mod (pe_ix ix_list (pv 0) pe_int (fun _ _ => rfl)) (pe_callB call_lenS (by rfl) T.n_len PySem.boot_len (pa_cons (pv 1) pa_nil))) (fun _ _ => rfl))))
          (pss_nil))
        (C8.pss_cut (ps_if (pt_cmpR op_lt (pv 3) pe_int (nomark _))
          (pss_one (ps_set (i := 3) sc__law_draw.nd rfl (.inl rfl) (pe_op op_sub pe_int (pe_op op_mul pe_int (pv 3)))))
          (pss_nil))
        (pss_cons (ps_set (i := 4) sc__law_draw.nd rfl (.inl rfl) (pe_op op_mod (pe_callTy call_int1 (by rfl) T.n_int (by decide +kernel) (pa_cons (pe_op op_mul (pe_op op_add (pe_op op_add (pv 3) (pe_op op_mul (pe_ix ix_list (pv 0) pe_int (fun _ _ => rfl)) pe_int)) pe_int) pe_int) pa_nil)) pe_int))
        (pss_cons (ps_asg (pe_op op_mod (pe_callTy call_int1 (by rfl) T.n_int (by decide +kernel) (pa_cons (pe_op op_add (pe_op op_mul (pv 4) pe_int) (pe_op op_mul (pe_ix ix_list (pv 0) pe_int (fun _ _ => rfl)) pe_int)) pa_nil)) pe_int) (pg_sub (pv 0) pe_int set_list))
        (C8.pss_cut (ps_if (PW.pt (pw_and (pt_cmpR op_ge (pv 3) (pe_op op_pow pe_int pe_int) (nomark _)) (pw_and1 (pt_cmpR op_lt (pe_ix ix_list (pv 0) pe_int (fun _ _ => rfl)) (pe_callB call_lenS (by rfl) T.n_len PySem.boot_len (pa_cons (pv 1) pa_nil)) (nomark _)))))
          (pss_one (ps_asg (pv 3) (pg_sub (pv 0) pe_int set_list)))
          (pss_nil))
        (pss_one (ps_asg (pe_op op_add (pe_ix ix_list (pv 0) pe_int (fun _ _ => rfl)) pe_int) (pg_sub (pv 0) pe_int set_list)))))))))
        (pss_nil))
      (pss_cons (ps_set (i := 5) sc__law_draw.nd rfl (.inl rfl) (pe_op op_mod (pe_callTy call_int1 (by rfl) T.n_int (by decide +kernel) (pa_cons (pe_ix ix_list (pv 0) pe_int (fun _ _ => rfl)) pa_nil)) (pv 2)))
      (pss_cons (ps_asg (pe_op op_fdiv (pe_ix ix_list (pv 0) pe_int (fun _ _ => rfl)) (pv 2)) (pg_sub (pv 0) pe_int set_list))
      (pss_one (ps_ret (pv 5))))), ?_⟩
    refine ⟨fun σ' H' => ∃ n s y3 y4, σ' = [some (.ref st), some (.ref sc), some (.int size), y3, y4, none] ∧ Own [(st, .lst [.int n, .int s])] G H', ?_, ?_⟩
    · walk_at "g"
      walk_at "if" <;> intro e
      · walk_at "g"
        refine ⟨fun σ' H' => ∃ c : Int, σ' = [some (.ref st), some (.ref sc), some (.int size), some (.int c), none, none] ∧ H = H', ?_, ?_⟩
        · walk_at "g"
          walk_at "if" <;> intro e
          · walk_at "g"
            refine ⟨_, _, _, _, rfl, rfl, hsc, atI_map (Int.emod_nonneg _ (by omega)) ?_, ?_⟩
            · rw [List.length_map] at e ⊢
              exact Int.emod_lt_of_pos _ e
            · exact ⟨_, rfl, rfl⟩
          · exact ⟨_, rfl, rfl⟩
        · rintro _ _ ⟨c, rfl, rfl⟩
          refine ⟨fun σ' H' => ∃ c : Int, σ' = [some (.ref st), some (.ref sc), some (.int size), some (.int c), none, none] ∧ H = H', ?_, ?_⟩
          · walk_at "g"
            walk_at "if" <;> intro e
            · walk_at "g"
              exact ⟨_, rfl, rfl⟩
            · exact ⟨_, rfl, rfl⟩
          · rintro _ _ ⟨c, rfl, rfl⟩
            walk_at "g"
            refine ⟨fun σ' H' => ∃ n s c m : Int, σ' = [some (.ref st), some (.ref sc), some (.int size), some (.int c), some (.int m), none] ∧ Own [(st, .lst [.int n, .int s])] G H', ?_, ?_⟩
            · walk_at "g"
              walk_at "if" <;> intro e
              · have hsc1 : ∀ o, SqL K (upd H st o) sc (ns.map V.int) := fun o => sqL_same (ow.set (o' := o)).sub hsG
                walk_at "g"
                walk_at "if" <;> intro e
                · walk_at "g"
                  exact ⟨_, _, _, _, rfl, ow.set.set⟩
                · walk_at "g"
                  exact ⟨_, _, _, _, rfl, ow.set⟩
              · walk_at "g"
                exact ⟨_, _, _, _, rfl, ow.set⟩
            · rintro _ H1 ⟨n, s, c, m, rfl, w1⟩
              have hs1 := w1.at (List.mem_cons_self ..)
              walk_at "g"
              exact ⟨_, _, _, _, rfl, w1.set⟩
      · walk_at "g"
        exact ⟨_, _, _, _, rfl, ow⟩
    · rintro _ H1 ⟨n, s, y3, y4, rfl, w1⟩
      have hs1 := w1.at (List.mem_cons_self ..)
      walk_at "g"
      exact q _ _ ⟨_, ⟨_, _, rfl⟩, w1.set⟩ (Int.emod_nonneg _ (by omega)) (Int.emod_lt_of_pos _ (by omega))
/-- a draw beside other cells -/
theorem rd_draw {K : PySem.W.Frag} {Q : VK} {E : XK} {st sc : Addr} {size : Int} {pre : List (Addr × HO)} {G H : Hp} (t : Ds pre st G H) (hs : Scr K G sc) (pl : ∀ c ∈ pre, Plain c.2) (h1 : 1 ≤ size) (h2 : size < 1000000000)
    (h : ∀ H' d, Ds pre st G H' → 0 ≤ d → d < size → Q (.int d) H') : spF (sp__law_draw K) [.ref st, .ref sc, .int size] H Q E := by
  obtain ⟨G1, w, t1⟩ := t.split
  exact ⟨pre, G1, w, pl, st, sc, size, G, rfl, t1, hs, h1, h2, fun H' d t' a b H2 w2 => h H2 d (Ds.join w2 t') a b⟩

end
end K55

namespace K55
open PySem PySem.Spec PyProof.Rows L2 Go Dt
set_option maxHeartbeats 8000000
local macro_rules | `(tactic| walk_at "ne") => `(tactic| first
  | assumption
  | (refine Ne.symm ?_; assumption)
  | exact (Go.free_upd (by assumption)).2
  | exact (Go.free_upd (by assumption)).2.symm
  | exact Go.ne_fr (by assumption) (by walk_at "hp")
  | exact (Go.ne_fr (by assumption) (by walk_at "hp")).symm)
local macro_rules | `(tactic| walk_at "fr") => `(tactic| first
  | assumption
  | exact (Go.free_upd (by assumption)).1
  | exact (Go.free_upd (Go.free_upd (by assumption)).1).1
  | exact Same.free (by assumption) (by walk_at "fr"))
local macro_rules | `(tactic| walk_at "hp") => `(tactic| first
  | assumption
  | with_reducible exact upd_same
  | ((with_reducible show upd _ _ _ _ = _); exact Go.at_upd (by walk_at "ne") (by walk_at "hp"))
  | exact (by assumption : Same _ _) _ _ (by walk_at "hp")
  | exact Dt.Own.at (by assumption) (List.mem_cons_self ..)
  | exact Dt.Own.at (by assumption) (List.mem_cons_of_mem _ (List.mem_cons_self ..))
  | exact Dt.Own.at (by assumption) (List.mem_cons_of_mem _ (List.mem_cons_of_mem _ (List.mem_cons_self ..)))
  | exact Dt.Ts.at (by assumption) (List.mem_cons_self ..)
  | exact Dt.Ts.at (by assumption) (List.mem_cons_of_mem _ (List.mem_cons_self ..))
  | exact Dt.Ds.at (by assumption) (List.mem_cons_self ..)
  | exact Dt.Ds.at (by assumption) (List.mem_cons_of_mem _ (List.mem_cons_self ..))
  | exact (Dt.Own.sub (by assumption)) _ _ (by walk_at "hp")
  | exact (Dt.TkS.sub (by assumption)) _ _ (by walk_at "hp")
  | exact (Dt.Ts.sub (by assumption)) _ _ (by walk_at "hp")
  | exact (Dt.DkS.sub (by assumption)) _ _ (by walk_at "hp")
  | exact (Dt.Ds.sub (by assumption)) _ _ (by walk_at "hp")
  | exact (by assumption : Go.Kp _ _ _) _ _ (by walk_at "ne") (by walk_at "hp")
  | exact (by assumption : Go.Kp2 _ _ _ _) _ _ (by walk_at "ne") (by walk_at "ne") (by walk_at "hp"))
local macro_rules | `(tactic| walk_at "sq") => `(tactic| first
  | assumption
  | ((with_reducible show SqL _ (upd _ _ _) _ _); exact (by assumption : ∀ o, SqL _ (upd _ _ o) _ _) _)
  | ((with_reducible show SqL _ _ _ _); exact SqL.of (by walk_at "hp"))
  | ((with_reducible show SqT _ _ _ _); exact SqT.of (by walk_at "hp"))
  | ((with_reducible show SqL _ (upd _ _ _) _ _); exact Go.sqL_new (by walk_at "fr") (by walk_at "sq"))
  | ((with_reducible show SqT _ (upd _ _ _) _ _); exact Go.sqT_new (by walk_at "fr") (by walk_at "sq"))
  | ((with_reducible show SqL _ (upd _ _ _) _ _); exact Go.sqL_ne (by walk_at "ne") (by walk_at "sq"))
  | ((with_reducible show SqL _ _ _ _); exact Go.sqL_same (by assumption) (by walk_at "sq"))
  | ((with_reducible show SqT _ _ _ _); exact Go.sqT_same (by assumption) (by walk_at "sq"))
  | ((with_reducible show SqL _ _ _ _); exact Go.sqL_same (Dt.Own.sub (by assumption)) (by walk_at "sq"))
  | ((with_reducible show SqT _ _ _ _); exact Go.sqT_same (Dt.Own.sub (by assumption)) (by walk_at "sq"))
  | ((with_reducible show SqL _ _ _ _); exact Go.sqL_same (Dt.TkS.sub (by assumption)) (by walk_at "sq"))
  | ((with_reducible show SqL _ _ _ _); exact Go.sqL_same (Dt.Ts.sub (by assumption)) (by walk_at "sq"))
  | ((with_reducible show SqT _ _ _ _); exact Go.sqT_same (Dt.TkS.sub (by assumption)) (by walk_at "sq"))
  | ((with_reducible show SqT _ _ _ _); exact Go.sqT_same (Dt.Ts.sub (by assumption)) (by walk_at "sq"))
  | ((with_reducible show SqL _ _ _ _); exact Go.sqL_same (Dt.DkS.sub (by assumption)) (by walk_at "sq"))
  | ((with_reducible show SqL _ _ _ _); exact Go.sqL_same (Dt.Ds.sub (by assumption)) (by walk_at "sq"))
  | ((with_reducible show SqT _ _ _ _); exact Go.sqT_same (Dt.DkS.sub (by assumption)) (by walk_at "sq"))
  | ((with_reducible show SqT _ _ _ _); exact Go.sqT_same (Dt.Ds.sub (by assumption)) (by walk_at "sq"))
  | ((with_reducible show SqL _ _ _ _); exact Go.sqL_kp (by assumption) (by walk_at "ne") (by walk_at "sq"))
  | ((with_reducible show SqT _ _ _ _); exact Go.sqT_kp (by assumption) (by walk_at "ne") (by walk_at "sq")))
local macro_rules | `(tactic| walk_at "dp") => `(tactic| first
  | assumption
  | with_reducible exact L2.Dp.int _
  | with_reducible exact L2.Dp.str _
  | with_reducible exact L2.Dp.non
  | with_reducible exact L2.Dp.bl _
  | with_reducible exact L2.DpAll.nil
  | ((with_reducible show L2.Dp _ _ _ _); exact Dt.Dp.same (by assumption) (by walk_at "dp"))
  | ((with_reducible show L2.DpAll _ _ _ _); exact Dt.DpAll.same (by assumption) (by walk_at "dp"))
  | ((with_reducible show L2.Dp _ _ _ _); exact Dt.Dp.same (Dt.Own.sub (by assumption)) (by walk_at "dp"))
  | ((with_reducible show L2.DpAll _ _ _ _); exact Dt.DpAll.same (Dt.Own.sub (by assumption)) (by walk_at "dp"))
  | ((with_reducible show L2.Dp _ _ _ _); exact Dt.Dp.same (Dt.TkS.sub (by assumption)) (by walk_at "dp"))
  | ((with_reducible show L2.Dp _ _ _ _); exact Dt.Dp.same (Dt.Ts.sub (by assumption)) (by walk_at "dp"))
  | ((with_reducible show L2.DpAll _ _ _ _); exact Dt.DpAll.same (Dt.TkS.sub (by assumption)) (by walk_at "dp"))
  | ((with_reducible show L2.DpAll _ _ _ _); exact Dt.DpAll.same (Dt.Ts.sub (by assumption)) (by walk_at "dp"))
  | ((with_reducible show L2.Dp _ _ _ _); exact Dt.Dp.same (Dt.DkS.sub (by assumption)) (by walk_at "dp"))
  | ((with_reducible show L2.Dp _ _ _ _); exact Dt.Dp.same (Dt.Ds.sub (by assumption)) (by walk_at "dp"))
  | ((with_reducible show L2.DpAll _ _ _ _); exact Dt.DpAll.same (Dt.DkS.sub (by assumption)) (by walk_at "dp"))
  | ((with_reducible show L2.DpAll _ _ _ _); exact Dt.DpAll.same (Dt.Ds.sub (by assumption)) (by walk_at "dp"))
  | ((with_reducible show L2.Dp _ _ _ _); exact L2.Dp.tup (by walk_at "sq") (by walk_at "dp"))
  | ((with_reducible show L2.Dp _ _ _ _); exact L2.Dp.lst (by walk_at "sq") (by walk_at "dp"))
  | with_reducible exact L2.DpAll.cons (by walk_at "dp") (by walk_at "dp")
  | ((with_reducible show Dt.Scr _ _ _); exact Dt.Scr.same (by assumption) (by walk_at "dp"))
  | exact Dt.dpAll_ints.mpr rfl
  | exact Dt.dpAll_strs.mpr rfl
  | exact Dt.dpAll_bools.mpr rfl)
local macro_rules | `(tactic| walk_at "ci") => `(tactic| first
  | exact .inr ⟨by decide, by decide⟩
  | exact .inl ⟨by decide, by decide⟩
  | exact ⟨by decide, by decide, by decide⟩
  | decide
  | omega
  | exact ⟨by omega, by omega⟩
  | exact .inl ⟨by omega, by omega⟩
  | exact .inr ⟨by omega, by omega⟩)
local macro_rules | `(tactic| walk_at "g0") => `(tactic| first
  | with_reducible refine Go.g_seq ?_
  | ((with_reducible show tVar _ _ _ _); refine ⟨_, rfl, ?_⟩)
  | with_reducible refine Go.g_c ?_
  | with_reducible refine Go.g_op ?_
  | with_reducible refine Go.g_asg ?_
  | with_reducible refine Go.g_name ?_
  | with_reducible refine Go.g_cons ?_
  | with_reducible refine Dt.g_orV ?_
  | with_reducible refine Dt.g_andV ?_
  | with_reducible refine Dt.g_notV ?_
  | with_reducible refine Dt.g_lst2 ?_
  | with_reducible refine Dt.g_tup2 ?_
  | with_reducible refine Go.g_for ?_
  | with_reducible refine Go.g_rng1 ?_
  | with_reducible refine Go.g_rng2 ?_
  | with_reducible refine Go.g_rng3 ?_
  | with_reducible refine Go.g_list ?_
  | with_reducible refine Go.g_itup ?_
  | with_reducible refine Go.g_enum ?_
  | ((with_reducible show tPar _ _ _ _ _ _); unfold tPar)
  | ((with_reducible show ∃ v w, [_, _] = [v, w] ∧ _); refine ⟨_, _, rfl, ?_⟩)
  | with_reducible refine Go.g_zip ?_
  | with_reducible refine Go.g_augS ?_
  | with_reducible refine Go.g_lc ?_
  | with_reducible refine Go.g_nil ?_
  | with_reducible refine Go.g_cb ?_
  | with_reducible refine Go.g_call ?_
  | with_reducible refine Go.g_ret ?_
  | with_reducible refine Go.g_next ?_
  | with_reducible refine Go.g_drop ?_
  | with_reducible refine Go.g_un ?_
  | with_reducible refine Go.g_test ?_
  | with_reducible refine Go.g_tB ?_
  | with_reducible refine Go.g_ifs ?_
  | with_reducible refine Go.g_if ?_
  | with_reducible refine Go.g_and ?_
  | with_reducible refine Go.g_or ?_
  | with_reducible refine Go.g_not ?_
  | with_reducible refine Go.g_sl ?_
  | with_reducible refine Go.g_nopart ?_
  | with_reducible refine Go.g_part ?_
  | ((with_reducible show ∃ k, V.bl _ = V.bl k ∧ _); refine ⟨_, rfl, ?_⟩)
  | ((with_reducible show ∃ k, V.int _ = V.int k ∧ _); refine ⟨_, rfl, ?_⟩)
  | with_reducible refine Go.g_bm ?_
  | with_reducible refine Go.g_yes ?_
  | ((with_reducible show rI0 _ _ _ _ _); refine ⟨_, _, rfl, rfl, ?_⟩)
  | ((with_reducible show rI _ _ _ _ _ _); refine ⟨_, _, rfl, rfl, ?_, ?_⟩; (focus walk_at "ci"))
  | ((with_reducible show rU _ _ _ _); refine ⟨_, rfl, ?_⟩)
  | ((with_reducible show V.non = V.non ∧ _); refine ⟨rfl, ?_⟩)
  | ((with_reducible show rIsB _ _ _ _); refine ⟨_, _, rfl, rfl, ?_⟩)
  | ((with_reducible show rNotB _ _ _ _); refine ⟨_, _, rfl, rfl, ?_⟩)
  | ((with_reducible show rEq _ _ _ _); refine ⟨rfl, ?_⟩)
  | ((with_reducible show rNe _ _ _ _); refine ⟨rfl, ?_⟩)
  | ((with_reducible show rIxL _ _ _ _ _); refine Go.g_ixL (by walk_at "sq") (by rfl) ?_)
  | ((with_reducible show rIxT _ _ _ _ _); refine Go.g_ixT (by walk_at "sq") (by rfl) ?_)
  | ((with_reducible show rSetL _ _ _ _ _); refine Go.g_setL (by walk_at "hp") (by rfl) ?_)
  | ((with_reducible show ∃ p ys, [V.ref _] = [V.ref p] ∧ (SqL _ _ _ _ ∨ SqT _ _ _ _) ∧ _); refine ⟨_, _, rfl, .inl (by walk_at "sq"), ?_⟩)
  | ((with_reducible show (∃ i, [V.int _] = [V.int i] ∧ _) ∨ _); refine .inl ⟨_, rfl, ?_⟩)
  | ((with_reducible show ∃ (c : Nat) (z : Str), V.str _ = V.str ⟨#[c]⟩ ∧ V.str _ = V.str z ∧ _); refine ⟨_, _, rfl, rfl, ?_⟩)
  | ((with_reducible show ∃ x : Str, [V.str _] = [V.str x] ∧ Str.length x = 1 ∧ _); refine ⟨_, rfl, rfl, ?_⟩)
  | ((with_reducible show ∃ z : Str, [V.str _] = [V.str z] ∧ Str.length z ≤ sizeLine ∧ _); refine ⟨_, rfl, by assumption, ?_⟩)
  | ((with_reducible show rSlS _ _ _ _ _); refine ⟨_, rfl, by assumption, ?_⟩)
  | ((with_reducible show gTup _ _ _ _ _ _ _); refine Go.g_gtup (by walk_at "sq") (by rfl) ?_)
  | ((with_reducible show gCons _ _ _ _ _ _); refine ⟨_, _, rfl, ?_⟩)
  | ((with_reducible show gNil _ _ _ _); refine ⟨rfl, ?_⟩)
  | ((with_reducible show rLenS _ _ _ _); refine Go.g_lenL (by walk_at "sq") ?_)
  | ((with_reducible show rListOf _ _ _ _); refine Go.g_listL (by walk_at "sq") ?_)
  | ((with_reducible show Dt.rList2 _ _ _ _); refine ⟨_, _, rfl, .inl (by walk_at "sq"), ?_⟩)
  | ((with_reducible show Dt.rTuple2 _ _ _ _); refine ⟨_, _, rfl, by walk_at "sq", ?_⟩)
  | ((with_reducible show Dt.rSlL2 _ _ _ _ _ _); refine ⟨_, _, rfl, by walk_at "sq", ?_⟩)
  | ((with_reducible show wipe _ _ = wipe _ _ ∧ _); refine ⟨rfl, ?_⟩)
  | ((with_reducible show if true = true then _ else _); refine iteT ?_)
  | ((with_reducible show if false = true then _ else _); refine iteF ?_)
  | ((with_reducible show ∃ a b xs ys, [V.ref _, V.ref _] = [V.ref a, V.ref b] ∧ SqL _ _ a xs ∧ SqL _ _ b ys ∧ _); refine ⟨_, _, _, _, rfl, by walk_at "sq", by walk_at "sq", ?_⟩)
  | ((with_reducible show ∃ a xs, [V.ref _] = [V.ref a] ∧ SqL _ _ a xs ∧ _); refine ⟨_, _, rfl, by walk_at "sq", ?_⟩)
  | ((with_reducible show ∃ a, V.ref _ = V.ref a ∧ (∃ xs, SqL _ _ a xs) ∧ _); refine ⟨_, rfl, ⟨_, by walk_at "sq"⟩, ?_⟩)
  | ((with_reducible show ∃ a, V.ref _ = V.ref a ∧ (∃ xs, SqT _ _ a xs) ∧ _); refine ⟨_, rfl, ⟨_, by walk_at "sq"⟩, ?_⟩)
  | ((with_reducible show ∃ j : Int, [V.int _] = [V.int j] ∧ _ ≤ j ∧ j < _ ∧ _); refine ⟨_, rfl, by omega, by omega, ?_⟩)
  | ((with_reducible show ∃ i j : Int, [V.int _, V.int _] = [V.int i, V.int j] ∧ (_ ≤ i ∧ i < _ ∧ _ ≤ j ∧ j < _) ∧ _); refine ⟨_, _, rfl, ⟨by omega, by omega, by omega, by omega⟩, ?_⟩)
  | ((with_reducible show ∃ i j : Int, [V.int _, V.int _] = [V.int i, V.int j] ∧ _); refine ⟨_, _, rfl, ?_⟩)
  | ((with_reducible show ∃ i : Int, [V.int _] = [V.int i] ∧ _); refine ⟨_, rfl, ?_⟩)
  | ((with_reducible show _ ≤ sizeLine ∧ _); refine ⟨by first | decide | (simp only [List.length_cons, List.length_nil]; decide), ?_⟩))
local macro_rules | `(tactic| walk_at "g1") => `(tactic| first | walk_at "g0" | with_reducible refine Go.g_sub ?_)
local macro_rules | `(tactic| walk_at "g") => `(tactic| repeat walk_at "g1")
local macro_rules | `(tactic| walk_at "v") => `(tactic| repeat walk_at "g0")
local macro_rules | `(tactic| walk_at "if") => `(tactic| first
  | with_reducible refine @Go.g_itd _ _ _ _ ?_ ?_
  | with_reducible refine @Go.g_itnd _ _ _ _ ?_ ?_
  | with_reducible refine Go.g_ite ?_ ?_)

section
variable {P : Program} {w : World} {K : PySem.W.Frag} {mg : Str → Option Value} {base : Heap}
theorem sz5 {n : Nat} (h : n ≤ 1000) : n < sizeLine := Nat.lt_of_le_of_lt h (by decide)
theorem sz6 {n : Nat} (h : n ≤ 1000) : n ≤ sizeLine := Nat.le_of_lt (sz5 h)
def sp__law_pick (K : PySem.W.Frag) : Sp := fun vs H Q _ => ∃ (st sc a : Addr) (xs : List V) (G : Hp), vs = [.ref st, .ref sc, .ref a] ∧ DkS st G H ∧ Scr K G sc ∧ SqL K G a xs ∧ 1 ≤ xs.length ∧ xs.length ≤ 1000 ∧
  ∀ H' (i : Nat) x, DkS st G H' → xs[i]? = some x → Q x H'
theorem ok__law_pick (T : Txt K mg) : FnOk P w K mg base CX0 2 T.a__law_pick T.fd__law_pick ["state", "script", "items"] (sp__law_pick K) := by
  refine T.F__law_pick.ok sc__law_pick (fun vs H Q E h => ?_) (fun cdv A outer s H vs Q E hr h => ?_)
  · obtain ⟨st, sc, a, xs, G, rfl, _⟩ := h; rfl
  · obtain ⟨st, sc, a, xs, G, rfl, S, hs, ha, l1, l2, q⟩ := h
    have S := S.ds
    refine ⟨_, pss_one (ps_ret (pe_ix ix_list (pv 2) (pe_call (Dt.frame_call (ok__law_draw T)) hr (by rfl) T.g__law_draw T.F__law_draw.kp T.b__law_draw .nil pass0 (pa_cons (pv 0) (pa_cons (pv 1) (pa_cons (pe_callB call_lenS (by rfl) T.n_len PySem.boot_len (pa_cons (pv 2) pa_nil)) pa_nil)))) (fun _ _ => rfl))), ?_⟩
    walk_at "g"
    refine rd_draw S hs plain0 (by omega) (by omega) fun H1 d S1 a1 b1 => ?_
    have hd : d.toNat < xs.length := by omega
    refine g_ixL (sqL_same S1.sub ha) (v := xs[d.toNat]) (atI_some a1 b1) ?_
    exact q H1 d.toNat _ S1 (List.getElem?_eq_getElem hd)
theorem rd_pick {K : PySem.W.Frag} {Q : VK} {E : XK} {st sc a : Addr} {xs : List V} {pre : List (Addr × HO)} {G H : Hp} (t : Ds pre st G H) (hs : Scr K G sc) (pl : ∀ c ∈ pre, Plain c.2) (ha : SqL K G a xs) (l1 : 1 ≤ xs.length) (l2 : xs.length ≤ 1000)
    (h : ∀ H' (i : Nat) x, Ds pre st G H' → xs[i]? = some x → Q x H') : spF (sp__law_pick K) [.ref st, .ref sc, .ref a] H Q E := by
  obtain ⟨G1, w, t1⟩ := t.split
  exact ⟨pre, G1, w, pl, st, sc, a, xs, G, rfl, t1, hs, ha, l1, l2, fun H' i x t' e H2 w2 => h H2 i x (Ds.join w2 t') e⟩
def sp__law_name (K : PySem.W.Frag) : Sp := fun vs H Q _ => ∃ (st sc : Addr) (k : Nat) (G : Hp), vs = [.ref st, .ref sc, .int (k : Int)] ∧ DkS st G H ∧ Scr K G sc ∧ k < 90 ∧
  ∀ G' H' w, DkS st G' H' → Same G G' → NmK k w → Q (.str (mkS w)) H'
theorem sign_at {d : Int} {n : Nat} (h0 : 0 ≤ d) (h1 : d < 36) : ∃ c, atI signsC d = some c ∧ c ∈ signsC := by
  have hd : d.toNat < signsC.length := by rw [signs_len]; omega
  exact ⟨signsC[d.toNat], atI_some h0 (by rw [signs_len]; omega), List.getElem_mem _⟩
theorem ok__law_name (T : Txt K mg) : FnOk P w K mg base CX0 2 T.a__law_name T.fd__law_name ["state", "script", "at"] (sp__law_name K) := by
  refine T.F__law_name.ok sc__law_name (fun vs H Q E h => ?_) (fun cdv A outer s H vs Q E hr h => ?_)
  · obtain ⟨st, sc, k, G, rfl, _⟩ := h; rfl
  · obtain ⟨st, sc, k, G, rfl, S, hs, hk, q⟩ := h
    have S := S.ds
    refine ⟨_, pss_cons (ps_set (i := 3) sc__law_name.nd rfl (.inl rfl) pe_str)
      (pss_cons (ps_set (i := 4) sc__law_name.nd rfl (.inl rfl) (pe_ix ix_str (pv 3) (pe_call (Dt.frame_call (ok__law_draw T)) hr (by rfl) T.g__law_draw T.F__law_draw.kp T.b__law_draw .nil pass0 (pa_cons (pv 0) (pa_cons (pv 1) (pa_cons pe_int pa_nil)))) (fun _ _ => rfl)))
      (pss_cons (ps_for PassesOwn.never rfl (pi_range1 (by rfl) T.n_range (pa_cons (pe_ix ix_list (pe_lst (pa_cons pe_int (pa_cons pe_int (pa_cons pe_int (pa_cons pe_int pa_nil))))) (pe_call (Dt.frame_call (ok__law_draw T)) hr (by rfl) T.g__law_draw T.F__law_draw.kp T.b__law_draw .nil pass0 (pa_cons (pv 0) (pa_cons (pv 1) (pa_cons pe_int pa_nil)))) (fun _ _ => rfl)) pa_nil)) (pg_name (i := 5) sc__law_name.nd rfl (.inl rfl))
        (pss_one (ps_set (i := 4) sc__law_name.nd rfl (.inl rfl) (pe_op op_add_str (pv 4) (pe_ix ix_str (pv 3) (pe_call (Dt.frame_call (ok__law_draw T)) hr (by rfl) T.g__law_draw T.F__law_draw.kp T.b__law_draw .nil pass0 (pa_cons (pv 0) (pa_cons (pv 1) (pa_cons pe_int pa_nil)))) (fun _ _ => rfl))))))
      (pss_one (ps_ret (pe_op op_add_str (pv 4) (pe_callTy call_str_int (by rfl) T.n_str (by decide +kernel) (pa_cons (pe_op op_add pe_int (pv 2)) pa_nil))))))), ?_⟩
    walk_at "g"
    refine rd_draw S hs plain0 (by decide) (by decide) fun H1 d1 S1 a1 b1 => ?_
    obtain ⟨c1, ec1, hc1⟩ := sign_at (n := 0) a1 (by omega)
    refine ⟨mkS signsC, _, _, by rw [signs_eq], rfl, by rw [mkS_len]; exact sz6 (by decide), by rw [mkS_list]; exact ec1, ?_⟩
    walk_at "g"
    refine Dt.NewAt.ds (by assumption) fun L G2 H2 S2 s2 atL nL => ?_
    walk_at "g"
    refine rd_draw S2 (Scr.same s2 hs) plain0 (by decide) (by decide) fun H3 d3 S3 a3 b3 => ?_
    have hv : ∃ v : Nat, atI [V.int 0, .int 1, .int 2, .int 9] d3 = some (.int (v : Int)) ∧ v ≤ 9 := by
      have : d3 = 0 ∨ d3 = 1 ∨ d3 = 2 ∨ d3 = 3 := by omega
      rcases this with rfl | rfl | rfl | rfl
      · exact ⟨0, rfl, by omega⟩
      · exact ⟨1, rfl, by omega⟩
      · exact ⟨2, rfl, by omega⟩
      · exact ⟨9, rfl, by omega⟩
    obtain ⟨v, ev, v9⟩ := hv
    refine g_ixL (SqL.of (S3.sub _ _ atL)) ev ?_
    walk_at "g"
    refine forD (src_range (K := K)) (fun i σ' pre G' => pre = [] ∧ Same G2 G' ∧ ∃ (p : List Nat) (y5 : Option V), σ' = [some (.ref st), some (.ref sc), some (.int (k : Int)), some (.str (mkS signsC)), some (.str (mkS p)), y5] ∧ p.length = 1 + i ∧ ∀ c ∈ p, c ∈ signsC) S3 trivial
      ⟨rfl, Same.refl _, [c1], _, by rw [signs_eq]; rfl, rfl, fun c hc => by rw [List.mem_singleton.mp hc]; exact hc1⟩ ?_ ?_
    · rintro i x σ' pre G' G4 H4 hi _ ⟨rfl, sg, p, y5, rfl, lp, hp⟩ s4 S4 ⟨hi', rfl⟩ N hN
      walk_at "g"
      refine rd_draw S4 (Scr.same (s2.trans (sg.trans s4)) hs) plain0 (by decide) (by decide) fun H5 d5 S5 a5 b5 => ?_
      obtain ⟨c5, ec5, hc5⟩ := sign_at (n := 0) a5 (by omega)
      refine ⟨mkS signsC, _, _, rfl, rfl, by rw [mkS_len]; exact sz6 (by decide), by rw [mkS_list]; exact ec5, ?_⟩
      walk_at "g"
      refine ⟨_, _, rfl, rfl, by rw [mkS_len, show (⟨#[c5]⟩ : Str) = mkS [c5] from rfl, mkS_len]; exact sz6 (by simp; omega), ?_⟩
      rw [show (⟨#[c5]⟩ : Str) = mkS [c5] from rfl, mkS_app]
      walk_at "g"
      refine hN _ _ _ _ S5 s4 ⟨rfl, sg.trans s4, p ++ [c5], _, rfl, by simp; omega, fun c hc => ?_⟩
      rcases List.mem_append.mp hc with z | z
      · exact hp c z
      · rw [List.mem_singleton.mp z]; exact hc5
    · rintro σ' H4 pre G4 S4 _ ⟨rfl, sg, p, y5, rfl, lp, hp⟩
      walk_at "g"
      have hl : ((10 : Int) + (k : Int)).natAbs.log2 < 1920 := by
        have : ((10 : Int) + (k : Int)).natAbs.log2 ≤ ((10 : Int) + (k : Int)).natAbs := Nat.log2_le_self _
        omega
      refine ⟨hl, _, _, rfl, rfl, ?_, ?_⟩
      · rw [sfx_of, mkS_len, mkS_len, show (sfx k).length = 2 from (sfx_all ⟨k, hk⟩).1]; exact sz6 (by omega)
      · rw [sfx_of, mkS_app]
        exact q G4 H4 _ S4.dk (s2.trans sg) ⟨p, rfl, by omega, by omega, hp⟩
theorem rd_name {K : PySem.W.Frag} {Q : VK} {E : XK} {st sc : Addr} {k : Nat} {pre : List (Addr × HO)} {G H : Hp} (t : Ds pre st G H) (hs : Scr K G sc) (pl : ∀ c ∈ pre, Plain c.2) (hk : k < 90)
    (h : ∀ G' H' w, Ds pre st G' H' → Same G G' → NmK k w → Q (.str (mkS w)) H') : spF (sp__law_name K) [.ref st, .ref sc, .int (k : Int)] H Q E := by
  obtain ⟨G1, w, t1⟩ := t.split
  obtain ⟨cs, w0, pc, back⟩ := t.hide pl
  exact ⟨pre, G1, w, pl, st, sc, k, G, rfl, t1, hs, hk, fun G' H' nm t' s' hn H2 w2 => h G' H2 nm (Ds.join w2 t') s' hn⟩
def sp__law_names (K : PySem.W.Frag) : Sp := fun vs H Q _ => ∃ (st sc : Addr) (n : Nat) (G : Hp), vs = [.ref st, .ref sc, .int (n : Int)] ∧ DkS st G H ∧ Scr K G sc ∧ n ≤ 90 ∧
  ∀ G' H' p ws, DkS st G' H' → Same G G' → G' p = some (.lst (wsV ws)) → Nms ws → ws.length = n → Q (.ref p) H'
theorem wsV_len (ws : List (List Nat)) : (wsV ws).length = ws.length := List.length_map ..
theorem wsV_app (ws : List (List Nat)) (a : List Nat) : wsV ws ++ [V.str (mkS a)] = wsV (ws ++ [a]) := by unfold wsV; rw [List.map_append]; rfl
theorem ok__law_names (T : Txt K mg) : FnOk P w K mg base CX0 3 T.a__law_names T.fd__law_names ["state", "script", "many"] (sp__law_names K) := by
  refine T.F__law_names.ok sc__law_names (fun vs H Q E h => ?_) (fun cdv A outer s H vs Q E hr h => ?_)
  · obtain ⟨st, sc, n, G, rfl, _⟩ := h; rfl
  · obtain ⟨st, sc, n, G, rfl, S, hs, hn, q⟩ := h
    have S := S.ds
    refine ⟨_, pss_cons (ps_set (i := 3) sc__law_names.nd rfl (.inl rfl) (pe_lst pa_nil))
      (pss_cons (ps_for PassesOwn.never rfl (pi_range1 (by rfl) T.n_range (pa_cons (pv 2) pa_nil)) (pg_name (i := 4) sc__law_names.nd rfl (.inl rfl))
        (pss_one (ps_expr (pe_bm PySem.F.plainAttrs_list PySem.F.slot_list_append PySem.F.type_list_append mt_append (pv 3) (pa_cons (pe_call (Dt.frame_call (ok__law_name T)) hr (by rfl) T.g__law_name T.F__law_name.kp T.b__law_name .nil pass0 (pa_cons (pv 0) (pa_cons (pv 1) (pa_cons (pv 4) pa_nil)))) pa_nil)))))
      (pss_one (ps_ret (pv 3)))), ?_⟩
    walk_at "g"
    refine Dt.NewAt.dsc (by assumption) fun p H1 S1 np => ?_
    walk_at "g"
    refine forD (src_range (K := K)) (fun i σ' pre G' => ∃ (ws : List (List Nat)) (y4 : Option V), pre = [(p, .lst (wsV ws))] ∧ Same G G' ∧ σ' = [some (.ref st), some (.ref sc), some (.int (n : Int)), some (.ref p), y4] ∧ ws.length = i ∧ Nms ws) S1 trivial
      ⟨[], _, rfl, Same.refl _, rfl, rfl, fun i h => nomatch h⟩ ?_ ?_
    · rintro i x σ' pre G' G4 H4 hi _ ⟨ws, y4, rfl, sg, rfl, lw, hw⟩ s4 S4 ⟨hi', rfl⟩ N hN
      walk_at "g"
      refine ⟨.inl ⟨rfl, _, SqL.of (S4.at (List.mem_cons_self ..))⟩, ?_⟩
      walk_at "g"
      rw [Int.zero_add]
      refine rd_name S4 (Scr.same (sg.trans s4) hs) plain1 (by omega) fun G5 H5 w S5 s5 hn5 => ?_
      have e5 := S5.at (List.mem_cons_self ..)
      walk_at "g"
      refine ⟨_, _, _, rfl, rfl, e5, by rw [wsV_len]; exact sz5 (by omega), ?_⟩
      have S6 := S5.set (o' := .lst (wsV ws ++ [.str (mkS w)]))
      refine hN _ _ _ _ S6 (s4.trans s5) ⟨ws ++ [w], _, by rw [wsV_app], sg.trans (s4.trans s5), rfl, by simp [lw], fun j hj => ?_⟩
      by_cases h : j < ws.length
      · rw [List.getElem_append_left h]; exact hw j h
      · have ej : j = ws.length := by rw [List.length_append, List.length_singleton] at hj; omega
        subst ej
        rw [List.getElem_append_right (Nat.le_refl _)]
        simp only [Nat.sub_self, List.getElem_cons_zero]
        rw [lw]; exact hn5
    · rintro σ' H4 pre G4 S4 _ ⟨ws, y4, rfl, sg, rfl, lw, hw⟩
      walk_at "g"
      obtain ⟨S5, s5⟩ := S4.drop
      exact q _ H4 p ws S5.dk (sg.trans s5) upd_same hw (by omega)
theorem rd_names {K : PySem.W.Frag} {Q : VK} {E : XK} {st sc : Addr} {n : Nat} {pre : List (Addr × HO)} {G H : Hp} (t : Ds pre st G H) (hs : Scr K G sc) (pl : ∀ c ∈ pre, Plain c.2) (hn : n ≤ 90)
    (h : ∀ G' H' p ws, Ds pre st G' H' → Same G G' → G' p = some (.lst (wsV ws)) → Nms ws → ws.length = n → Q (.ref p) H') : spF (sp__law_names K) [.ref st, .ref sc, .int (n : Int)] H Q E := by
  obtain ⟨G1, w, t1⟩ := t.split
  exact ⟨pre, G1, w, pl, st, sc, n, G, rfl, t1, hs, hn, fun G' H' p ws t' s' e hw l H2 w2 => h G' H2 p ws (Ds.join w2 t') s' e hw l⟩
/-- some of the items, in a drawn order -/
def sp__law_some (K : PySem.W.Frag) : Sp := fun vs H Q _ => ∃ (st sc a : Addr) (xs : List V) (most : Int) (G : Hp), vs = [.ref st, .ref sc, .ref a, .int most] ∧ DkS st G H ∧ Scr K G sc ∧ SqL K G a xs ∧ 1 ≤ xs.length ∧ xs.length ≤ 1000 ∧ 1 ≤ most ∧
  ∀ G' H' p ys, DkS st G' H' → Same G G' → G' p = some (.lst ys) → (∃ r, (ys ++ r).Perm xs) → 1 ≤ ys.length → (ys.length : Int) ≤ most → Q (.ref p) H'
theorem erase_perm {α : Type} {l : List α} {k : Nat} (h : k < l.length) : (l[k] :: l.eraseIdx k).Perm l := by
  induction l generalizing k with
  | nil => simp at h
  | cons a r ih =>
    cases k with
    | zero => exact List.Perm.refl _
    | succ k =>
      have hk : k < r.length := by simpa using h
      simp only [List.getElem_cons_succ, List.eraseIdx_cons_succ]
      exact (List.Perm.swap ..).trans (List.Perm.cons a (ih hk))
theorem ok__law_some (T : Txt K mg) : FnOk P w K mg base CX0 2 T.a__law_some T.fd__law_some ["state", "script", "items", "most"] (sp__law_some K) := by
  refine T.F__law_some.ok sc__law_some (fun vs H Q E h => ?_) (fun cdv A outer s H vs Q E hr h => ?_)
  · obtain ⟨st, sc, a, xs, most, G, rfl, _⟩ := h; rfl
  · obtain ⟨st, sc, a, xs, most, G, rfl, S, hs, ha, l1, l2, m1, q⟩ := h
    have S := S.ds
    have haH := sqL_same S.sub ha
    refine ⟨_, pss_cons (ps_set (i := 4) sc__law_some.nd rfl (.inl rfl) (pe_callTy call_list2 (by rfl) T.n_list (by decide +kernel) (pa_cons (pv 2) pa_nil)))
      (pss_cons (ps_set (i := 5) sc__law_some.nd rfl (.inl rfl) (pe_lst pa_nil))
      (pss_cons (ps_for PassesOwn.never rfl (pi_range1 (by rfl) T.n_range (pa_cons (pe_op op_add pe_int (pe_call (Dt.frame_call (ok__law_draw T)) hr (by rfl) T.g__law_draw T.F__law_draw.kp T.b__law_draw .nil pass0 (pa_cons (pv 0) (pa_cons (pv 1) (pa_cons (pe_callB (call_min2 rfl) (by rfl) T.n_min (by decide +kernel) (pa_cons (pv 3) (pa_cons (pe_callB call_lenS (by rfl) T.n_len PySem.boot_len (pa_cons (pv 2) pa_nil)) pa_nil))) pa_nil))))) pa_nil)) (pg_name (i := 6) sc__law_some.nd rfl (.inl rfl))
        (pss_one (ps_expr (pe_bm PySem.F.plainAttrs_list PySem.F.slot_list_append PySem.F.type_list_append mt_append (pv 5) (pa_cons (pe_bm PySem.F.plainAttrs_list PySem.F.slot_list_pop PySem.F.type_list_pop mt_popAt (pv 4) (pa_cons (pe_call (Dt.frame_call (ok__law_draw T)) hr (by rfl) T.g__law_draw T.F__law_draw.kp T.b__law_draw .nil pass0 (pa_cons (pv 0) (pa_cons (pv 1) (pa_cons (pe_callB call_lenS (by rfl) T.n_len PySem.boot_len (pa_cons (pv 4) pa_nil)) pa_nil)))) pa_nil)) pa_nil)))))
      (pss_one (ps_ret (pv 5))))), ?_⟩
    walk_at "g"
    refine Dt.NewAt.dsc (by assumption) fun L H1 S1 nL => ?_
    walk_at "g"
    refine Dt.NewAt.dsc (by assumption) fun F H2 S2 nF => ?_
    walk_at "g"
    refine rd_draw S2 hs plain2 (by split <;> omega) (by split <;> omega) fun H3 d3 S3 a3 b3 => ?_
    walk_at "g"
    refine forD (src_range (K := K)) (fun i σ' pre G' => ∃ (ys left : List V) (y6 : Option V), pre = [(F, .lst ys), (L, .lst left)] ∧ Same G G' ∧ σ' = [some (.ref st), some (.ref sc), some (.ref a), some (.int most), some (.ref L), some (.ref F), y6] ∧ ys.length = i ∧ (ys ++ left).Perm xs) S3 trivial
      ⟨[], xs, _, rfl, Same.refl _, rfl, rfl, List.Perm.refl _⟩ ?_ ?_
    · rintro i x σ' pre G' G4 H4 hi _ ⟨ys, left, y6, rfl, sg, rfl, lw, hw⟩ s4 S4 ⟨hi', rfl⟩ N hN
      have eF := S4.at (List.mem_cons_self ..)
      have eL := S4.at (List.mem_cons_of_mem _ (List.mem_cons_self ..))
      have ll := hw.length_eq
      rw [List.length_append] at ll
      have hlt : i < xs.length := by
        have : ((1 + d3).toNat : Int) ≤ xs.length := by
          have : (if (most : Int) < (xs.length : Int) then most else (xs.length : Int)) ≤ xs.length := by split <;> omega
          split at b3 <;> omega
        omega
      walk_at "g"
      refine ⟨.inl ⟨rfl, _, SqL.of eF⟩, ?_⟩
      walk_at "g"
      refine ⟨.inl ⟨rfl, _, SqL.of eL⟩, ?_⟩
      walk_at "g"
      refine rd_draw S4 (Scr.same (sg.trans s4) hs) plain2 (by omega) (by omega) fun H5 d5 S5 a5 b5 => ?_
      have eF := S5.at (List.mem_cons_self ..)
      have eL := S5.at (List.mem_cons_of_mem _ (List.mem_cons_self ..))
      have hd : d5.toNat < left.length := by omega
      walk_at "g"
      refine ⟨L, _, d5, d5.toNat, left[d5.toNat], rfl, rfl, eL, by omega, by omega, seqIndex_of a5 (by omega), List.getElem?_eq_getElem hd, ?_⟩
      have S6 := S5.set2 (o' := .lst (left.eraseIdx d5.toNat))
      generalize upd H5 L (.lst (left.eraseIdx d5.toNat)) = H6 at S6 ⊢
      have eF := S6.at (List.mem_cons_self ..)
      walk_at "g"
      refine ⟨_, _, _, rfl, rfl, eF, sz5 (by omega), ?_⟩
      have S7 := S6.set (o' := .lst (ys ++ [left[d5.toNat]]))
      refine hN _ _ _ _ S7 s4 ⟨ys ++ [left[d5.toNat]], left.eraseIdx d5.toNat, _, rfl, sg.trans s4, rfl, by simp [lw], ?_⟩
      rw [List.append_assoc]
      exact (List.Perm.append_left ys (erase_perm hd)).trans hw
    · rintro σ' H4 pre G4 S4 _ ⟨ys, left, y6, rfl, sg, rfl, lw, hw⟩
      walk_at "g"
      obtain ⟨S5, s5⟩ := S4.drop
      obtain ⟨S6, s6⟩ := S5.drop
      refine q _ H4 F ys S6.dk (sg.trans (s5.trans s6)) (s6 _ _ upd_same) ⟨left, hw⟩ (by omega) ?_
      split at b3 <;> omega
theorem rd_some {K : PySem.W.Frag} {Q : VK} {E : XK} {st sc a : Addr} {xs : List V} {most : Int} {pre : List (Addr × HO)} {G H : Hp} (t : Ds pre st G H) (hs : Scr K G sc) (pl : ∀ c ∈ pre, Plain c.2) (ha : SqL K G a xs) (l1 : 1 ≤ xs.length) (l2 : xs.length ≤ 1000) (m1 : 1 ≤ most)
    (h : ∀ G' H' p ys, Ds pre st G' H' → Same G G' → G' p = some (.lst ys) → (∃ r, (ys ++ r).Perm xs) → 1 ≤ ys.length → (ys.length : Int) ≤ most → Q (.ref p) H') : spF (sp__law_some K) [.ref st, .ref sc, .ref a, .int most] H Q E := by
  obtain ⟨G1, w, t1⟩ := t.split
  exact ⟨pre, G1, w, pl, st, sc, a, xs, most, G, rfl, t1, hs, ha, l1, l2, m1, fun G' H' p ys t' s' e hw b1 b2 H2 w2 => h G' H2 p ys (Ds.join w2 t') s' e hw b1 b2⟩

end
end K55

namespace K55
open PySem PySem.Spec PyProof.Rows L2 Go Dt
set_option maxHeartbeats 8000000
local macro_rules | `(tactic| walk_at "ne") => `(tactic| first
  | assumption
  | (refine Ne.symm ?_; assumption)
  | exact (Go.free_upd (by assumption)).2
  | exact (Go.free_upd (by assumption)).2.symm
  | exact Go.ne_fr (by assumption) (by walk_at "hp")
  | exact (Go.ne_fr (by assumption) (by walk_at "hp")).symm)
local macro_rules | `(tactic| walk_at "fr") => `(tactic| first
  | assumption
  | exact (Go.free_upd (by assumption)).1
  | exact (Go.free_upd (Go.free_upd (by assumption)).1).1
  | exact Same.free (by assumption) (by walk_at "fr"))
local macro_rules | `(tactic| walk_at "hp") => `(tactic| first
  | assumption
  | with_reducible exact upd_same
  | ((with_reducible show upd _ _ _ _ = _); exact Go.at_upd (by walk_at "ne") (by walk_at "hp"))
  | exact (by assumption : Same _ _) _ _ (by walk_at "hp")
  | exact Dt.Own.at (by assumption) (List.mem_cons_self ..)
  | exact Dt.Own.at (by assumption) (List.mem_cons_of_mem _ (List.mem_cons_self ..))
  | exact Dt.Own.at (by assumption) (List.mem_cons_of_mem _ (List.mem_cons_of_mem _ (List.mem_cons_self ..)))
  | exact Dt.Ts.at (by assumption) (List.mem_cons_self ..)
  | exact Dt.Ts.at (by assumption) (List.mem_cons_of_mem _ (List.mem_cons_self ..))
  | exact Dt.Ds.at (by assumption) (List.mem_cons_self ..)
  | exact Dt.Ds.at (by assumption) (List.mem_cons_of_mem _ (List.mem_cons_self ..))
  | exact (Dt.Own.sub (by assumption)) _ _ (by walk_at "hp")
  | exact (Dt.TkS.sub (by assumption)) _ _ (by walk_at "hp")
  | exact (Dt.Ts.sub (by assumption)) _ _ (by walk_at "hp")
  | exact (Dt.DkS.sub (by assumption)) _ _ (by walk_at "hp")
  | exact (Dt.Ds.sub (by assumption)) _ _ (by walk_at "hp")
  | exact (by assumption : Go.Kp _ _ _) _ _ (by walk_at "ne") (by walk_at "hp")
  | exact (by assumption : Go.Kp2 _ _ _ _) _ _ (by walk_at "ne") (by walk_at "ne") (by walk_at "hp"))
local macro_rules | `(tactic| walk_at "sq") => `(tactic| first
  | assumption
  | ((with_reducible show SqL _ (upd _ _ _) _ _); exact (by assumption : ∀ o, SqL _ (upd _ _ o) _ _) _)
  | ((with_reducible show SqL _ _ _ _); exact SqL.of (by walk_at "hp"))
  | ((with_reducible show SqT _ _ _ _); exact SqT.of (by walk_at "hp"))
  | ((with_reducible show SqL _ (upd _ _ _) _ _); exact Go.sqL_new (by walk_at "fr") (by walk_at "sq"))
  | ((with_reducible show SqT _ (upd _ _ _) _ _); exact Go.sqT_new (by walk_at "fr") (by walk_at "sq"))
  | ((with_reducible show SqL _ (upd _ _ _) _ _); exact Go.sqL_ne (by walk_at "ne") (by walk_at "sq"))
  | ((with_reducible show SqL _ _ _ _); exact Go.sqL_same (by assumption) (by walk_at "sq"))
  | ((with_reducible show SqT _ _ _ _); exact Go.sqT_same (by assumption) (by walk_at "sq"))
  | ((with_reducible show SqL _ _ _ _); exact Go.sqL_same (Dt.Own.sub (by assumption)) (by walk_at "sq"))
  | ((with_reducible show SqT _ _ _ _); exact Go.sqT_same (Dt.Own.sub (by assumption)) (by walk_at "sq"))
  | ((with_reducible show SqL _ _ _ _); exact Go.sqL_same (Dt.TkS.sub (by assumption)) (by walk_at "sq"))
  | ((with_reducible show SqL _ _ _ _); exact Go.sqL_same (Dt.Ts.sub (by assumption)) (by walk_at "sq"))
  | ((with_reducible show SqT _ _ _ _); exact Go.sqT_same (Dt.TkS.sub (by assumption)) (by walk_at "sq"))
  | ((with_reducible show SqT _ _ _ _); exact Go.sqT_same (Dt.Ts.sub (by assumption)) (by walk_at "sq"))
  | ((with_reducible show SqL _ _ _ _); exact Go.sqL_same (Dt.DkS.sub (by assumption)) (by walk_at "sq"))
  | ((with_reducible show SqL _ _ _ _); exact Go.sqL_same (Dt.Ds.sub (by assumption)) (by walk_at "sq"))
  | ((with_reducible show SqT _ _ _ _); exact Go.sqT_same (Dt.DkS.sub (by assumption)) (by walk_at "sq"))
  | ((with_reducible show SqT _ _ _ _); exact Go.sqT_same (Dt.Ds.sub (by assumption)) (by walk_at "sq"))
  | ((with_reducible show SqL _ _ _ _); exact Go.sqL_kp (by assumption) (by walk_at "ne") (by walk_at "sq"))
  | ((with_reducible show SqT _ _ _ _); exact Go.sqT_kp (by assumption) (by walk_at "ne") (by walk_at "sq")))
local macro_rules | `(tactic| walk_at "dp") => `(tactic| first
  | assumption
  | with_reducible exact L2.Dp.int _
  | with_reducible exact L2.Dp.str _
  | with_reducible exact L2.Dp.non
  | with_reducible exact L2.Dp.bl _
  | with_reducible exact L2.DpAll.nil
  | ((with_reducible show L2.Dp _ _ _ _); exact Dt.Dp.same (by assumption) (by walk_at "dp"))
  | ((with_reducible show L2.DpAll _ _ _ _); exact Dt.DpAll.same (by assumption) (by walk_at "dp"))
  | ((with_reducible show L2.Dp _ _ _ _); exact Dt.Dp.same (Dt.Own.sub (by assumption)) (by walk_at "dp"))
  | ((with_reducible show L2.DpAll _ _ _ _); exact Dt.DpAll.same (Dt.Own.sub (by assumption)) (by walk_at "dp"))
  | ((with_reducible show L2.Dp _ _ _ _); exact Dt.Dp.same (Dt.TkS.sub (by assumption)) (by walk_at "dp"))
  | ((with_reducible show L2.Dp _ _ _ _); exact Dt.Dp.same (Dt.Ts.sub (by assumption)) (by walk_at "dp"))
  | ((with_reducible show L2.DpAll _ _ _ _); exact Dt.DpAll.same (Dt.TkS.sub (by assumption)) (by walk_at "dp"))
  | ((with_reducible show L2.DpAll _ _ _ _); exact Dt.DpAll.same (Dt.Ts.sub (by assumption)) (by walk_at "dp"))
  | ((with_reducible show L2.Dp _ _ _ _); exact Dt.Dp.same (Dt.DkS.sub (by assumption)) (by walk_at "dp"))
  | ((with_reducible show L2.Dp _ _ _ _); exact Dt.Dp.same (Dt.Ds.sub (by assumption)) (by walk_at "dp"))
  | ((with_reducible show L2.DpAll _ _ _ _); exact Dt.DpAll.same (Dt.DkS.sub (by assumption)) (by walk_at "dp"))
  | ((with_reducible show L2.DpAll _ _ _ _); exact Dt.DpAll.same (Dt.Ds.sub (by assumption)) (by walk_at "dp"))
  | ((with_reducible show L2.Dp _ _ _ _); exact L2.Dp.tup (by walk_at "sq") (by walk_at "dp"))
  | ((with_reducible show L2.Dp _ _ _ _); exact L2.Dp.lst (by walk_at "sq") (by walk_at "dp"))
  | with_reducible exact L2.DpAll.cons (by walk_at "dp") (by walk_at "dp")
  | ((with_reducible show Dt.Scr _ _ _); exact Dt.Scr.same (by assumption) (by walk_at "dp"))
  | exact Dt.dpAll_ints.mpr rfl
  | exact Dt.dpAll_strs.mpr rfl
  | exact Dt.dpAll_bools.mpr rfl)
local macro_rules | `(tactic| walk_at "ci") => `(tactic| first
  | exact .inr ⟨by decide, by decide⟩
  | exact .inl ⟨by decide, by decide⟩
  | exact ⟨by decide, by decide, by decide⟩
  | decide
  | omega
  | exact ⟨by omega, by omega⟩
  | exact .inl ⟨by omega, by omega⟩
  | exact .inr ⟨by omega, by omega⟩)
local macro_rules | `(tactic| walk_at "g0") => `(tactic| first
  | with_reducible refine Go.g_seq ?_
  | ((with_reducible show tVar _ _ _ _); refine ⟨_, rfl, ?_⟩)
  | with_reducible refine Go.g_c ?_
  | with_reducible refine Go.g_op ?_
  | with_reducible refine Go.g_asg ?_
  | with_reducible refine Go.g_name ?_
  | with_reducible refine Go.g_cons ?_
  | with_reducible refine Dt.g_orV ?_
  | with_reducible refine Dt.g_andV ?_
  | with_reducible refine Dt.g_notV ?_
  | with_reducible refine Dt.g_lst2 ?_
  | with_reducible refine Dt.g_tup2 ?_
  | with_reducible refine Go.g_for ?_
  | with_reducible refine Go.g_rng1 ?_
  | with_reducible refine Go.g_rng2 ?_
  | with_reducible refine Go.g_rng3 ?_
  | with_reducible refine Go.g_list ?_
  | with_reducible refine Go.g_itup ?_
  | with_reducible refine Go.g_enum ?_
  | ((with_reducible show tPar _ _ _ _ _ _); unfold tPar)
  | ((with_reducible show ∃ v w, [_, _] = [v, w] ∧ _); refine ⟨_, _, rfl, ?_⟩)
  | with_reducible refine Go.g_zip ?_
  | with_reducible refine Go.g_augS ?_
  | with_reducible refine Go.g_lc ?_
  | with_reducible refine Go.g_nil ?_
  | with_reducible refine Go.g_cb ?_
  | with_reducible refine Go.g_call ?_
  | with_reducible refine Go.g_ret ?_
  | with_reducible refine Go.g_next ?_
  | with_reducible refine Go.g_drop ?_
  | with_reducible refine Go.g_un ?_
  | with_reducible refine Go.g_test ?_
  | with_reducible refine Go.g_tB ?_
  | with_reducible refine Go.g_ifs ?_
  | with_reducible refine Go.g_if ?_
  | with_reducible refine Go.g_and ?_
  | with_reducible refine Go.g_or ?_
  | with_reducible refine Go.g_not ?_
  | with_reducible refine Go.g_sl ?_
  | with_reducible refine Go.g_nopart ?_
  | with_reducible refine Go.g_part ?_
  | ((with_reducible show ∃ k, V.bl _ = V.bl k ∧ _); refine ⟨_, rfl, ?_⟩)
  | ((with_reducible show ∃ k, V.int _ = V.int k ∧ _); refine ⟨_, rfl, ?_⟩)
  | with_reducible refine Go.g_bm ?_
  | with_reducible refine Go.g_yes ?_
  | ((with_reducible show rI0 _ _ _ _ _); refine ⟨_, _, rfl, rfl, ?_⟩)
  | ((with_reducible show rI _ _ _ _ _ _); refine ⟨_, _, rfl, rfl, ?_, ?_⟩; (focus walk_at "ci"))
  | ((with_reducible show rU _ _ _ _); refine ⟨_, rfl, ?_⟩)
  | ((with_reducible show V.non = V.non ∧ _); refine ⟨rfl, ?_⟩)
  | ((with_reducible show rIsB _ _ _ _); refine ⟨_, _, rfl, rfl, ?_⟩)
  | ((with_reducible show rNotB _ _ _ _); refine ⟨_, _, rfl, rfl, ?_⟩)
  | ((with_reducible show rEq _ _ _ _); refine ⟨rfl, ?_⟩)
  | ((with_reducible show rNe _ _ _ _); refine ⟨rfl, ?_⟩)
  | ((with_reducible show rIxL _ _ _ _ _); refine Go.g_ixL (by walk_at "sq") (by rfl) ?_)
  | ((with_reducible show rIxT _ _ _ _ _); refine Go.g_ixT (by walk_at "sq") (by rfl) ?_)
  | ((with_reducible show rSetL _ _ _ _ _); refine Go.g_setL (by walk_at "hp") (by rfl) ?_)
  | ((with_reducible show ∃ p ys, [V.ref _] = [V.ref p] ∧ (SqL _ _ _ _ ∨ SqT _ _ _ _) ∧ _); refine ⟨_, _, rfl, .inl (by walk_at "sq"), ?_⟩)
  | ((with_reducible show (∃ i, [V.int _] = [V.int i] ∧ _) ∨ _); refine .inl ⟨_, rfl, ?_⟩)
  | ((with_reducible show ∃ (c : Nat) (z : Str), V.str _ = V.str ⟨#[c]⟩ ∧ V.str _ = V.str z ∧ _); refine ⟨_, _, rfl, rfl, ?_⟩)
  | ((with_reducible show ∃ x : Str, [V.str _] = [V.str x] ∧ Str.length x = 1 ∧ _); refine ⟨_, rfl, rfl, ?_⟩)
  | ((with_reducible show ∃ z : Str, [V.str _] = [V.str z] ∧ Str.length z ≤ sizeLine ∧ _); refine ⟨_, rfl, by assumption, ?_⟩)
  | ((with_reducible show rSlS _ _ _ _ _); refine ⟨_, rfl, by assumption, ?_⟩)
  | ((with_reducible show gTup _ _ _ _ _ _ _); refine Go.g_gtup (by walk_at "sq") (by rfl) ?_)
  | ((with_reducible show gCons _ _ _ _ _ _); refine ⟨_, _, rfl, ?_⟩)
  | ((with_reducible show gNil _ _ _ _); refine ⟨rfl, ?_⟩)
  | ((with_reducible show rLenS _ _ _ _); refine Go.g_lenL (by walk_at "sq") ?_)
  | ((with_reducible show rListOf _ _ _ _); refine Go.g_listL (by walk_at "sq") ?_)
  | ((with_reducible show Dt.rList2 _ _ _ _); refine ⟨_, _, rfl, .inl (by walk_at "sq"), ?_⟩)
  | ((with_reducible show Dt.rTuple2 _ _ _ _); refine ⟨_, _, rfl, by walk_at "sq", ?_⟩)
  | ((with_reducible show Dt.rSlL2 _ _ _ _ _ _); refine ⟨_, _, rfl, by walk_at "sq", ?_⟩)
  | ((with_reducible show wipe _ _ = wipe _ _ ∧ _); refine ⟨rfl, ?_⟩)
  | ((with_reducible show if true = true then _ else _); refine iteT ?_)
  | ((with_reducible show if false = true then _ else _); refine iteF ?_)
  | ((with_reducible show ∃ a b xs ys, [V.ref _, V.ref _] = [V.ref a, V.ref b] ∧ SqL _ _ a xs ∧ SqL _ _ b ys ∧ _); refine ⟨_, _, _, _, rfl, by walk_at "sq", by walk_at "sq", ?_⟩)
  | ((with_reducible show ∃ a xs, [V.ref _] = [V.ref a] ∧ SqL _ _ a xs ∧ _); refine ⟨_, _, rfl, by walk_at "sq", ?_⟩)
  | ((with_reducible show ∃ a, V.ref _ = V.ref a ∧ (∃ xs, SqL _ _ a xs) ∧ _); refine ⟨_, rfl, ⟨_, by walk_at "sq"⟩, ?_⟩)
  | ((with_reducible show ∃ a, V.ref _ = V.ref a ∧ (∃ xs, SqT _ _ a xs) ∧ _); refine ⟨_, rfl, ⟨_, by walk_at "sq"⟩, ?_⟩)
  | ((with_reducible show ∃ j : Int, [V.int _] = [V.int j] ∧ _ ≤ j ∧ j < _ ∧ _); refine ⟨_, rfl, by omega, by omega, ?_⟩)
  | ((with_reducible show ∃ i j : Int, [V.int _, V.int _] = [V.int i, V.int j] ∧ (_ ≤ i ∧ i < _ ∧ _ ≤ j ∧ j < _) ∧ _); refine ⟨_, _, rfl, ⟨by omega, by omega, by omega, by omega⟩, ?_⟩)
  | ((with_reducible show ∃ i j : Int, [V.int _, V.int _] = [V.int i, V.int j] ∧ _); refine ⟨_, _, rfl, ?_⟩)
  | ((with_reducible show ∃ i : Int, [V.int _] = [V.int i] ∧ _); refine ⟨_, rfl, ?_⟩)
  | ((with_reducible show _ ≤ sizeLine ∧ _); refine ⟨by first | decide | (simp only [List.length_cons, List.length_nil]; decide), ?_⟩))
local macro_rules | `(tactic| walk_at "g1") => `(tactic| first | walk_at "g0" | with_reducible refine Go.g_sub ?_)
local macro_rules | `(tactic| walk_at "g") => `(tactic| repeat walk_at "g1")
local macro_rules | `(tactic| walk_at "v") => `(tactic| repeat walk_at "g0")
local macro_rules | `(tactic| walk_at "if") => `(tactic| first
  | with_reducible refine @Go.g_itd _ _ _ _ ?_ ?_
  | with_reducible refine @Go.g_itnd _ _ _ _ ?_ ?_
  | with_reducible refine Go.g_ite ?_ ?_)

section
variable {P : Program} {w : World} {K : PySem.W.Frag} {mg : Str → Option Value} {base : Heap}
structure WOk (A : Int) (w : List Int) : Prop where
  l1 : 1 ≤ w.length
  l2 : w.length ≤ 40
  lo : ∀ k, k < w.length → 1 ≤ at0 w k
  hi : ∀ k, k < w.length → at0 w k ≤ 1000000
  a0 : 0 ≤ A
  a1 : A ≤ 10000000000000000
theorem sum_bounds : ∀ {w : List Int}, (∀ k, k < w.length → 1 ≤ at0 w k) → (∀ k, k < w.length → at0 w k ≤ 1000000) → (w.length : Int) ≤ w.sum ∧ w.sum ≤ 1000000 * (w.length : Int)
  | [], _, _ => by simp
  | x :: w, h1, h2 => by
    obtain ⟨a, b⟩ := sum_bounds (w := w) (fun k hk => h1 (k + 1) (by simpa using hk)) (fun k hk => h2 (k + 1) (by simpa using hk))
    have c := h1 0 (by simp)
    have d := h2 0 (by simp)
    have c : 1 ≤ x := c
    have d : x ≤ 1000000 := d
    rw [List.sum_cons, List.length_cons]
    omega
theorem WOk.sum {A : Int} {w : List Int} (W : WOk A w) : 0 < w.sum ∧ w.sum ≤ 40000000 := by
  have := sum_bounds W.lo W.hi
  have := W.l1
  have := W.l2
  omega
theorem mem_at0 {w : List Int} {x : Int} (h : x ∈ w) : ∃ k, k < w.length ∧ at0 w k = x := by
  obtain ⟨k, hk, e⟩ := List.getElem_of_mem h
  exact ⟨k, hk, by rw [at0_get hk]; exact e⟩
theorem at0_at {l : List Int} {i : Int} {k : Nat} (e : i = (k : Int)) (h : k < l.length) : atI (l.map V.int) i = some (.int (at0 l k)) := by
  subst e
  refine atI_nat ?_
  rw [List.getElem?_map, List.getElem?_eq_getElem h, at0_get h]; rfl
theorem at0_map? {l : List Int} {i : Nat} {x : V} (h : (l.map V.int)[i]? = some x) : i < l.length ∧ x = .int (at0 l i) := by
  rw [List.getElem?_map] at h
  obtain ⟨k, hk, rfl⟩ := Option.map_eq_some_iff.mp h
  obtain ⟨hi, e⟩ := List.getElem?_eq_some_iff.mp hk
  exact ⟨hi, by rw [at0_get hi, e]⟩
theorem range_at0 (l : List Int) (f : Int → Int) : ((List.range l.length).map fun j => f (at0 l j)) = l.map f := by
  refine List.ext_getElem? fun i => ?_
  rw [List.getElem?_map, List.getElem?_map]
  by_cases h : i < l.length
  · rw [List.getElem?_range h, List.getElem?_eq_getElem h, Option.map_some, Option.map_some, at0_get h]
  · rw [List.getElem?_eq_none (by simp; omega), List.getElem?_eq_none (by omega)] <;> rfl
theorem range_len (n : Nat) (f : Nat → Int) : ((List.range n).map f).length = n := by rw [List.length_map, List.length_range]
theorem range_at (n : Nat) (f : Nat → Int) {k : Nat} (h : k < n) : at0 ((List.range n).map f) k = f k := by
  rw [at0_get (by rw [range_len]; exact h), List.getElem_map, List.getElem_range]
theorem all_more {A : Int} {w p : List Int} {S : Nat → Prop} (u : Ups A w p S) (h : ∀ k, k < w.length → S k) : p.sum = (whole A w).sum + w.length := by
  have e : p = (whole A w).map fun x => x + 1 := by
    refine List.ext_getElem (by rw [List.length_map, u.len]; unfold whole; rw [List.length_map]) fun i h1 h2 => ?_
    have hi : i < w.length := by rw [← u.len]; exact h1
    have := u.yes i hi (h i hi)
    rw [at0_get h1] at this
    rw [this, List.getElem_map]
    unfold whole
    rw [List.getElem_map, at0_get hi]
  rw [e]
  have g : ∀ l : List Int, (l.map fun x => x + 1).sum = l.sum + l.length := by
    intro l
    induction l with
    | nil => rfl
    | cons a l ih => rw [List.map_cons, List.sum_cons, ih, List.sum_cons, List.length_cons]; omega
  rw [g]; unfold whole; rw [List.length_map]
theorem ints_flat (l : List Int) : (l.map V.int).all flatV = true := by
  rw [List.all_map]; exact List.all_eq_true.mpr fun _ _ => rfl
theorem set_map {xs : List Int} {j : Nat} {v : Int} : (xs.map V.int).set j (.int v) = (xs.set j v).map V.int := by rw [List.map_set]
theorem least {P : Nat → Prop} (h : ∃ n, P n) : ∃ n, P n ∧ ∀ k, k < n → ¬ P k := by
  obtain ⟨n, hn⟩ := h
  induction n using Nat.strongRecOn with
  | ind n ih =>
    by_cases e : ∃ k, k < n ∧ P k
    · obtain ⟨k, hk, pk⟩ := e
      exact ih k hk pk
    · exact ⟨n, hn, fun k hk pk => e ⟨k, hk, pk⟩⟩
theorem ne_of_int {a b : Addr} (h : a ≠ b) : b ≠ a := h.symm
/-- the order of the pairs, as the places of the parts -/
structure Ord (A : Int) (w : List Int) (idx : List Nat) : Prop where
  perm : idx.Perm (List.range w.length)
  srt : idx.Pairwise fun i j => rest A w j < rest A w i ∨ (rest A w j = rest A w i ∧ i < j)
theorem Ord.len {A : Int} {w : List Int} {idx : List Nat} (O : Ord A w idx) : idx.length = w.length := by rw [O.perm.length_eq, List.length_range]
theorem Ord.lt {A : Int} {w : List Int} {idx : List Nat} (O : Ord A w idx) {i : Nat} (h : i < idx.length) : idx[i] < w.length := List.mem_range.mp (O.perm.mem_iff.mp (List.getElem_mem h))
theorem Ord.nd {A : Int} {w : List Int} {idx : List Nat} (O : Ord A w idx) : idx.Nodup := O.perm.nodup_iff.mpr List.nodup_range
/-- one more of the order -/
theorem Ord.step {A : Int} {w p : List Int} {idx : List Nat} (O : Ord A w idx) {i : Nat} (h : i < idx.length) (u : Ups A w p fun k => k ∈ idx.take i) : Ups A w (p.set idx[i] (at0 p idx[i] + 1)) fun k => k ∈ idx.take (i + 1) := by
  have nb : ¬ idx[i] ∈ idx.take i := by
    intro hm
    obtain ⟨j, hj, e⟩ := List.getElem_of_mem hm
    rw [List.length_take] at hj
    rw [List.getElem_take] at e
    have := (List.pairwise_iff_getElem.mp O.nd) j i (by omega) h (by omega)
    exact this e
  have m := u.more (O.lt h) nb fun j hj nS nj => ?_
  · have e : (fun k => k ∈ idx.take i ∨ k = idx[i]) = fun k => k ∈ idx.take (i + 1) := by
      funext k
      rw [List.take_succ_eq_append_getElem h, List.mem_append, List.mem_singleton]
    rw [e] at m
    exact m
  · obtain ⟨t, ht, e⟩ := List.getElem_of_mem (O.perm.mem_iff.mpr (List.mem_range.mpr hj))
    have h1 : ¬ t < i := fun z => nS (by
      rw [← e]
      have : t < (idx.take i).length := by rw [List.length_take]; omega
      have e2 : (idx.take i)[t] = idx[t] := List.getElem_take
      rw [← e2]; exact List.getElem_mem _)
    have h2 : t ≠ i := fun z => nj (by subst z; exact e.symm)
    have := (List.pairwise_iff_getElem.mp O.srt) i t h ht (by omega)
    rw [e] at this
    exact this
theorem order_of {A : Int} {w : List Int} {ts : List Addr} {k : V → Int × Int} (hk : ∀ j (h : j < ts.length), k (.ref ts[j]) = (-(rest A w j), (j : Int))) (lt : ts.length = w.length) {ys : List V} (s : SrtO.Srtd (ltP k) ys) (b : SrtO.Stb (ltP k) ys (ts.map V.ref)) :
    ∃ idx, Ord A w idx ∧ ys.length = idx.length ∧ ∀ i (h : i < idx.length), ∃ hj : idx[i] < ts.length, ys[i]? = some (.ref ts[idx[i]]) := by
  have pm := b.perm
  have mem : ∀ y ∈ ys, ∃ j, ∃ h : j < ts.length, y = .ref ts[j] ∧ k y = (-(rest A w j), (j : Int)) := by
    intro y hy
    obtain ⟨t, ht, rfl⟩ := List.mem_map.mp (pm.mem_iff.mp hy)
    obtain ⟨j, hj, rfl⟩ := List.getElem_of_mem ht
    exact ⟨j, hj, rfl, hk j hj⟩
  have P : (ys.map fun y => (k y).2.toNat).Perm (List.range w.length) := by
    have := pm.map fun y => (k y).2.toNat
    rw [List.map_map] at this
    have e : (ts.map ((fun y => (k y).2.toNat) ∘ V.ref)) = List.range w.length := by
      refine List.ext_getElem (by simp [lt]) fun i h1 h2 => ?_
      rw [List.getElem_map, List.getElem_range]
      have hi0 : i < ts.length := by rw [List.length_map] at h1; exact h1
      show (k (.ref ts[i])).2.toNat = i
      have hi : i < ts.length := by rw [List.length_map] at h1; exact h1
      rw [hk i hi]; simp
    rw [e] at this
    exact this
  have nd : (ys.map fun y => (k y).2.toNat).Nodup := P.nodup_iff.mpr List.nodup_range
  refine ⟨ys.map fun y => (k y).2.toNat, ⟨P, ?_⟩, (List.length_map ..).symm, fun i h => ?_⟩
  · rw [List.pairwise_map]
    have nd' : ys.Pairwise fun x y => (k x).2.toNat ≠ (k y).2.toNat := List.pairwise_map.mp nd
    refine List.Pairwise.imp_of_mem ?_ (List.Pairwise.and s nd')
    intro x y hx hy hxy
    obtain ⟨i, hi, rfl, ex⟩ := mem x hx
    obtain ⟨j, hj, rfl, ey⟩ := mem y hy
    obtain ⟨h1, h2⟩ := hxy
    have h1 := SrtO.lexB_no.mp h1
    rw [ex, ey] at h1 h2 ⊢
    have h2 : i ≠ j := by simpa using h2
    have h1 : ¬ (-(rest A w j) < -(rest A w i) ∨ (-(rest A w j) = -(rest A w i) ∧ (j : Int) < (i : Int))) := h1
    show rest A w ((j : Int).toNat) < rest A w ((i : Int).toNat) ∨ (rest A w ((j : Int).toNat) = rest A w ((i : Int).toNat) ∧ (i : Int).toNat < (j : Int).toNat)
    rw [Int.toNat_natCast, Int.toNat_natCast]
    omega
  · have h' : i < ys.length := by simpa using h
    obtain ⟨j, hj, e, ek⟩ := mem ys[i] (List.getElem_mem h')
    have ej : (ys.map fun y => (k y).2.toNat)[i] = j := by rw [List.getElem_map, ek]; simp
    refine ⟨by rw [ej]; exact hj, ?_⟩
    rw [List.getElem?_eq_getElem h', e]
    congr 2
    simp only [ej]
def kOf (H : Hp) : V → Int × Int := fun x => match x with
  | .ref t => match H t with
    | some (.tup [.int a, .int b]) => (a, b)
    | _ => (0, 0)
  | _ => (0, 0)
theorem kOf_at {H : Hp} {t : Addr} {a b : Int} (h : H t = some (.tup [.int a, .int b])) : kOf H (.ref t) = (a, b) := by show (match H t with | some (.tup [.int a, .int b]) => (a, b) | _ => (0, 0)) = _; rw [h]
def sp_split (K : PySem.W.Frag) : Sp := fun vs H Q _ => ∃ (A : Int) (wa : Addr) (w : List Int), vs = [.int A, .ref wa] ∧ SqL K H wa (w.map V.int) ∧ WOk A w ∧
  ∀ (H' : Hp) (p : List Int) (pa : Addr), Same H H' → H pa = none → H' pa = some (.lst (p.map V.int)) → Fair A w p → Q (.ref pa) H'
theorem ok_split (T : Txt K mg) : FnOk P w K mg base CX0 1 T.a_split T.fd_split ["amount", "weights"] (sp_split K) := by
  refine T.F_split.ok sc_split (fun vs H Q E h => ?_) (fun cdv A outer s H vs Q E hr h => ?_)
  · obtain ⟨A, wa, w, rfl, _⟩ := h; rfl
  · obtain ⟨A, wa, w, rfl, hw, W, q⟩ := h
    obtain ⟨T0, T1⟩ := W.sum
    have a0 := W.a0
    have a1 := W.a1
    have l1 := W.l1
    have l2 := W.l2
    have lw : (w.map V.int).length = w.length := List.length_map ..
    refine ⟨_, pss_cons (ps_set (i := 2) sc_split.nd rfl (.inr rfl) (pe_callB (cr_sum rfl) (by rfl) T.n_sum (by decide +kernel) (pa_cons (pv 1) pa_nil)))
      (pss_cons (ps_setLc (i := 3) (own := [("weight", 4)]) (g := gName 4) (by rfl) sc_split.nd rfl rfl (sw_true rfl rfl rfl (by decide +kernel)) (pi_list (pv 1)) (blkOk_by (own := [("weight", 4)]) (N := ["amount", "weights", "total", "parts", "weight", "rests", "k", "row"]) (sc := defScope s_split) (by decide +kernel)) (fun _ _ _ _ _ => pg_name (i := 4) sc_split.nd rfl (by first | exact Or.inl rfl | exact Or.inr rfl)) (fun _ _ _ _ _ => pts_nil) (fun _ _ _ _ _ => (pe_op op_fdiv (pe_op op_mul (pv 0) (pv 4)) (pv 2))))
      (pss_cons (ps_set (i := 5) sc_split.nd rfl (.inl rfl) (pe_callB cr_sortedPO (by rfl) T.n_sorted (by decide +kernel) (pa_cons (pe_lc (own := [("k", 6)]) (g := gName 6) (by rfl) sc_split.nd (pi_range1 (by rfl) T.n_range (pa_cons (pe_callB call_lenS (by rfl) T.n_len PySem.boot_len (pa_cons (pv 1) pa_nil)) pa_nil)) (blkOk_by (own := [("k", 6)]) (N := ["amount", "weights", "total", "parts", "weight", "rests", "k", "row"]) (sc := defScope s_split) (by decide +kernel)) (fun _ _ _ _ _ => pg_name (i := 6) sc_split.nd rfl (by first | exact Or.inl rfl | exact Or.inr rfl)) (fun _ _ _ _ _ => pts_nil) (fun _ _ _ _ _ => (pe_tup (pa_cons (pe_op op_sub pe_int (pe_op op_mod (pe_op op_mul (pv 0) (pe_ix (r := rIxL K) ix_list (pv 1) (pv 6) (fun _ _ => rfl))) (pv 2))) (pa_cons (pv 6) pa_nil))))) pa_nil)))
      (pss_cons (ps_for PassesOwn.never rfl (pi_list (pe_slice sl_list2 (pv 5) po_none (po_some (pe_op op_sub (pv 0) (pe_callB (cr_sum rfl) (by rfl) T.n_sum (by decide +kernel) (pa_cons (pv 3) pa_nil)))))) (pg_name (i := 7) sc_split.nd rfl (.inl rfl))
        (pss_one (ps_augS (pv 3) (pe_ix ix_tup (pv 7) pe_int (fun _ _ => rfl)) get_list pe_int ip_add set_list)))
      (pss_one (ps_ret (pv 3)))))), ?_⟩
    walk_at "g"
    refine ⟨wa, w, rfl, hw, ?_⟩
    walk_at "g"
    intro pa npa
    refine lcW_pure (w.map V.int) (fun j => .int (A * at0 w j / w.sum)) npa hw (by omega) ?_ ?_
    · intro j x H1 R Z hx s1 hR
      obtain ⟨hj, rfl⟩ := at0_map? hx
      walk_at "g"
      exact hR
    intro H1 s1 e1
    have e1 : H1 pa = some (.lst ((whole A w).map V.int)) := by
      rw [e1, lw]
      have := range_at0 w fun x => A * x / w.sum
      unfold whole
      rw [← this, List.map_map]; rfl
    have hw1 := sqL_same s1 hw
    have lb := left_bound (A := A) (w := w) T0 l1
    walk_at "g"
    intro D nD
    have nD0 : H D = none := Same.free s1 nD
    refine lcW_range (fun i H' => Same H1 H' ∧ ∃ ts : List Addr, H' D = some (.lst (ts.map V.ref)) ∧ ts.length = i ∧ (∀ t ∈ ts, t ≠ D) ∧ ∀ j (h : j < ts.length), H' ts[j] = some (.tup [.int (-(rest A w j)), .int (j : Int)]))
      ⟨Go.Same.new (Same.refl _) nD, [], upd_same, rfl, (fun t h => nomatch h), (fun j h => nomatch h)⟩ ?_ ?_
    · rintro i H2 hi ⟨s2, ts, et, lt, nt, rt⟩
      have hi : i < w.length := by omega
      have hw2 := sqL_same s2 hw1
      walk_at "g"
      refine g_ixL (by walk_at "sq") (at0_at (k := i) (by omega) hi) ?_
      walk_at "g"
      refine NewAt.of_old ?_
      intro t2 nt2
      have nDt : D ≠ t2 := ne_of_none et nt2
      refine ⟨_, at_upd nDt et, by rw [List.length_map]; exact small1000 (by omega), Go.Same.mut (Go.Same.new s2 nt2) nD, ts ++ [t2], by rw [upd_same, List.map_append]; rfl, by simp [lt], fun t hm => ?_, fun j hj => ?_⟩
      · rcases List.mem_append.mp hm with z | z
        · exact nt t z
        · rw [List.mem_singleton.mp z]; exact nDt.symm
      · by_cases h : j < ts.length
        · rw [List.getElem_append_left h]
          have e := rt j h
          exact at_upd (nt _ (List.getElem_mem h)) (at_upd (ne_of_none e nt2) e)
        · have ej : j = ts.length := by rw [List.length_append, List.length_singleton] at hj; omega
          have ei : j = i := by omega
          have e1 : (ts ++ [t2])[j] = t2 := by subst ej; simp
          rw [e1, upd_ne nDt.symm, upd_same, ei]
          unfold rest
          have q1 : (0 : Int) - A * at0 w i % w.sum = -(A * at0 w i % w.sum) := Int.zero_sub _
          have q2 : (0 : Int) + ((i : Nat) : Int) = (i : Int) := Int.zero_add _
          show some (HO.tup [.int ((0 : Int) - A * at0 w i % w.sum), .int ((0 : Int) + ((i : Nat) : Int))]) = _
          rw [q1, q2]
    rintro H2 ⟨s2, ts, et, lt, nt, rt⟩
    have lt : ts.length = w.length := by omega
    have hw2 := sqL_same s2 hw1
    have e2 := s2 _ _ e1
    walk_at "g"
    refine ⟨D, ts.map V.ref, kOf H2, rfl, SqL.of et, fun x hx => ?_, fun ys S sr st nS => ?_⟩
    · obtain ⟨t, ht, rfl⟩ := List.mem_map.mp hx
      obtain ⟨j, hj, rfl⟩ := List.getElem_of_mem ht
      exact ⟨_, rfl, by rw [kOf_at (rt j hj)]; exact rt j hj⟩
    obtain ⟨idx, O, ly, hy⟩ := order_of (A := A) (w := w) (k := kOf H2) (fun j h => kOf_at (rt j h)) lt sr st
    have lO := O.len
    have eS : ∃ n : Nat, (n : Int) = A - (whole A w).sum ∧ n < w.length := ⟨(A - (whole A w).sum).toNat, by omega, by omega⟩
    obtain ⟨n, en, ln⟩ := eS
    walk_at "g"
    have epS : upd H2 S (.lst ys) pa = some (.lst ((whole A w).map V.int)) := at_upd (ne_of_none e2 nS) e2
    refine ⟨pa, whole A w, rfl, SqL.of epS, ?_⟩
    walk_at "g"
    refine NewAt.of_old fun S2 nS2 => ?_
    have ecut : cutV ys none (some (A - (whole A w).sum)) = ys.take n := by
      unfold cutV
      rw [← en, HT.sIx_nat, HT.sIx_none, List.drop_zero, Nat.sub_zero, Nat.min_eq_left (by omega)]
    rw [ecut]
    have sS : Same H (upd (upd H2 S (.lst ys)) S2 (.lst (ys.take n))) := Go.Same.new (Go.Same.new (s1.trans s2) nS) nS2
    walk_at "g"
    have hts : ∀ j (h : j < ts.length), upd (upd H2 S (.lst ys)) S2 (.lst (ys.take n)) ts[j] = some (.tup [.int (-(rest A w j)), .int (j : Int)]) := fun j h => by
      have e := rt j h
      exact at_upd (ne_of_none (at_upd (ne_of_none e nS) e) nS2) (at_upd (ne_of_none e nS) e)
    have nSpa : pa ≠ S2 := ne_of_none epS nS2
    refine forW_list (ys.take n) (fun i σ' H' => ∃ (p : List Int) (y7 : Option V), σ' = [some (.int A), some (.ref wa), some (.int w.sum), some (.ref pa), none, some (.ref S), none, y7] ∧ Same H H' ∧ H' S2 = some (.lst (ys.take n)) ∧
        H' pa = some (.lst (p.map V.int)) ∧ (∀ j (h : j < ts.length), H' ts[j] = some (.tup [.int (-(rest A w j)), .int (j : Int)])) ∧ Ups A w p (fun k => k ∈ idx.take i) ∧ p.sum = (whole A w).sum + i)
      ⟨whole A w, _, rfl, sS, upd_same, at_upd nSpa epS, hts, by simpa using Ups.none A w, by simp⟩ ?_ ?_ ?_
    · rintro i σ' H' hi ⟨p, y7, rfl, s3, eS2, ep, ht, u, hs⟩
      exact SqL.of eS2
    · rintro i x σ' H' hx ⟨p, y7, rfl, s3, eS2, ep, ht, u, hs⟩
      have hin : i < n := by
        have := (List.getElem?_eq_some_iff.mp hx).1
        rw [List.length_take] at this; omega
      have hii : i < idx.length := by omega
      obtain ⟨hj, ex⟩ := hy i hii
      rw [List.getElem?_take_of_lt hin, ex] at hx
      obtain rfl := Option.some.inj hx
      have hjw : idx[i] < w.length := O.lt hii
      have hjp : idx[i] < p.length := by rw [u.len]; exact hjw
      have et3 := ht idx[i] hj
      walk_at "g"
      refine g_getL (by omega) (SqL.of ep) (at0_at (k := idx[i]) rfl hjp) ?_
      walk_at "g"
      refine ⟨_, _, rfl, rfl, ?_⟩
      refine g_setL ep (ixN_some (by omega) (by rw [List.length_map]; omega)) ?_
      have eb2 : ((idx[i] : Nat) : Int).toNat = idx[i] := Int.toNat_natCast _
      have hsum := sum_set (l := p) (v := at0 p idx[i] + 1) hjp
      refine ⟨p.set idx[i] (at0 p idx[i] + 1), _, rfl, Go.Same.mut s3 npa, at_upd (fun z => nSpa z.symm) eS2, ?_, fun j h => ?_, O.step hii u, by omega⟩
      · rw [upd_same, eb2, set_map]
      · refine at_upd (fun z => ?_) (ht j h)
        have := ht j h
        rw [z, ep] at this
        cases this
    · rintro σ' H' ⟨p, y7, rfl, s3, eS2, ep, ht, u, hs⟩
      walk_at "g"
      rw [List.length_take] at hs
      exact q H' p pa s3 npa ep (u.fair W.a0 T0 (fun k hk => by have := W.lo k hk; omega) (by omega))

end
end K55

namespace K55
open PySem PySem.Spec PyProof.Rows L2 Go Dt
set_option maxHeartbeats 8000000
local macro_rules | `(tactic| walk_at "ne") => `(tactic| first
  | assumption
  | (refine Ne.symm ?_; assumption)
  | exact (Go.free_upd (by assumption)).2
  | exact (Go.free_upd (by assumption)).2.symm
  | exact Go.ne_fr (by assumption) (by walk_at "hp")
  | exact (Go.ne_fr (by assumption) (by walk_at "hp")).symm)
local macro_rules | `(tactic| walk_at "fr") => `(tactic| first
  | assumption
  | exact (Go.free_upd (by assumption)).1
  | exact (Go.free_upd (Go.free_upd (by assumption)).1).1
  | exact Same.free (by assumption) (by walk_at "fr"))
local macro_rules | `(tactic| walk_at "hp") => `(tactic| first
  | assumption
  | with_reducible exact upd_same
  | ((with_reducible show upd _ _ _ _ = _); exact Go.at_upd (by walk_at "ne") (by walk_at "hp"))
  | exact (by assumption : Same _ _) _ _ (by walk_at "hp")
  | exact Dt.Own.at (by assumption) (List.mem_cons_self ..)
  | exact Dt.Own.at (by assumption) (List.mem_cons_of_mem _ (List.mem_cons_self ..))
  | exact Dt.Own.at (by assumption) (List.mem_cons_of_mem _ (List.mem_cons_of_mem _ (List.mem_cons_self ..)))
  | exact Dt.Ts.at (by assumption) (List.mem_cons_self ..)
  | exact Dt.Ts.at (by assumption) (List.mem_cons_of_mem _ (List.mem_cons_self ..))
  | exact Dt.Ds.at (by assumption) (List.mem_cons_self ..)
  | exact Dt.Ds.at (by assumption) (List.mem_cons_of_mem _ (List.mem_cons_self ..))
  | exact (Dt.Own.sub (by assumption)) _ _ (by walk_at "hp")
  | exact (Dt.TkS.sub (by assumption)) _ _ (by walk_at "hp")
  | exact (Dt.Ts.sub (by assumption)) _ _ (by walk_at "hp")
  | exact (Dt.DkS.sub (by assumption)) _ _ (by walk_at "hp")
  | exact (Dt.Ds.sub (by assumption)) _ _ (by walk_at "hp")
  | exact (by assumption : Go.Kp _ _ _) _ _ (by walk_at "ne") (by walk_at "hp")
  | exact (by assumption : Go.Kp2 _ _ _ _) _ _ (by walk_at "ne") (by walk_at "ne") (by walk_at "hp"))
local macro_rules | `(tactic| walk_at "sq") => `(tactic| first
  | assumption
  | ((with_reducible show SqL _ (upd _ _ _) _ _); exact (by assumption : ∀ o, SqL _ (upd _ _ o) _ _) _)
  | ((with_reducible show SqL _ _ _ _); exact SqL.of (by walk_at "hp"))
  | ((with_reducible show SqT _ _ _ _); exact SqT.of (by walk_at "hp"))
  | ((with_reducible show SqL _ (upd _ _ _) _ _); exact Go.sqL_new (by walk_at "fr") (by walk_at "sq"))
  | ((with_reducible show SqT _ (upd _ _ _) _ _); exact Go.sqT_new (by walk_at "fr") (by walk_at "sq"))
  | ((with_reducible show SqL _ (upd _ _ _) _ _); exact Go.sqL_ne (by walk_at "ne") (by walk_at "sq"))
  | ((with_reducible show SqL _ _ _ _); exact Go.sqL_same (by assumption) (by walk_at "sq"))
  | ((with_reducible show SqT _ _ _ _); exact Go.sqT_same (by assumption) (by walk_at "sq"))
  | ((with_reducible show SqL _ _ _ _); exact Go.sqL_same (Dt.Own.sub (by assumption)) (by walk_at "sq"))
  | ((with_reducible show SqT _ _ _ _); exact Go.sqT_same (Dt.Own.sub (by assumption)) (by walk_at "sq"))
  | ((with_reducible show SqL _ _ _ _); exact Go.sqL_same (Dt.TkS.sub (by assumption)) (by walk_at "sq"))
  | ((with_reducible show SqL _ _ _ _); exact Go.sqL_same (Dt.Ts.sub (by assumption)) (by walk_at "sq"))
  | ((with_reducible show SqT _ _ _ _); exact Go.sqT_same (Dt.TkS.sub (by assumption)) (by walk_at "sq"))
  | ((with_reducible show SqT _ _ _ _); exact Go.sqT_same (Dt.Ts.sub (by assumption)) (by walk_at "sq"))
  | ((with_reducible show SqL _ _ _ _); exact Go.sqL_same (Dt.DkS.sub (by assumption)) (by walk_at "sq"))
  | ((with_reducible show SqL _ _ _ _); exact Go.sqL_same (Dt.Ds.sub (by assumption)) (by walk_at "sq"))
  | ((with_reducible show SqT _ _ _ _); exact Go.sqT_same (Dt.DkS.sub (by assumption)) (by walk_at "sq"))
  | ((with_reducible show SqT _ _ _ _); exact Go.sqT_same (Dt.Ds.sub (by assumption)) (by walk_at "sq"))
  | ((with_reducible show SqL _ _ _ _); exact Go.sqL_kp (by assumption) (by walk_at "ne") (by walk_at "sq"))
  | ((with_reducible show SqT _ _ _ _); exact Go.sqT_kp (by assumption) (by walk_at "ne") (by walk_at "sq")))
local macro_rules | `(tactic| walk_at "dp") => `(tactic| first
  | assumption
  | with_reducible exact L2.Dp.int _
  | with_reducible exact L2.Dp.str _
  | with_reducible exact L2.Dp.non
  | with_reducible exact L2.Dp.bl _
  | with_reducible exact L2.DpAll.nil
  | ((with_reducible show L2.Dp _ _ _ _); exact Dt.Dp.same (by assumption) (by walk_at "dp"))
  | ((with_reducible show L2.DpAll _ _ _ _); exact Dt.DpAll.same (by assumption) (by walk_at "dp"))
  | ((with_reducible show L2.Dp _ _ _ _); exact Dt.Dp.same (Dt.Own.sub (by assumption)) (by walk_at "dp"))
  | ((with_reducible show L2.DpAll _ _ _ _); exact Dt.DpAll.same (Dt.Own.sub (by assumption)) (by walk_at "dp"))
  | ((with_reducible show L2.Dp _ _ _ _); exact Dt.Dp.same (Dt.TkS.sub (by assumption)) (by walk_at "dp"))
  | ((with_reducible show L2.Dp _ _ _ _); exact Dt.Dp.same (Dt.Ts.sub (by assumption)) (by walk_at "dp"))
  | ((with_reducible show L2.DpAll _ _ _ _); exact Dt.DpAll.same (Dt.TkS.sub (by assumption)) (by walk_at "dp"))
  | ((with_reducible show L2.DpAll _ _ _ _); exact Dt.DpAll.same (Dt.Ts.sub (by assumption)) (by walk_at "dp"))
  | ((with_reducible show L2.Dp _ _ _ _); exact Dt.Dp.same (Dt.DkS.sub (by assumption)) (by walk_at "dp"))
  | ((with_reducible show L2.Dp _ _ _ _); exact Dt.Dp.same (Dt.Ds.sub (by assumption)) (by walk_at "dp"))
  | ((with_reducible show L2.DpAll _ _ _ _); exact Dt.DpAll.same (Dt.DkS.sub (by assumption)) (by walk_at "dp"))
  | ((with_reducible show L2.DpAll _ _ _ _); exact Dt.DpAll.same (Dt.Ds.sub (by assumption)) (by walk_at "dp"))
  | ((with_reducible show L2.Dp _ _ _ _); exact L2.Dp.tup (by walk_at "sq") (by walk_at "dp"))
  | ((with_reducible show L2.Dp _ _ _ _); exact L2.Dp.lst (by walk_at "sq") (by walk_at "dp"))
  | with_reducible exact L2.DpAll.cons (by walk_at "dp") (by walk_at "dp")
  | ((with_reducible show Dt.Scr _ _ _); exact Dt.Scr.same (by assumption) (by walk_at "dp"))
  | exact Dt.dpAll_ints.mpr rfl
  | exact Dt.dpAll_strs.mpr rfl
  | exact Dt.dpAll_bools.mpr rfl)
local macro_rules | `(tactic| walk_at "ci") => `(tactic| first
  | exact .inr ⟨by decide, by decide⟩
  | exact .inl ⟨by decide, by decide⟩
  | exact ⟨by decide, by decide, by decide⟩
  | decide
  | omega
  | exact ⟨by omega, by omega⟩
  | exact .inl ⟨by omega, by omega⟩
  | exact .inr ⟨by omega, by omega⟩)
local macro_rules | `(tactic| walk_at "g0") => `(tactic| first
  | with_reducible refine Go.g_seq ?_
  | ((with_reducible show tVar _ _ _ _); refine ⟨_, rfl, ?_⟩)
  | with_reducible refine Go.g_c ?_
  | with_reducible refine Go.g_op ?_
  | with_reducible refine Go.g_asg ?_
  | with_reducible refine Go.g_name ?_
  | with_reducible refine Go.g_cons ?_
  | with_reducible refine Dt.g_orV ?_
  | with_reducible refine Dt.g_andV ?_
  | with_reducible refine Dt.g_notV ?_
  | with_reducible refine Dt.g_lst2 ?_
  | with_reducible refine Dt.g_tup2 ?_
  | with_reducible refine Go.g_for ?_
  | with_reducible refine Go.g_rng1 ?_
  | with_reducible refine Go.g_rng2 ?_
  | with_reducible refine Go.g_rng3 ?_
  | with_reducible refine Go.g_list ?_
  | with_reducible refine Go.g_itup ?_
  | with_reducible refine Go.g_enum ?_
  | ((with_reducible show tPar _ _ _ _ _ _); unfold tPar)
  | ((with_reducible show ∃ v w, [_, _] = [v, w] ∧ _); refine ⟨_, _, rfl, ?_⟩)
  | with_reducible refine Go.g_zip ?_
  | with_reducible refine Go.g_augS ?_
  | with_reducible refine Go.g_lc ?_
  | with_reducible refine Go.g_nil ?_
  | with_reducible refine Go.g_cb ?_
  | with_reducible refine Go.g_call ?_
  | with_reducible refine Go.g_ret ?_
  | with_reducible refine Go.g_next ?_
  | with_reducible refine Go.g_drop ?_
  | with_reducible refine Go.g_un ?_
  | with_reducible refine Go.g_test ?_
  | with_reducible refine Go.g_tB ?_
  | with_reducible refine Go.g_ifs ?_
  | with_reducible refine Go.g_if ?_
  | with_reducible refine Go.g_and ?_
  | with_reducible refine Go.g_or ?_
  | with_reducible refine Go.g_not ?_
  | with_reducible refine Go.g_sl ?_
  | with_reducible refine Go.g_nopart ?_
  | with_reducible refine Go.g_part ?_
  | ((with_reducible show ∃ k, V.bl _ = V.bl k ∧ _); refine ⟨_, rfl, ?_⟩)
  | ((with_reducible show ∃ k, V.int _ = V.int k ∧ _); refine ⟨_, rfl, ?_⟩)
  | with_reducible refine Go.g_bm ?_
  | with_reducible refine Go.g_yes ?_
  | ((with_reducible show rI0 _ _ _ _ _); refine ⟨_, _, rfl, rfl, ?_⟩)
  | ((with_reducible show rI _ _ _ _ _ _); refine ⟨_, _, rfl, rfl, ?_, ?_⟩; (focus walk_at "ci"))
  | ((with_reducible show rU _ _ _ _); refine ⟨_, rfl, ?_⟩)
  | ((with_reducible show V.non = V.non ∧ _); refine ⟨rfl, ?_⟩)
  | ((with_reducible show rIsB _ _ _ _); refine ⟨_, _, rfl, rfl, ?_⟩)
  | ((with_reducible show rNotB _ _ _ _); refine ⟨_, _, rfl, rfl, ?_⟩)
  | ((with_reducible show rEq _ _ _ _); refine ⟨rfl, ?_⟩)
  | ((with_reducible show rNe _ _ _ _); refine ⟨rfl, ?_⟩)
  | ((with_reducible show rIxL _ _ _ _ _); refine Go.g_ixL (by walk_at "sq") (by rfl) ?_)
  | ((with_reducible show rIxT _ _ _ _ _); refine Go.g_ixT (by walk_at "sq") (by rfl) ?_)
  | ((with_reducible show rSetL _ _ _ _ _); refine Go.g_setL (by walk_at "hp") (by rfl) ?_)
  | ((with_reducible show ∃ p ys, [V.ref _] = [V.ref p] ∧ (SqL _ _ _ _ ∨ SqT _ _ _ _) ∧ _); refine ⟨_, _, rfl, .inl (by walk_at "sq"), ?_⟩)
  | ((with_reducible show (∃ i, [V.int _] = [V.int i] ∧ _) ∨ _); refine .inl ⟨_, rfl, ?_⟩)
  | ((with_reducible show ∃ (c : Nat) (z : Str), V.str _ = V.str ⟨#[c]⟩ ∧ V.str _ = V.str z ∧ _); refine ⟨_, _, rfl, rfl, ?_⟩)
  | ((with_reducible show ∃ x : Str, [V.str _] = [V.str x] ∧ Str.length x = 1 ∧ _); refine ⟨_, rfl, rfl, ?_⟩)
  | ((with_reducible show ∃ z : Str, [V.str _] = [V.str z] ∧ Str.length z ≤ sizeLine ∧ _); refine ⟨_, rfl, by assumption, ?_⟩)
  | ((with_reducible show rSlS _ _ _ _ _); refine ⟨_, rfl, by assumption, ?_⟩)
  | ((with_reducible show gTup _ _ _ _ _ _ _); refine Go.g_gtup (by walk_at "sq") (by rfl) ?_)
  | ((with_reducible show gCons _ _ _ _ _ _); refine ⟨_, _, rfl, ?_⟩)
  | ((with_reducible show gNil _ _ _ _); refine ⟨rfl, ?_⟩)
  | ((with_reducible show rLenS _ _ _ _); refine Go.g_lenL (by walk_at "sq") ?_)
  | ((with_reducible show rListOf _ _ _ _); refine Go.g_listL (by walk_at "sq") ?_)
  | ((with_reducible show Dt.rList2 _ _ _ _); refine ⟨_, _, rfl, .inl (by walk_at "sq"), ?_⟩)
  | ((with_reducible show Dt.rTuple2 _ _ _ _); refine ⟨_, _, rfl, by walk_at "sq", ?_⟩)
  | ((with_reducible show Dt.rSlL2 _ _ _ _ _ _); refine ⟨_, _, rfl, by walk_at "sq", ?_⟩)
  | ((with_reducible show wipe _ _ = wipe _ _ ∧ _); refine ⟨rfl, ?_⟩)
  | ((with_reducible show if true = true then _ else _); refine iteT ?_)
  | ((with_reducible show if false = true then _ else _); refine iteF ?_)
  | ((with_reducible show ∃ a b xs ys, [V.ref _, V.ref _] = [V.ref a, V.ref b] ∧ SqL _ _ a xs ∧ SqL _ _ b ys ∧ _); refine ⟨_, _, _, _, rfl, by walk_at "sq", by walk_at "sq", ?_⟩)
  | ((with_reducible show ∃ a xs, [V.ref _] = [V.ref a] ∧ SqL _ _ a xs ∧ _); refine ⟨_, _, rfl, by walk_at "sq", ?_⟩)
  | ((with_reducible show ∃ a, V.ref _ = V.ref a ∧ (∃ xs, SqL _ _ a xs) ∧ _); refine ⟨_, rfl, ⟨_, by walk_at "sq"⟩, ?_⟩)
  | ((with_reducible show ∃ a, V.ref _ = V.ref a ∧ (∃ xs, SqT _ _ a xs) ∧ _); refine ⟨_, rfl, ⟨_, by walk_at "sq"⟩, ?_⟩)
  | ((with_reducible show ∃ j : Int, [V.int _] = [V.int j] ∧ _ ≤ j ∧ j < _ ∧ _); refine ⟨_, rfl, by omega, by omega, ?_⟩)
  | ((with_reducible show ∃ i j : Int, [V.int _, V.int _] = [V.int i, V.int j] ∧ (_ ≤ i ∧ i < _ ∧ _ ≤ j ∧ j < _) ∧ _); refine ⟨_, _, rfl, ⟨by omega, by omega, by omega, by omega⟩, ?_⟩)
  | ((with_reducible show ∃ i j : Int, [V.int _, V.int _] = [V.int i, V.int j] ∧ _); refine ⟨_, _, rfl, ?_⟩)
  | ((with_reducible show ∃ i : Int, [V.int _] = [V.int i] ∧ _); refine ⟨_, rfl, ?_⟩)
  | ((with_reducible show _ ≤ sizeLine ∧ _); refine ⟨by first | decide | (simp only [List.length_cons, List.length_nil]; decide), ?_⟩))
local macro_rules | `(tactic| walk_at "g1") => `(tactic| first | walk_at "g0" | with_reducible refine Go.g_sub ?_)
local macro_rules | `(tactic| walk_at "g") => `(tactic| repeat walk_at "g1")
local macro_rules | `(tactic| walk_at "v") => `(tactic| repeat walk_at "g0")
local macro_rules | `(tactic| walk_at "if") => `(tactic| first
  | with_reducible refine @Go.g_itd _ _ _ _ ?_ ?_
  | with_reducible refine @Go.g_itnd _ _ _ _ ?_ ?_
  | with_reducible refine Go.g_ite ?_ ?_)

section
variable {P : Program} {w : World} {K : PySem.W.Frag} {mg : Str → Option Value} {base : Heap}
inductive Form where
  | any
  | for_ (row : List Str)
  | most (rows : List (Str × Int))
  | shares (rows : List (Str × Int))
def encP : Str × Int → PyData := fun p => .tuple [.str p.1, .int p.2]
def Form.py : Form → PyData
  | .any => .tuple [.str "any"]
  | .for_ row => .tuple [.str "for", .tuple (row.map PyData.str)]
  | .most rows => .tuple [.str "most", .tuple (rows.map encP)]
  | .shares rows => .tuple [.str "shares", .tuple (rows.map encP)]
def RowsOk (rows : List (Str × Int)) : Prop := 1 ≤ rows.length ∧ rows.length ≤ 4 ∧ ∀ r ∈ rows, 1 ≤ r.2 ∧ r.2 ≤ 100
def Form.Ok : Form → Prop
  | .any => True
  | .for_ row => row.length ≤ 4
  | .most rows => RowsOk rows
  | .shares rows => RowsOk rows ∧ (rows.map (·.2)).sum = 100
open Classical in
noncomputable def fairOf (A : Int) (w : List Int) : List Int := if h : ∃ p, Fair A w p then Classical.choose h else []
theorem fairOf_eq {A : Int} {w p : List Int} (hT : 0 < w.sum) (h : Fair A w p) : fairOf A w = p := by
  unfold fairOf
  rw [dif_pos ⟨p, h⟩]
  exact Fair.unique hT (Classical.choose_spec (⟨p, h⟩ : ∃ p, Fair A w p)) h
noncomputable def shareRows (cents : Int) (rows : List (Str × Int)) : List (Str × Int) := (List.range rows.length).map fun k => ((rows.getD k ("", 0)).1, (fairOf cents (rows.map (·.2))).getD k 0)
noncomputable def raw (cents : Int) : Form → List (Str × Int)
  | .any => []
  | .for_ row => row.map fun s => (s, cents)
  | .most rows => (rows.map fun r => (r.1, cents * r.2 / 100)).filter fun r => decide (0 < r.2)
  | .shares rows => (shareRows cents rows).filter fun r => decide (0 < r.2)
noncomputable def waysS (cents : Int) (f : Form) : List (Str × Int) := (raw cents f).mergeSort (PySem.W.dataLe false encP)
theorem encP_alike (a b : Str × Int) : PySem.W.alike (encP a) (encP b) = true := by simp [encP, PySem.W.alike, PySem.W.alikeAll]
theorem encP_depth (b : Str × Int) : (encP b).depth ≤ 60 := by simp [encP, PyData.depth, PyData.depthAll]
theorem srt_P {X : List (Str × Int)} : PySem.W.AllAlike (X.map encP) ∧ PySem.W.Sortable (X.map encP) ∧ ∀ b ∈ X, (encP b).depth ≤ 60 :=
  ⟨PySem.W.AllAlike.of encP_alike, PySem.W.Sortable.tuples fun b => ⟨_, _, rfl⟩, fun b _ => encP_depth b⟩
theorem at_P {K : PySem.W.Frag} {G : Hp} {xs : List V} {rows : List (Str × Int)} (d : DpAll K G xs (rows.map encP)) {i : Int} {k : Nat} (e : i = (k : Int)) (hk : k < rows.length) :
    ∃ t, atI xs i = some (.ref t) ∧ SqT K G t [.str rows[k].1, .int rows[k].2] := by
  subst e
  obtain ⟨x, h1, h2⟩ := DpAll.to d hk
  obtain ⟨t, ys, rfl, h3, h4⟩ := dp_tup.mp h2
  obtain ⟨a, r, rfl, h5, h6⟩ := dpAll_cons.mp h4
  obtain ⟨b, r, rfl, h7, h8⟩ := dpAll_cons.mp h6
  rw [dp_str] at h5; rw [dp_int] at h7; rw [dpAll_nil] at h8
  subst h5 h7 h8
  exact ⟨t, atI_nat h1, h3⟩
theorem dp_P {K : PySem.W.Frag} {G : Hp} {v : V} {r : Str × Int} (h : Dp K G v (encP r)) : ∃ t, v = .ref t ∧ SqT K G t [.str r.1, .int r.2] := by
  obtain ⟨t, ys, rfl, h3, h4⟩ := dp_tup.mp h
  obtain ⟨a, r, rfl, h5, h6⟩ := dpAll_cons.mp h4
  obtain ⟨b, r, rfl, h7, h8⟩ := dpAll_cons.mp h6
  rw [dp_str] at h5; rw [dp_int] at h7; rw [dpAll_nil] at h8
  subst h5 h7 h8
  exact ⟨t, rfl, h3⟩
def sp_ways (K : PySem.W.Frag) : Sp := fun vs H Q _ => ∃ (cents : Int) (v : V) (f : Form), vs = [.int cents, v] ∧ Dp K H v f.py ∧ f.Ok ∧ 1 ≤ cents ∧ cents ≤ 999999999 ∧
  (f = .any → Q .non H) ∧ ∀ G p xs, f ≠ .any → Same H G → G p = none → DpAll K G xs ((waysS cents f).map encP) → Q (.ref p) (upd G p (.lst xs))
theorem rows_sum {cents : Int} {rows : List (Str × Int)} (h : RowsOk rows) (h1 : 1 ≤ cents) (h2 : cents ≤ 999999999) : WOk cents (rows.map (·.2)) := by
  refine ⟨by rw [List.length_map]; exact h.1, by rw [List.length_map]; have := h.2.1; omega, fun k hk => ?_, fun k hk => ?_, by omega, by omega⟩
  · rw [at0_get hk, List.getElem_map]; exact (h.2.2 _ (List.getElem_mem _)).1
  · rw [at0_get hk, List.getElem_map]; have := (h.2.2 _ (List.getElem_mem (by rw [List.length_map] at hk; exact hk))).2; omega
theorem ok_ways (T : Txt K mg) : FnOk P w K mg base CX0 2 T.a_ways T.fd_ways ["cents", "form"] (sp_ways K) := by
  refine T.F_ways.ok sc_ways (fun vs H Q E h => ?_) (fun cdv A outer s H vs Q E hr h => ?_)
  · obtain ⟨cents, v, f, rfl, _⟩ := h; rfl
  · obtain ⟨cents, v, f, rfl, hf, ok, h1, h2, q0, q⟩ := h
    refine ⟨_, pss_cons (ps_if (pt_cmpR op_eq (pe_ix ix_tup (pv 1) pe_int (fun _ _ => rfl)) pe_str (nomark _))
        (pss_one (ps_ret pe_non))
        (pss_nil))
      (pss_cons (ps_if (pt_cmpR op_eq (pe_ix ix_tup (pv 1) pe_int (fun _ _ => rfl)) pe_str (nomark _))
        (pss_one (ps_ret (pe_callB (cr_sortedQ hr.units) (by rfl) T.n_sorted (by decide +kernel) (pa_cons (pe_lc (own := [("purpose", 2)]) (g := gName 2) (by rfl) sc_ways.nd (pi_tup (pe_ix ix_tup (pv 1) pe_int (fun _ _ => rfl))) (blkOk_by (own := [("purpose", 2)]) (N := ["cents", "form", "purpose", "parts", "row", "found", "k", "part"]) (sc := defScope s_ways) (by decide +kernel)) (fun _ _ _ _ _ => pg_name (i := 2) sc_ways.nd rfl (by first | exact Or.inl rfl | exact Or.inr rfl)) (fun _ _ _ _ _ => pts_nil) (fun _ _ _ _ _ => (pe_tup (pa_cons (pv 2) (pa_cons (pv 0) pa_nil))))) pa_nil))))
        (pss_nil))
      (C8.pss_cut (ps_if (pt_cmpR op_eq (pe_ix ix_tup (pv 1) pe_int (fun _ _ => rfl)) pe_str (nomark _))
        (pss_cons (ps_set (i := 3) sc_ways.nd rfl (.inr rfl) (pe_call (Dt.frame_call (ok_split T)) hr (by rfl) T.g_split T.F_split.kp T.b_split .nil pass0 (pa_cons (pv 0) (pa_cons (pe_lc (own := [("row", 4)]) (g := gName 4) (by rfl) sc_ways.nd (pi_tup (pe_ix ix_tup (pv 1) pe_int (fun _ _ => rfl))) (blkOk_by (own := [("row", 4)]) (N := ["cents", "form", "purpose", "parts", "row", "found", "k", "part"]) (sc := defScope s_ways) (by decide +kernel)) (fun _ _ _ _ _ => pg_name (i := 4) sc_ways.nd rfl (by first | exact Or.inl rfl | exact Or.inr rfl)) (fun _ _ _ _ _ => pts_nil) (fun _ _ _ _ _ => (pe_ix (r := rIxT K) ix_tup (pv 4) pe_int (fun _ _ => rfl)))) pa_nil))))
        (pss_one (ps_setLc (i := 5) (own := [("k", 6)]) (g := gName 6) (by rfl) sc_ways.nd rfl rfl (sw_true rfl rfl rfl (by decide +kernel)) (pi_range1 (by rfl) T.n_range (pa_cons (pe_callB call_lenS (by rfl) T.n_len PySem.boot_len (pa_cons (pv 3) pa_nil)) pa_nil)) (blkOk_by (own := [("k", 6)]) (N := ["cents", "form", "purpose", "parts", "row", "found", "k", "part"]) (sc := defScope s_ways) (by decide +kernel)) (fun _ _ _ _ _ => pg_name (i := 6) sc_ways.nd rfl (by first | exact Or.inl rfl | exact Or.inr rfl)) (fun _ _ _ _ _ => pts_nil) (fun _ _ _ _ _ => (pe_tup (pa_cons (pe_ix (r := rIxT K) ix_tup (pe_ix (r := rIxT K) ix_tup (pe_ix (r := rIxT K) ix_tup (pv 1) pe_int (fun _ _ => rfl)) (pv 6) (fun _ _ => rfl)) pe_int (fun _ _ => rfl)) (pa_cons (pe_ix (r := rIxL K) ix_list (pv 3) (pv 6) (fun _ _ => rfl)) pa_nil)))))))
        (pss_one (ps_setLc (i := 5) (own := [("purpose", 2), ("part", 7)]) (g := gTup K 2 (gCons (gName 2) (gCons (gName 7) gNil))) (by rfl) sc_ways.nd rfl rfl (sw_true rfl rfl rfl (by decide +kernel)) (pi_tup (pe_ix ix_tup (pv 1) pe_int (fun _ _ => rfl))) (blkOk_by (own := [("purpose", 2), ("part", 7)]) (N := ["cents", "form", "purpose", "parts", "row", "found", "k", "part"]) (sc := defScope s_ways) (by decide +kernel)) (fun _ _ _ _ _ => pg_tup (n := 2) rfl (pgs_cons (pg_name (i := 2) sc_ways.nd rfl (Or.inl rfl)) (pgs_cons (pg_name (i := 7) sc_ways.nd rfl (Or.inl rfl)) pgs_nil))) (fun _ _ _ _ _ => pts_nil) (fun _ _ _ _ _ => (pe_tup (pa_cons (pv 2) (pa_cons (pe_op op_fdiv (pe_op op_mul (pv 0) (pv 7)) pe_int) pa_nil)))))))
      (pss_one (ps_ret (pe_callB (cr_sortedQ hr.units) (by rfl) T.n_sorted (by decide +kernel) (pa_cons (pe_lc (own := [("row", 4)]) (g := gName 4) (by rfl) sc_ways.nd (pi_list (pv 5)) (blkOk_by (own := [("row", 4)]) (N := ["cents", "form", "purpose", "parts", "row", "found", "k", "part"]) (sc := defScope s_ways) (by decide +kernel)) (fun _ _ _ _ _ => pg_name (i := 4) sc_ways.nd rfl (by first | exact Or.inl rfl | exact Or.inr rfl)) (fun _ _ _ _ _ => pts_one (pt_cmpR op_gt (pe_ix (r := rIxT K) ix_tup (pv 4) pe_int (fun _ _ => rfl)) pe_int (nomark _))) (fun _ _ _ _ _ => (pv 4))) pa_nil)))))), ?_⟩
    have cs : f = .any ∨ (∃ row, f = .for_ row) ∨ ∃ (rows : List (Str × Int)) (hd : Str), f.py = .tuple [.str hd, .tuple (rows.map encP)] ∧ RowsOk rows ∧ ((hd = "most" ∧ f = .most rows) ∨ (hd = "shares" ∧ f = .shares rows)) := by
      cases f with
      | any => exact .inl rfl
      | for_ row => exact .inr (.inl ⟨row, rfl⟩)
      | most rows => exact .inr (.inr ⟨rows, _, rfl, ok, .inl ⟨rfl, rfl⟩⟩)
      | shares rows => exact .inr (.inr ⟨rows, _, rfl, ok.1, .inr ⟨rfl, rfl⟩⟩)
    rcases cs with rfl | ⟨row, rfl⟩ | ⟨rows, hd, epy, rk, ek⟩
    · obtain ⟨t, ys, rfl, h3, h4⟩ := dp_tup.mp hf
      obtain ⟨a, r, rfl, h5, h6⟩ := dpAll_cons.mp h4
      rw [dp_str] at h5; rw [dpAll_nil] at h6; subst h5 h6
      walk_at "g"
      walk_at "if" <;> intro e
      · walk_at "g"
        exact q0 rfl
      · exact absurd rfl e
    · obtain ⟨t, ys, rfl, h3, h4⟩ := dp_tup.mp hf
      obtain ⟨a, r, rfl, h5, h6⟩ := dpAll_cons.mp h4
      obtain ⟨b, r, rfl, h7, h8⟩ := dpAll_cons.mp h6
      rw [dp_str] at h5; rw [dpAll_nil] at h8; subst h5 h8
      obtain ⟨u, zs, rfl, h9, h10⟩ := dp_tup.mp h7
      walk_at "g"
      walk_at "if" <;> intro e
      · exact absurd e (by decide)
      clear e
      walk_at "g"
      walk_at "if" <;> intro e
      · walk_at "g"
        intro D nD
        refine lcF (src_tup row PyData.str) encP (fun i => (row.getD i "", cents)) (Own.nil H) ⟨_, h9, h10⟩ nD (sz5 (by have : row.length ≤ 4 := ok; omega)) ?_ ?_
        · rintro j x ys G1 H2 R Z hj s2 ow2 ⟨hj', dx⟩ hR
          rw [dp_str] at dx; subst dx
          rw [List.getD_eq_getElem?_getD, List.getElem?_eq_getElem hj'] at hR
          walk_at "g"
          refine Dt.NewAt.ow (by assumption) fun t2 G3 H3 ow3 s3 att2 nt2 => ?_
          exact hR _ _ _ ow3 s3 (Dp.tup (SqT.of att2) (.cons (.str _) (.cons (.int _) .nil)))
        intro G1 H1 ys s1 ow1 d1
        rw [range_map_get row (fun s => (s, cents)) ""] at d1
        walk_at "g"
        obtain ⟨a1, a2, a3⟩ := srt_P (X := row.map fun s => (s, cents))
        refine ⟨D, ys, _, _, encP, _, rfl, by walk_at "sq", Same.refl _, by walk_at "dp", a1, a2, a3, fun zs dz => ?_⟩
        refine NewAt.owc (Own.nil H1) fun p H9 w9 np => ?_
        rw [w9.eq]
        walk_at "g"
        exact q H1 p zs (by simp) (s1.trans ow1.sub) np dz
      · exact absurd rfl e
    · rw [epy] at hf
      obtain ⟨t, ys, rfl, h3, h4⟩ := dp_tup.mp hf
      obtain ⟨a, r, rfl, h5, h6⟩ := dpAll_cons.mp h4
      obtain ⟨b, r, rfl, h7, h8⟩ := dpAll_cons.mp h6
      rw [dp_str] at h5; rw [dpAll_nil] at h8; subst h5 h8
      obtain ⟨u, zs, rfl, h9, h10⟩ := dp_tup.mp h7
      clear hf h4 h6 h7 q0
      have lr := rk.2.1
      walk_at "g"
      walk_at "if" <;> intro e
      · have e := V.str.inj e
        rcases ek with ⟨z, _⟩ | ⟨z, _⟩ <;> (rw [z] at e; exact absurd e (by decide))
      clear e
      walk_at "g"
      walk_at "if" <;> intro e
      · have e := V.str.inj e
        rcases ek with ⟨z, _⟩ | ⟨z, _⟩ <;> (rw [z] at e; exact absurd e (by decide))
      clear e
      walk_at "g"
      refine g_cut (fun σ' H' => ∃ (D : Addr) (xs : List V) (G : Hp) (y2 y3 y4 y6 y7 : Option V) (found : List (Str × Int)), σ' = [some (.int cents), some (.ref t), y2, y3, y4, some (.ref D), y6, y7] ∧ Own [(D, .lst xs)] G H' ∧ Same H G ∧ DpAll K G xs (found.map encP) ∧ found.length ≤ 4 ∧
        raw cents f = found.filter (fun r => decide (0 < r.2))) ?_ ?_
      · walk_at "g"
        walk_at "if" <;> intro e
        · have e := V.str.inj e
          rcases ek with ⟨z, _⟩ | ⟨z, ef⟩
          · rw [z] at e; exact absurd e (by decide)
          walk_at "g"
          intro D nD
          refine lcF (src_tup rows encP) PyData.int (fun i => (rows.getD i ("", 0)).2) (Own.nil H) ⟨_, h9, h10⟩ nD (sz5 (by omega)) ?_ ?_
          · rintro j x ys G1 H2 R Z hj s2 ow2 ⟨hj', dx⟩ hR
            obtain ⟨t2, rfl, ht2⟩ := dp_P dx
            rw [List.getD_eq_getElem?_getD, List.getElem?_eq_getElem hj'] at hR
            walk_at "g"
            exact hR _ _ _ ow2 (Same.refl _) (.int _)
          intro G1 H1 ys s1 ow1 d1
          rw [range_map_get rows (·.2) ("", 0), dpAll_ints] at d1
          subst d1
          walk_at "g"
          refine ⟨[], H1, Own.nil _, (fun c h => nomatch h), cents, D, _, rfl, by walk_at "sq", rows_sum rk h1 h2, fun G2 ps pa s2 np e2 F2 H3 ow3 => ?_⟩
          rw [own_nil] at ow3; subst ow3
          have F3 := fairOf_eq (rows_sum rk h1 h2).sum.1 F2
          have l2 := F2.len
          rw [List.length_map] at l2
          have lm : (ps.map V.int).length = rows.length := by rw [List.length_map, l2]
          have s3 := (s1.trans ow1.sub).trans s2
          walk_at "g"
          intro E nE
          refine lcF (src_range (K := K)) encP (fun i => ((rows.getD i ("", 0)).1, ps.getD i 0)) (Own.nil _) trivial nE (sz5 (by omega)) ?_ ?_
          · rintro j x ys G4 H4 R Z hj s4 ow4 ⟨hj', rfl⟩ hR
            have hj2 : j < rows.length := by omega
            rw [List.getD_eq_getElem?_getD, List.getD_eq_getElem?_getD, List.getElem?_eq_getElem hj2, List.getElem?_eq_getElem (by omega)] at hR
            walk_at "g"
            obtain ⟨r, er, hr'⟩ := at_P (i := 0 + (j : Int)) h10 (by omega) hj2
            refine g_ixT (by walk_at "sq") er ?_
            walk_at "g"
            refine g_ixL (by walk_at "sq") (v := .int ps[j]) (by rw [Int.zero_add]; exact atI_nat (by rw [List.getElem?_map, List.getElem?_eq_getElem (by omega)]; rfl)) ?_
            walk_at "g"
            refine Dt.NewAt.ow (by assumption) fun t3 G5 H5 ow5 s5 att3 nt3 => ?_
            exact hR _ _ _ ow5 s5 (Dp.tup (SqT.of att3) (.cons (.str _) (.cons (.int _) .nil)))
          intro G4 H4 ys s4 ow4 d4
          have en : Int.toNat ((ps.map V.int).length : Int) = rows.length := by omega
          rw [en] at d4
          refine ⟨E, ys, G4, _, _, _, _, _, _, rfl, ow4, s3.trans s4, d4, by simp; omega, ?_⟩
          rw [ef, raw, shareRows, F3]
        walk_at "g"
        rcases ek with ⟨z, ef⟩ | ⟨z, ef⟩
        · intro D nD
          refine lcF (src_tup rows encP) encP (fun i => ((rows.getD i ("", 0)).1, cents * (rows.getD i ("", 0)).2 / 100)) (Own.nil H) ⟨_, h9, h10⟩ nD (sz5 (by omega)) ?_ ?_
          · rintro j x ys G1 H2 R Z hj s2 ow2 ⟨hj', dx⟩ hR
            obtain ⟨t2, rfl, ht2⟩ := dp_P dx
            rw [List.getD_eq_getElem?_getD, List.getElem?_eq_getElem hj'] at hR
            have b1 := (rk.2.2 _ (List.getElem_mem hj')).1
            have b2 := (rk.2.2 _ (List.getElem_mem hj')).2
            walk_at "g"
            refine Dt.NewAt.ow (by assumption) fun t3 G3 H3 ow3 s3 att3 nt3 => ?_
            exact hR _ _ _ ow3 s3 (Dp.tup (SqT.of att3) (.cons (.str _) (.cons (.int _) .nil)))
          intro G1 H1 ys s1 ow1 d1
          rw [range_map_get rows (fun r => (r.1, cents * r.2 / 100)) ("", 0)] at d1
          exact ⟨D, ys, G1, _, _, _, _, _, _, rfl, ow1, s1, d1, by rw [List.length_map]; exact lr, by rw [ef, raw]⟩
        · exact absurd (by rw [z]) e
      rintro σ' H1 ⟨D, ys, G1, y2, y3, y4, y6, y7, found, rfl, ow1, s1, d1, lf, er⟩
      have d1 := DpAll.same ow1.sub d1
      have e1 := ow1.at (List.mem_cons_self ..)
      have s1 := s1.trans ow1.sub
      walk_at "g"
      intro E nE
      refine lcP (src_list found encP) encP (fun i => decide (0 < (found.getD i ("", 0)).2)) (fun i => found.getD i ("", 0)) (Own.nil H1) ⟨_, SqL.of e1, d1⟩ nE (sz5 (by omega)) ?_ ?_
      · rintro j x ys G2 H2 R Z hj s2 ow2 ⟨hj', dx⟩ hR hZ
        obtain ⟨t2, rfl, ht2⟩ := dp_P dx
        rw [List.getD_eq_getElem?_getD, List.getElem?_eq_getElem hj'] at hR hZ
        walk_at "g"
        walk_at "if" <;> intro e
        · walk_at "g"
          exact hR (decide_eq_true e) _ _ _ ow2 (Same.refl _) dx
        · exact hZ (decide_eq_false e) _ _ ow2 (Same.refl _)
      intro G2 H2 zs s2 ow2 d2
      have ef := range_filter_get found (fun r => decide (0 < r.2)) id ("", 0)
      simp only [id] at ef
      rw [ef, List.map_id, ← er] at d2
      walk_at "g"
      obtain ⟨a1, a2, a3⟩ := srt_P (X := raw cents f)
      refine ⟨E, zs, _, _, encP, _, rfl, by walk_at "sq", Same.refl _, by walk_at "dp", a1, a2, a3, fun ws dz => ?_⟩
      refine NewAt.owc (Own.nil H2) fun p H9 w9 np => ?_
      rw [w9.eq]
      walk_at "g"
      refine q H2 p ws ?_ (s1.trans (s2.trans ow2.sub)) np dz
      rcases ek with ⟨_, z⟩ | ⟨_, z⟩ <;> (rw [z]; simp)

end
end K55

namespace K55
open PySem PySem.Spec PyProof.Rows L2 Go Dt
set_option maxHeartbeats 8000000
local macro_rules | `(tactic| walk_at "ne") => `(tactic| first
  | assumption
  | (refine Ne.symm ?_; assumption)
  | exact (Go.free_upd (by assumption)).2
  | exact (Go.free_upd (by assumption)).2.symm
  | exact Go.ne_fr (by assumption) (by walk_at "hp")
  | exact (Go.ne_fr (by assumption) (by walk_at "hp")).symm)
local macro_rules | `(tactic| walk_at "fr") => `(tactic| first
  | assumption
  | exact (Go.free_upd (by assumption)).1
  | exact (Go.free_upd (Go.free_upd (by assumption)).1).1
  | exact Same.free (by assumption) (by walk_at "fr"))
local macro_rules | `(tactic| walk_at "hp") => `(tactic| first
  | assumption
  | with_reducible exact upd_same
  | ((with_reducible show upd _ _ _ _ = _); exact Go.at_upd (by walk_at "ne") (by walk_at "hp"))
  | exact (by assumption : Same _ _) _ _ (by walk_at "hp")
  | exact Dt.Own.at (by assumption) (List.mem_cons_self ..)
  | exact Dt.Own.at (by assumption) (List.mem_cons_of_mem _ (List.mem_cons_self ..))
  | exact Dt.Own.at (by assumption) (List.mem_cons_of_mem _ (List.mem_cons_of_mem _ (List.mem_cons_self ..)))
  | exact Dt.Ts.at (by assumption) (List.mem_cons_self ..)
  | exact Dt.Ts.at (by assumption) (List.mem_cons_of_mem _ (List.mem_cons_self ..))
  | exact Dt.Ds.at (by assumption) (List.mem_cons_self ..)
  | exact Dt.Ds.at (by assumption) (List.mem_cons_of_mem _ (List.mem_cons_self ..))
  | exact (Dt.Own.sub (by assumption)) _ _ (by walk_at "hp")
  | exact (Dt.TkS.sub (by assumption)) _ _ (by walk_at "hp")
  | exact (Dt.Ts.sub (by assumption)) _ _ (by walk_at "hp")
  | exact (Dt.DkS.sub (by assumption)) _ _ (by walk_at "hp")
  | exact (Dt.Ds.sub (by assumption)) _ _ (by walk_at "hp")
  | exact (by assumption : Go.Kp _ _ _) _ _ (by walk_at "ne") (by walk_at "hp")
  | exact (by assumption : Go.Kp2 _ _ _ _) _ _ (by walk_at "ne") (by walk_at "ne") (by walk_at "hp"))
local macro_rules | `(tactic| walk_at "sq") => `(tactic| first
  | assumption
  | ((with_reducible show SqL _ (upd _ _ _) _ _); exact (by assumption : ∀ o, SqL _ (upd _ _ o) _ _) _)
  | ((with_reducible show SqL _ _ _ _); exact SqL.of (by walk_at "hp"))
  | ((with_reducible show SqT _ _ _ _); exact SqT.of (by walk_at "hp"))
  | ((with_reducible show SqL _ (upd _ _ _) _ _); exact Go.sqL_new (by walk_at "fr") (by walk_at "sq"))
  | ((with_reducible show SqT _ (upd _ _ _) _ _); exact Go.sqT_new (by walk_at "fr") (by walk_at "sq"))
  | ((with_reducible show SqL _ (upd _ _ _) _ _); exact Go.sqL_ne (by walk_at "ne") (by walk_at "sq"))
  | ((with_reducible show SqL _ _ _ _); exact Go.sqL_same (by assumption) (by walk_at "sq"))
  | ((with_reducible show SqT _ _ _ _); exact Go.sqT_same (by assumption) (by walk_at "sq"))
  | ((with_reducible show SqL _ _ _ _); exact Go.sqL_same (Dt.Own.sub (by assumption)) (by walk_at "sq"))
  | ((with_reducible show SqT _ _ _ _); exact Go.sqT_same (Dt.Own.sub (by assumption)) (by walk_at "sq"))
  | ((with_reducible show SqL _ _ _ _); exact Go.sqL_same (Dt.TkS.sub (by assumption)) (by walk_at "sq"))
  | ((with_reducible show SqL _ _ _ _); exact Go.sqL_same (Dt.Ts.sub (by assumption)) (by walk_at "sq"))
  | ((with_reducible show SqT _ _ _ _); exact Go.sqT_same (Dt.TkS.sub (by assumption)) (by walk_at "sq"))
  | ((with_reducible show SqT _ _ _ _); exact Go.sqT_same (Dt.Ts.sub (by assumption)) (by walk_at "sq"))
  | ((with_reducible show SqL _ _ _ _); exact Go.sqL_same (Dt.DkS.sub (by assumption)) (by walk_at "sq"))
  | ((with_reducible show SqL _ _ _ _); exact Go.sqL_same (Dt.Ds.sub (by assumption)) (by walk_at "sq"))
  | ((with_reducible show SqT _ _ _ _); exact Go.sqT_same (Dt.DkS.sub (by assumption)) (by walk_at "sq"))
  | ((with_reducible show SqT _ _ _ _); exact Go.sqT_same (Dt.Ds.sub (by assumption)) (by walk_at "sq"))
  | ((with_reducible show SqL _ _ _ _); exact Go.sqL_kp (by assumption) (by walk_at "ne") (by walk_at "sq"))
  | ((with_reducible show SqT _ _ _ _); exact Go.sqT_kp (by assumption) (by walk_at "ne") (by walk_at "sq")))
local macro_rules | `(tactic| walk_at "dp") => `(tactic| first
  | assumption
  | with_reducible exact L2.Dp.int _
  | with_reducible exact L2.Dp.str _
  | with_reducible exact L2.Dp.non
  | with_reducible exact L2.Dp.bl _
  | with_reducible exact L2.DpAll.nil
  | ((with_reducible show L2.Dp _ _ _ _); exact Dt.Dp.same (by assumption) (by walk_at "dp"))
  | ((with_reducible show L2.DpAll _ _ _ _); exact Dt.DpAll.same (by assumption) (by walk_at "dp"))
  | ((with_reducible show L2.Dp _ _ _ _); exact Dt.Dp.same (Dt.Own.sub (by assumption)) (by walk_at "dp"))
  | ((with_reducible show L2.DpAll _ _ _ _); exact Dt.DpAll.same (Dt.Own.sub (by assumption)) (by walk_at "dp"))
  | ((with_reducible show L2.Dp _ _ _ _); exact Dt.Dp.same (Dt.TkS.sub (by assumption)) (by walk_at "dp"))
  | ((with_reducible show L2.Dp _ _ _ _); exact Dt.Dp.same (Dt.Ts.sub (by assumption)) (by walk_at "dp"))
  | ((with_reducible show L2.DpAll _ _ _ _); exact Dt.DpAll.same (Dt.TkS.sub (by assumption)) (by walk_at "dp"))
  | ((with_reducible show L2.DpAll _ _ _ _); exact Dt.DpAll.same (Dt.Ts.sub (by assumption)) (by walk_at "dp"))
  | ((with_reducible show L2.Dp _ _ _ _); exact Dt.Dp.same (Dt.DkS.sub (by assumption)) (by walk_at "dp"))
  | ((with_reducible show L2.Dp _ _ _ _); exact Dt.Dp.same (Dt.Ds.sub (by assumption)) (by walk_at "dp"))
  | ((with_reducible show L2.DpAll _ _ _ _); exact Dt.DpAll.same (Dt.DkS.sub (by assumption)) (by walk_at "dp"))
  | ((with_reducible show L2.DpAll _ _ _ _); exact Dt.DpAll.same (Dt.Ds.sub (by assumption)) (by walk_at "dp"))
  | ((with_reducible show L2.Dp _ _ _ _); exact L2.Dp.tup (by walk_at "sq") (by walk_at "dp"))
  | ((with_reducible show L2.Dp _ _ _ _); exact L2.Dp.lst (by walk_at "sq") (by walk_at "dp"))
  | with_reducible exact L2.DpAll.cons (by walk_at "dp") (by walk_at "dp")
  | ((with_reducible show Dt.Scr _ _ _); exact Dt.Scr.same (by assumption) (by walk_at "dp"))
  | exact Dt.dpAll_ints.mpr rfl
  | exact Dt.dpAll_strs.mpr rfl
  | exact Dt.dpAll_bools.mpr rfl)
local macro_rules | `(tactic| walk_at "ci") => `(tactic| first
  | exact .inr ⟨by decide, by decide⟩
  | exact .inl ⟨by decide, by decide⟩
  | exact ⟨by decide, by decide, by decide⟩
  | decide
  | omega
  | exact ⟨by omega, by omega⟩
  | exact .inl ⟨by omega, by omega⟩
  | exact .inr ⟨by omega, by omega⟩)
local macro_rules | `(tactic| walk_at "g0") => `(tactic| first
  | with_reducible refine Go.g_seq ?_
  | ((with_reducible show tVar _ _ _ _); refine ⟨_, rfl, ?_⟩)
  | with_reducible refine Go.g_c ?_
  | with_reducible refine Go.g_op ?_
  | with_reducible refine Go.g_asg ?_
  | with_reducible refine Go.g_name ?_
  | with_reducible refine Go.g_cons ?_
  | with_reducible refine Dt.g_orV ?_
  | with_reducible refine Dt.g_andV ?_
  | with_reducible refine Dt.g_notV ?_
  | with_reducible refine Dt.g_lst2 ?_
  | with_reducible refine Dt.g_tup2 ?_
  | with_reducible refine Go.g_for ?_
  | with_reducible refine Go.g_rng1 ?_
  | with_reducible refine Go.g_rng2 ?_
  | with_reducible refine Go.g_rng3 ?_
  | with_reducible refine Go.g_list ?_
  | with_reducible refine Go.g_itup ?_
  | with_reducible refine Go.g_enum ?_
  | ((with_reducible show tPar _ _ _ _ _ _); unfold tPar)
  | ((with_reducible show ∃ v w, [_, _] = [v, w] ∧ _); refine ⟨_, _, rfl, ?_⟩)
  | with_reducible refine Go.g_zip ?_
  | with_reducible refine Go.g_augS ?_
  | with_reducible refine Go.g_lc ?_
  | with_reducible refine Go.g_nil ?_
  | with_reducible refine Go.g_cb ?_
  | with_reducible refine Go.g_call ?_
  | with_reducible refine Go.g_ret ?_
  | with_reducible refine Go.g_next ?_
  | with_reducible refine Go.g_drop ?_
  | with_reducible refine Go.g_un ?_
  | with_reducible refine Go.g_test ?_
  | with_reducible refine Go.g_tB ?_
  | with_reducible refine Go.g_ifs ?_
  | with_reducible refine Go.g_if ?_
  | with_reducible refine Go.g_and ?_
  | with_reducible refine Go.g_or ?_
  | with_reducible refine Go.g_not ?_
  | with_reducible refine Go.g_sl ?_
  | with_reducible refine Go.g_nopart ?_
  | with_reducible refine Go.g_part ?_
  | ((with_reducible show ∃ k, V.bl _ = V.bl k ∧ _); refine ⟨_, rfl, ?_⟩)
  | ((with_reducible show ∃ k, V.int _ = V.int k ∧ _); refine ⟨_, rfl, ?_⟩)
  | with_reducible refine Go.g_bm ?_
  | with_reducible refine Go.g_yes ?_
  | ((with_reducible show rI0 _ _ _ _ _); refine ⟨_, _, rfl, rfl, ?_⟩)
  | ((with_reducible show rI _ _ _ _ _ _); refine ⟨_, _, rfl, rfl, ?_, ?_⟩; (focus walk_at "ci"))
  | ((with_reducible show rU _ _ _ _); refine ⟨_, rfl, ?_⟩)
  | ((with_reducible show V.non = V.non ∧ _); refine ⟨rfl, ?_⟩)
  | ((with_reducible show rIsB _ _ _ _); refine ⟨_, _, rfl, rfl, ?_⟩)
  | ((with_reducible show rNotB _ _ _ _); refine ⟨_, _, rfl, rfl, ?_⟩)
  | ((with_reducible show rEq _ _ _ _); refine ⟨rfl, ?_⟩)
  | ((with_reducible show rNe _ _ _ _); refine ⟨rfl, ?_⟩)
  | ((with_reducible show rIxL _ _ _ _ _); refine Go.g_ixL (by walk_at "sq") (by rfl) ?_)
  | ((with_reducible show rIxT _ _ _ _ _); refine Go.g_ixT (by walk_at "sq") (by rfl) ?_)
  | ((with_reducible show rSetL _ _ _ _ _); refine Go.g_setL (by walk_at "hp") (by rfl) ?_)
  | ((with_reducible show ∃ p ys, [V.ref _] = [V.ref p] ∧ (SqL _ _ _ _ ∨ SqT _ _ _ _) ∧ _); refine ⟨_, _, rfl, .inl (by walk_at "sq"), ?_⟩)
  | ((with_reducible show (∃ i, [V.int _] = [V.int i] ∧ _) ∨ _); refine .inl ⟨_, rfl, ?_⟩)
  | ((with_reducible show ∃ (c : Nat) (z : Str), V.str _ = V.str ⟨#[c]⟩ ∧ V.str _ = V.str z ∧ _); refine ⟨_, _, rfl, rfl, ?_⟩)
  | ((with_reducible show ∃ x : Str, [V.str _] = [V.str x] ∧ Str.length x = 1 ∧ _); refine ⟨_, rfl, rfl, ?_⟩)
  | ((with_reducible show ∃ z : Str, [V.str _] = [V.str z] ∧ Str.length z ≤ sizeLine ∧ _); refine ⟨_, rfl, by assumption, ?_⟩)
  | ((with_reducible show rSlS _ _ _ _ _); refine ⟨_, rfl, by assumption, ?_⟩)
  | ((with_reducible show gTup _ _ _ _ _ _ _); refine Go.g_gtup (by walk_at "sq") (by rfl) ?_)
  | ((with_reducible show gCons _ _ _ _ _ _); refine ⟨_, _, rfl, ?_⟩)
  | ((with_reducible show gNil _ _ _ _); refine ⟨rfl, ?_⟩)
  | ((with_reducible show rLenS _ _ _ _); refine Go.g_lenL (by walk_at "sq") ?_)
  | ((with_reducible show rListOf _ _ _ _); refine Go.g_listL (by walk_at "sq") ?_)
  | ((with_reducible show Dt.rList2 _ _ _ _); refine ⟨_, _, rfl, .inl (by walk_at "sq"), ?_⟩)
  | ((with_reducible show Dt.rTuple2 _ _ _ _); refine ⟨_, _, rfl, by walk_at "sq", ?_⟩)
  | ((with_reducible show Dt.rSlL2 _ _ _ _ _ _); refine ⟨_, _, rfl, by walk_at "sq", ?_⟩)
  | ((with_reducible show wipe _ _ = wipe _ _ ∧ _); refine ⟨rfl, ?_⟩)
  | ((with_reducible show if true = true then _ else _); refine iteT ?_)
  | ((with_reducible show if false = true then _ else _); refine iteF ?_)
  | ((with_reducible show ∃ a b xs ys, [V.ref _, V.ref _] = [V.ref a, V.ref b] ∧ SqL _ _ a xs ∧ SqL _ _ b ys ∧ _); refine ⟨_, _, _, _, rfl, by walk_at "sq", by walk_at "sq", ?_⟩)
  | ((with_reducible show ∃ a xs, [V.ref _] = [V.ref a] ∧ SqL _ _ a xs ∧ _); refine ⟨_, _, rfl, by walk_at "sq", ?_⟩)
  | ((with_reducible show ∃ a, V.ref _ = V.ref a ∧ (∃ xs, SqL _ _ a xs) ∧ _); refine ⟨_, rfl, ⟨_, by walk_at "sq"⟩, ?_⟩)
  | ((with_reducible show ∃ a, V.ref _ = V.ref a ∧ (∃ xs, SqT _ _ a xs) ∧ _); refine ⟨_, rfl, ⟨_, by walk_at "sq"⟩, ?_⟩)
  | ((with_reducible show ∃ j : Int, [V.int _] = [V.int j] ∧ _ ≤ j ∧ j < _ ∧ _); refine ⟨_, rfl, by omega, by omega, ?_⟩)
  | ((with_reducible show ∃ i j : Int, [V.int _, V.int _] = [V.int i, V.int j] ∧ (_ ≤ i ∧ i < _ ∧ _ ≤ j ∧ j < _) ∧ _); refine ⟨_, _, rfl, ⟨by omega, by omega, by omega, by omega⟩, ?_⟩)
  | ((with_reducible show ∃ i j : Int, [V.int _, V.int _] = [V.int i, V.int j] ∧ _); refine ⟨_, _, rfl, ?_⟩)
  | ((with_reducible show ∃ i : Int, [V.int _] = [V.int i] ∧ _); refine ⟨_, rfl, ?_⟩)
  | ((with_reducible show _ ≤ sizeLine ∧ _); refine ⟨by first | decide | (simp only [List.length_cons, List.length_nil]; decide), ?_⟩))
local macro_rules | `(tactic| walk_at "g1") => `(tactic| first | walk_at "g0" | with_reducible refine Go.g_sub ?_)
local macro_rules | `(tactic| walk_at "g") => `(tactic| repeat walk_at "g1")
local macro_rules | `(tactic| walk_at "v") => `(tactic| repeat walk_at "g0")
local macro_rules | `(tactic| walk_at "if") => `(tactic| first
  | with_reducible refine @Go.g_itd _ _ _ _ ?_ ?_
  | with_reducible refine @Go.g_itnd _ _ _ _ ?_ ?_
  | with_reducible refine Go.g_ite ?_ ?_)

section
variable {P : Program} {w : World} {K : PySem.W.Frag} {mg : Str → Option Value} {base : Heap}
def enc2 : Int × Int → PyData := fun r => .tuple [.int r.1, .int r.2]
def restL (A : Int) (w : List Int) : List (Int × Int) := (List.range w.length).map fun i => (-(rest A w i), (i : Int))
theorem ord_of (A : Int) (w : List Int) : Ord A w (((restL A w).mergeSort (PySem.W.dataLe false enc2)).map fun r => r.2.toNat) ∧ ∀ r ∈ (restL A w).mergeSort (PySem.W.dataLe false enc2), ∃ i, i < w.length ∧ r = (-(rest A w i), (i : Int)) := by
  have hm : ∀ r ∈ (restL A w).mergeSort (PySem.W.dataLe false enc2), ∃ i, i < w.length ∧ r = (-(rest A w i), (i : Int)) := by
    intro r hr
    have hr := (List.mergeSort_perm _ _).mem_iff.mp hr
    obtain ⟨i, hi, rfl⟩ := List.mem_map.mp hr
    exact ⟨i, List.mem_range.mp hi, rfl⟩
  have hp : (((restL A w).mergeSort (PySem.W.dataLe false enc2)).map fun r => r.2.toNat).Perm (List.range w.length) := by
    have h := (List.mergeSort_perm (restL A w) (PySem.W.dataLe false enc2)).map fun r => r.2.toNat
    have e : (restL A w).map (fun r => r.2.toNat) = List.range w.length := by
      unfold restL
      rw [List.map_map]
      exact (List.map_congr_left fun i _ => Int.toNat_natCast i).trans (List.map_id _)
    rw [e] at h
    exact h
  refine ⟨⟨hp, ?_⟩, hm⟩
  have nd := hp.nodup_iff.mpr List.nodup_range
  have eo : (PySem.W.dataLe false enc2) = fun p q : Int × Int => decide (p.1 < q.1 ∨ (p.1 = q.1 ∧ p.2 ≤ q.2)) := PySem.W.dataLe_ii (fun r : Int × Int => r.1) (fun r : Int × Int => r.2)
  have srt : ((restL A w).mergeSort (PySem.W.dataLe false enc2)).Pairwise (fun a b => (PySem.W.dataLe false enc2) a b = true) := by
    rw [eo]
    refine List.pairwise_mergeSort (fun a b c h1 h2 => ?_) (fun a b => ?_) _
    · have h1 := of_decide_eq_true h1
      have h2 := of_decide_eq_true h2
      exact decide_eq_true (by omega)
    · rw [Bool.or_eq_true]
      by_cases h : a.1 < b.1 ∨ (a.1 = b.1 ∧ a.2 ≤ b.2)
      · exact .inl (decide_eq_true h)
      · exact .inr (decide_eq_true (by omega))
  rw [List.pairwise_map]
  have nd' := List.pairwise_map.mp nd
  refine (srt.and nd').imp_of_mem fun {a b} ha hb hab => ?_
  obtain ⟨i, hi, rfl⟩ := hm a ha
  obtain ⟨j, hj, rfl⟩ := hm b hb
  have h1 := hab.1
  have h2 : ((i : Int)).toNat ≠ ((j : Int)).toNat := hab.2
  rw [eo] at h1
  have h1 := of_decide_eq_true h1
  have h1 : -(rest A w i) < -(rest A w j) ∨ (-(rest A w i) = -(rest A w j) ∧ (i : Int) ≤ (j : Int)) := h1
  show rest A w ((j : Int).toNat) < rest A w ((i : Int).toNat) ∨ (rest A w ((j : Int).toNat) = rest A w ((i : Int).toNat) ∧ (i : Int).toNat < (j : Int).toNat)
  rw [Int.toNat_natCast, Int.toNat_natCast] at *
  omega
def sp__law_ways (K : PySem.W.Frag) : Sp := sp_ways K
theorem most_eq (cents : Int) (rows : List (Str × Int)) (h : ∀ r ∈ rows, 0 ≤ cents * r.2) : (rows.filter fun r => decide (100 ≤ cents * r.2)).map (fun r => (r.1, cents * r.2 / 100)) = (rows.map fun r => (r.1, cents * r.2 / 100)).filter fun r => decide (0 < r.2) := by
  rw [List.filter_map]
  congr 1
  refine List.filter_congr fun r hr => ?_
  show _ = decide (0 < cents * r.2 / 100)
  refine decide_eq_decide.mpr ?_
  have := h r hr
  omega
theorem ok__law_ways (T : Txt K mg) : FnOk P w K mg base CX0 1 T.a__law_ways T.fd__law_ways ["cents", "form"] (sp__law_ways K) := by
  refine T.F__law_ways.ok sc__law_ways (fun vs H Q E h => ?_) (fun cdv A outer s H vs Q E hr h => ?_)
  · obtain ⟨cents, v, f, rfl, _⟩ := h; rfl
  · obtain ⟨cents, v, f, rfl, hf, ok, h1, h2, q0, q⟩ := h
    refine ⟨_, pss_cons (ps_if (pt_cmpR op_eq (pe_ix ix_tup (pv 1) pe_int (fun _ _ => rfl)) pe_str (nomark _))
        (pss_one (ps_ret pe_non))
        (pss_nil))
      (pss_cons (ps_if (pt_cmpR op_eq (pe_ix ix_tup (pv 1) pe_int (fun _ _ => rfl)) pe_str (nomark _))
        (pss_one (ps_ret (pe_callB (cr_sortedQ hr.units) (by rfl) T.n_sorted (by decide +kernel) (pa_cons (pe_lc (own := [("purpose", 2)]) (g := gName 2) (by rfl) sc__law_ways.nd (pi_tup (pe_ix ix_tup (pv 1) pe_int (fun _ _ => rfl))) (blkOk_by (own := [("purpose", 2)]) (N := ["cents", "form", "purpose", "row", "parts", "rests", "k"]) (sc := defScope s__law_ways) (by decide +kernel)) (fun _ _ _ _ _ => pg_name (i := 2) sc__law_ways.nd rfl (by first | exact Or.inl rfl | exact Or.inr rfl)) (fun _ _ _ _ _ => pts_nil) (fun _ _ _ _ _ => (pe_tup (pa_cons (pv 2) (pa_cons (pv 0) pa_nil))))) pa_nil))))
        (pss_nil))
      (pss_cons (ps_if (pt_cmpR op_eq (pe_ix ix_tup (pv 1) pe_int (fun _ _ => rfl)) pe_str (nomark _))
        (pss_one (ps_ret (pe_callB (cr_sortedQ hr.units) (by rfl) T.n_sorted (by decide +kernel) (pa_cons (pe_lc (own := [("row", 3)]) (g := gName 3) (by rfl) sc__law_ways.nd (pi_tup (pe_ix ix_tup (pv 1) pe_int (fun _ _ => rfl))) (blkOk_by (own := [("row", 3)]) (N := ["cents", "form", "purpose", "row", "parts", "rests", "k"]) (sc := defScope s__law_ways) (by decide +kernel)) (fun _ _ _ _ _ => pg_name (i := 3) sc__law_ways.nd rfl (by first | exact Or.inl rfl | exact Or.inr rfl)) (fun _ _ _ _ _ => pts_one (pt_cmpR op_ge (pe_op op_mul (pv 0) (pe_ix (r := rIxT K) ix_tup (pv 3) pe_int (fun _ _ => rfl))) pe_int (nomark _))) (fun _ _ _ _ _ => (pe_tup (pa_cons (pe_ix (r := rIxT K) ix_tup (pv 3) pe_int (fun _ _ => rfl)) (pa_cons (pe_op op_fdiv (pe_op op_mul (pv 0) (pe_ix (r := rIxT K) ix_tup (pv 3) pe_int (fun _ _ => rfl))) pe_int) pa_nil))))) pa_nil))))
        (pss_nil))
      (pss_cons (ps_set (i := 4) sc__law_ways.nd rfl (.inr rfl) (pe_lc (own := [("row", 3)]) (g := gName 3) (by rfl) sc__law_ways.nd (pi_tup (pe_ix ix_tup (pv 1) pe_int (fun _ _ => rfl))) (blkOk_by (own := [("row", 3)]) (N := ["cents", "form", "purpose", "row", "parts", "rests", "k"]) (sc := defScope s__law_ways) (by decide +kernel)) (fun _ _ _ _ _ => pg_name (i := 3) sc__law_ways.nd rfl (by first | exact Or.inl rfl | exact Or.inr rfl)) (fun _ _ _ _ _ => pts_nil) (fun _ _ _ _ _ => (pe_op op_fdiv (pe_op op_mul (pv 0) (pe_ix (r := rIxT K) ix_tup (pv 3) pe_int (fun _ _ => rfl))) pe_int))))
      (pss_cons (ps_set (i := 5) sc__law_ways.nd rfl (.inl rfl) (pe_callB (cr_sortedQ hr.units) (by rfl) T.n_sorted (by decide +kernel) (pa_cons (pe_lc (own := [("k", 6)]) (g := gName 6) (by rfl) sc__law_ways.nd (pi_range1 (by rfl) T.n_range (pa_cons (pe_callB call_lenS (by rfl) T.n_len PySem.boot_len (pa_cons (pv 4) pa_nil)) pa_nil)) (blkOk_by (own := [("k", 6)]) (N := ["cents", "form", "purpose", "row", "parts", "rests", "k"]) (sc := defScope s__law_ways) (by decide +kernel)) (fun _ _ _ _ _ => pg_name (i := 6) sc__law_ways.nd rfl (by first | exact Or.inl rfl | exact Or.inr rfl)) (fun _ _ _ _ _ => pts_nil) (fun _ _ _ _ _ => (pe_tup (pa_cons (pe_op op_sub pe_int (pe_op op_sub (pe_op op_mul (pv 0) (pe_ix (r := rIxT K) ix_tup (pe_ix (r := rIxT K) ix_tup (pe_ix (r := rIxT K) ix_tup (pv 1) pe_int (fun _ _ => rfl)) (pv 6) (fun _ _ => rfl)) pe_int (fun _ _ => rfl))) (pe_op op_mul pe_int (pe_ix (r := rIxL K) ix_list (pv 4) (pv 6) (fun _ _ => rfl))))) (pa_cons (pv 6) pa_nil))))) pa_nil)))
      (pss_cons (ps_for PassesOwn.never rfl (pi_list (pe_slice sl_list2 (pv 5) po_none (po_some (pe_op op_sub (pv 0) (pe_callB (cr_sum rfl) (by rfl) T.n_sum (by decide +kernel) (pa_cons (pv 4) pa_nil)))))) (pg_name (i := 3) sc__law_ways.nd rfl (.inl rfl))
        (pss_one (ps_asg (pe_op op_add (pe_ix ix_list (pv 4) (pe_ix ix_tup (pv 3) pe_int (fun _ _ => rfl)) (fun _ _ => rfl)) pe_int) (pg_sub (pv 4) (pe_ix ix_tup (pv 3) pe_int (fun _ _ => rfl)) set_list))))
      (pss_one (ps_ret (pe_callB (cr_sortedQ hr.units) (by rfl) T.n_sorted (by decide +kernel) (pa_cons (pe_lc (own := [("k", 6)]) (g := gName 6) (by rfl) sc__law_ways.nd (pi_range1 (by rfl) T.n_range (pa_cons (pe_callB call_lenS (by rfl) T.n_len PySem.boot_len (pa_cons (pv 4) pa_nil)) pa_nil)) (blkOk_by (own := [("k", 6)]) (N := ["cents", "form", "purpose", "row", "parts", "rests", "k"]) (sc := defScope s__law_ways) (by decide +kernel)) (fun _ _ _ _ _ => pg_name (i := 6) sc__law_ways.nd rfl (by first | exact Or.inl rfl | exact Or.inr rfl)) (fun _ _ _ _ _ => pts_one (pt_cmpR op_gt (pe_ix (r := rIxL K) ix_list (pv 4) (pv 6) (fun _ _ => rfl)) pe_int (nomark _))) (fun _ _ _ _ _ => (pe_tup (pa_cons (pe_ix (r := rIxT K) ix_tup (pe_ix (r := rIxT K) ix_tup (pe_ix (r := rIxT K) ix_tup (pv 1) pe_int (fun _ _ => rfl)) (pv 6) (fun _ _ => rfl)) pe_int (fun _ _ => rfl)) (pa_cons (pe_ix (r := rIxL K) ix_list (pv 4) (pv 6) (fun _ _ => rfl)) pa_nil))))) pa_nil))))))))), ?_⟩
    cases f with
    | any =>
      unfold Form.py at hf
      obtain ⟨t, zs_t, rfl, q_t, l0_t⟩ := Dt.dp_tup.mp hf
      obtain ⟨x0_t, r0_t, rfl, e0_t, l1_t⟩ := Dt.dpAll_cons.mp l0_t; rw [Dt.dp_str] at e0_t; subst e0_t
      rw [Dt.dpAll_nil] at l1_t; subst l1_t
      clear l0_t
      walk_at "g"
      walk_at "if" <;> intro e
      · walk_at "g"
        exact q0 rfl
      · exact absurd rfl e
    | for_ row =>
      unfold Form.py at hf
      obtain ⟨t, zs_t, rfl, q_t, l0_t⟩ := Dt.dp_tup.mp hf
      obtain ⟨x0_t, r0_t, rfl, e0_t, l1_t⟩ := Dt.dpAll_cons.mp l0_t; rw [Dt.dp_str] at e0_t; subst e0_t
      obtain ⟨x1, r1_t, rfl, d_x1, l2_t⟩ := Dt.dpAll_cons.mp l1_t
      rw [Dt.dpAll_nil] at l2_t; subst l2_t
      clear l0_t l1_t
      obtain ⟨u, zs, rfl, h9, h10⟩ := dp_tup.mp d_x1
      walk_at "g"
      walk_at "if" <;> intro e
      · exact absurd e (by decide)
      clear e
      walk_at "g"
      walk_at "if" <;> intro e
      · walk_at "g"
        intro D nD
        refine lcF (src_tup row PyData.str) encP (fun i => (row.getD i "", cents)) (Own.nil H) ⟨_, h9, h10⟩ nD (sz5 (by have : row.length ≤ 4 := ok; omega)) ?_ ?_
        · rintro j x ys G1 H2 R Z hj s2 ow2 ⟨hj', dx⟩ hR
          rw [dp_str] at dx; subst dx
          rw [List.getD_eq_getElem?_getD, List.getElem?_eq_getElem hj'] at hR
          walk_at "g"
          refine Dt.NewAt.ow (by assumption) fun t2 G3 H3 ow3 s3 att2 nt2 => ?_
          exact hR _ _ _ ow3 s3 (Dp.tup (SqT.of att2) (.cons (.str _) (.cons (.int _) .nil)))
        intro G1 H1 ys s1 ow1 d1
        rw [range_map_get row (fun s => (s, cents)) ""] at d1
        walk_at "g"
        obtain ⟨a1, a2, a3⟩ := srt_P (X := row.map fun s => (s, cents))
        refine ⟨D, ys, _, _, encP, _, rfl, by walk_at "sq", Same.refl _, by walk_at "dp", a1, a2, a3, fun zs dz => ?_⟩
        refine NewAt.owc (Own.nil H1) fun p H9 w9 np => ?_
        rw [w9.eq]
        walk_at "g"
        exact q H1 p zs (by simp) (s1.trans ow1.sub) np dz
      · exact absurd rfl e
    | most rows =>
      have lr := ok.2.1
      unfold Form.py at hf
      obtain ⟨t, zs_t, rfl, q_t, l0_t⟩ := Dt.dp_tup.mp hf
      obtain ⟨x0_t, r0_t, rfl, e0_t, l1_t⟩ := Dt.dpAll_cons.mp l0_t; rw [Dt.dp_str] at e0_t; subst e0_t
      obtain ⟨x1, r1_t, rfl, d_x1, l2_t⟩ := Dt.dpAll_cons.mp l1_t
      rw [Dt.dpAll_nil] at l2_t; subst l2_t
      clear l0_t l1_t
      obtain ⟨u, zs, rfl, h9, h10⟩ := dp_tup.mp d_x1
      walk_at "g"
      walk_at "if" <;> intro e
      · exact absurd e (by decide)
      clear e
      walk_at "g"
      walk_at "if" <;> intro e
      · exact absurd e (by decide)
      clear e
      walk_at "g"
      walk_at "if" <;> intro e
      · walk_at "g"
        intro D nD
        refine lcP (src_tup rows encP) encP (fun i => decide (100 ≤ cents * (rows.getD i ("", 0)).2)) (fun i => ((rows.getD i ("", 0)).1, cents * (rows.getD i ("", 0)).2 / 100)) (Own.nil H) ⟨_, h9, h10⟩ nD (sz5 (by omega)) ?_ ?_
        · rintro j x ys G1 H2 R Z hj s2 ow2 ⟨hj', dx⟩ hR hZ
          obtain ⟨t2, rfl, ht2⟩ := dp_P dx
          rw [List.getD_eq_getElem?_getD, List.getElem?_eq_getElem hj'] at hR hZ
          have b1 := (ok.2.2 _ (List.getElem_mem hj')).1
          have b2 := (ok.2.2 _ (List.getElem_mem hj')).2
          walk_at "g"
          walk_at "if" <;> intro e
          · walk_at "g"
            refine Dt.NewAt.ow (by assumption) fun t3 G3 H3 ow3 s3 att3 nt3 => ?_
            exact hR (decide_eq_true e) _ _ _ ow3 s3 (Dp.tup (SqT.of att3) (.cons (.str _) (.cons (.int _) .nil)))
          · exact hZ (decide_eq_false e) _ _ ow2 (Same.refl _)
        intro G1 H1 ys s1 ow1 d1
        rw [range_filter_get rows (fun r => decide (100 ≤ cents * r.2)) (fun r => (r.1, cents * r.2 / 100)) ("", 0), most_eq cents rows (fun r hr => Int.mul_nonneg (by omega) (by have := (ok.2.2 r hr).1; omega))] at d1
        walk_at "g"
        obtain ⟨a1, a2, a3⟩ := srt_P (X := raw cents (.most rows))
        refine ⟨D, ys, _, raw cents (.most rows), encP, _, rfl, by walk_at "sq", Same.refl _, DpAll.same ow1.sub d1, a1, a2, a3, fun zs dz => ?_⟩
        refine NewAt.owc (Own.nil H1) fun p H9 w9 np => ?_
        rw [w9.eq]
        walk_at "g"
        exact q H1 p zs (by simp) (s1.trans ow1.sub) np dz
      · exact absurd rfl e
    | shares rows =>
      obtain ⟨ok, s100⟩ := ok
      have lr := ok.2.1
      have W := rows_sum ok h1 h2
      unfold Form.py at hf
      obtain ⟨t, zs_t, rfl, q_t, l0_t⟩ := Dt.dp_tup.mp hf
      obtain ⟨x0_t, r0_t, rfl, e0_t, l1_t⟩ := Dt.dpAll_cons.mp l0_t; rw [Dt.dp_str] at e0_t; subst e0_t
      obtain ⟨x1, r1_t, rfl, d_x1, l2_t⟩ := Dt.dpAll_cons.mp l1_t
      rw [Dt.dpAll_nil] at l2_t; subst l2_t
      clear l0_t l1_t
      obtain ⟨u, zs, rfl, h9, h10⟩ := dp_tup.mp d_x1
      walk_at "g"
      walk_at "if" <;> intro e
      · exact absurd e (by decide)
      clear e
      walk_at "g"
      walk_at "if" <;> intro e
      · exact absurd e (by decide)
      clear e
      walk_at "g"
      walk_at "if" <;> intro e
      · exact absurd e (by decide)
      clear e
      generalize ew : rows.map (·.2) = w at W s100
      have lw : w.length = rows.length := by rw [← ew, List.length_map]
      obtain ⟨T0, T1⟩ := W.sum
      walk_at "g"
      intro pa npa
      refine lcF (src_tup rows encP) PyData.int (fun i => cents * (rows.getD i ("", 0)).2 / 100) (Own.nil H) ⟨_, h9, h10⟩ npa (sz5 (by omega)) ?_ ?_
      · rintro j x ys G1 H2 R Z hj s2 ow2 ⟨hj', dx⟩ hR
        obtain ⟨t2, rfl, ht2⟩ := dp_P dx
        rw [List.getD_eq_getElem?_getD, List.getElem?_eq_getElem hj'] at hR
        have b1 := (ok.2.2 _ (List.getElem_mem hj')).1
        have b2 := (ok.2.2 _ (List.getElem_mem hj')).2
        walk_at "g"
        exact hR _ _ _ ow2 (Same.refl _) (.int _)
      intro G1 H1 ys s1 ow1 d1
      have eW : (List.range rows.length).map (fun i => cents * (rows.getD i ("", 0)).2 / 100) = whole cents w := by
        rw [range_map_get rows (fun r => cents * r.2 / 100) ("", 0)]
        unfold whole
        rw [s100, ← ew, List.map_map]; rfl
      rw [eW, dpAll_ints] at d1
      subst d1
      have lW : (whole cents w).length = w.length := by unfold whole; rw [List.length_map]
      have lWm : ((whole cents w).map V.int).length = w.length := by rw [List.length_map, lW]
      have e1 := ow1.at (List.mem_cons_self ..)
      have lb := left_bound (A := cents) (w := w) T0 W.l1
      walk_at "g"
      intro D nD
      refine lcF (src_range (K := K)) enc2 (fun i => (-(rest cents w i), (i : Int))) ow1 trivial nD (sz5 (by omega)) ?_ ?_
      · rintro j x ys G2 H2 R Z hj s2 ow2 ⟨hj', rfl⟩ hR
        have hjr : j < rows.length := by omega
        have b1 := (ok.2.2 _ (List.getElem_mem hjr)).1
        have b2 := (ok.2.2 _ (List.getElem_mem hjr)).2
        walk_at "g"
        obtain ⟨r, er, hr'⟩ := at_P (i := 0 + (j : Int)) h10 (by omega) hjr
        refine g_ixT (by walk_at "sq") er ?_
        walk_at "g"
        have eP := ow2.at (List.mem_cons_of_mem _ (List.mem_cons_self ..))
        refine g_ixL (SqL.of eP) (at0_at (k := j) (by omega) (by omega)) ?_
        have q0 : at0 w j = rows[j].2 := by rw [at0_get (by omega)]; simp only [← ew, List.getElem_map]
        have q1 : at0 (whole cents w) j = cents * rows[j].2 / 100 := by
          unfold whole
          rw [at0_map (by omega), q0, s100]
        rw [q1]
        have b3 : 0 ≤ cents * rows[j].2 / 100 ∧ cents * rows[j].2 / 100 ≤ 999999999 := by
          have c1 : 0 ≤ cents * rows[j].2 := Int.mul_nonneg (by omega) (by omega)
          have c2 : cents * rows[j].2 ≤ 999999999 * 100 := Int.mul_le_mul h2 b2 (by omega) (by omega)
          omega
        walk_at "g"
        refine Dt.NewAt.ow (by assumption) fun t3 G3 H3 ow3 s3 att3 nt3 => ?_
        have q2 : (0 : Int) - (cents * rows[j].2 - 100 * (cents * rows[j].2 / 100)) = -(rest cents w j) := by
          unfold rest
          rw [q0, s100]; omega
        refine hR _ _ _ ow3 s3 (Dp.tup (SqT.of att3) ?_)
        show DpAll K G3 [.int ((0 : Int) - (cents * rows[j].2 - 100 * (cents * rows[j].2 / 100))), .int ((0 : Int) + (j : Int))] _
        rw [q2, Int.zero_add]
        exact .cons (.int _) (.cons (.int _) .nil)
      intro G2 H2 zs2 s2 ow2 d2
      have en0 : Int.toNat (((whole cents w).map V.int).length : Int) = w.length := by omega
      rw [en0] at d2
      change DpAll K G2 zs2 ((restL cents w).map enc2) at d2
      walk_at "g"
      refine ⟨D, zs2, _, restL cents w, enc2, G2, rfl, by walk_at "sq", ow2.sub, d2, PySem.W.AllAlike.of (fun a b => by simp [enc2, PySem.W.alike, PySem.W.alikeAll]), PySem.W.Sortable.tuples (fun b => ⟨_, _, rfl⟩), (fun b _ => by simp [enc2, PyData.depth, PyData.depthAll]), fun zs3 d3 => ?_⟩
      obtain ⟨O, om⟩ := ord_of cents w
      generalize (restL cents w).mergeSort (PySem.W.dataLe false enc2) = Ls at O om d3
      have lL : Ls.length = w.length := by have := O.len; rw [List.length_map] at this; exact this
      refine Dt.NewAt.ow (by assumption) fun S3 G3 H3 ow3 s3 atS3 nS3 => ?_
      have eP := ow3.at (List.mem_cons_of_mem _ (List.mem_cons_self ..))
      obtain ⟨n, en⟩ : ∃ n : Nat, (n : Int) = cents - (whole cents w).sum := ⟨(cents - (whole cents w).sum).toNat, by omega⟩
      have ln : n < w.length := by omega
      walk_at "g"
      refine ⟨pa, whole cents w, rfl, SqL.of eP, ?_⟩
      walk_at "g"
      have lz := DpAll.length d3
      rw [List.length_map] at lz
      have ecut : cutV zs3 none (some (cents - (whole cents w).sum)) = zs3.take n := by
        unfold cutV
        rw [← en, HT.sIx_nat, HT.sIx_none, List.drop_zero, Nat.sub_zero, Nat.min_eq_left (by omega)]
      rw [ecut]
      refine Dt.NewAt.ow (by assumption) fun S4 G4 H4 ow4 s4 atS4 nS4 => ?_
      obtain ow4 := ow4.swap
      walk_at "g"
      refine forO (src_list (Ls.take n) enc2) (fun i σ' cs G' => ∃ (p : List Int) (y3 y6 : Option V), cs = [(pa, .lst (p.map V.int)), (D, .lst zs2)] ∧ Same G4 G' ∧ σ' = [some (.int cents), some (.ref t), none, y3, some (.ref pa), some (.ref S3), y6] ∧ Ups cents w p (fun k => k ∈ (Ls.map fun r => r.2.toNat).take i) ∧ p.sum = (whole cents w).sum + i)
        ow4 ⟨_, SqL.of atS4, ?_⟩ ⟨whole cents w, _, _, rfl, Same.refl _, rfl, by simpa using Ups.none cents w, by simp⟩ ?_ ?_
      · rw [List.map_take]; exact DpAll.take n (DpAll.same (s3.trans s4) d3)
      · rintro i x σ' cs G' G5 H5 hi _ ⟨p, y3, y6, rfl, sg, rfl, u, hs⟩ s5 w5 ⟨hi', dx⟩ N hN
        have hin : i < n := by rw [List.length_take] at hi'; omega
        have hiL : i < Ls.length := by omega
        obtain ⟨j, hj, ej⟩ := om Ls[i] (List.getElem_mem hiL)
        have e0 : (Ls.take n)[i] = (-(rest cents w j), (j : Int)) := by rw [List.getElem_take, ej]
        rw [e0] at dx
        unfold enc2 at dx
        obtain ⟨tt, zs_tt, rfl, q_tt, l0_tt⟩ := Dt.dp_tup.mp dx
        obtain ⟨x0_tt, r0_tt, rfl, e0_tt, l1_tt⟩ := Dt.dpAll_cons.mp l0_tt; rw [Dt.dp_int] at e0_tt; subst e0_tt
        obtain ⟨x1_tt, r1_tt, rfl, e1_tt, l2_tt⟩ := Dt.dpAll_cons.mp l1_tt; rw [Dt.dp_int] at e1_tt; subst e1_tt
        rw [Dt.dpAll_nil] at l2_tt; subst l2_tt
        clear l0_tt l1_tt
        have ep := w5.at (List.mem_cons_self ..)
        have hjp : j < p.length := by rw [u.len]; exact hj
        have hidx : (Ls.map fun r => r.2.toNat)[i]'(by rw [List.length_map]; exact hiL) = j := by rw [List.getElem_map, ej]; exact Int.toNat_natCast j
        walk_at "g"
        refine g_ixL (SqL.of ep) (at0_at (k := j) rfl hjp) ?_
        walk_at "g"
        refine g_setL ep (ixN_some (by omega) (by rw [List.length_map]; omega)) ?_
        have eb2 : ((j : Nat) : Int).toNat = j := Int.toNat_natCast _
        have hsum := sum_set (l := p) (v := at0 p j + 1) hjp
        have us := O.step (i := i) (by rw [List.length_map]; exact hiL) u
        rw [hidx] at us
        rw [eb2, set_map]
        walk_at "g"
        exact hN _ _ _ _ w5.set s5 ⟨p.set j (at0 p j + 1), _, _, rfl, sg.trans s5, rfl, us, by omega⟩
      · rintro σ' H5 cs G5 w5 _ ⟨p, y3, y6, rfl, sg, rfl, u, hs⟩
        have ep := w5.at (List.mem_cons_self ..)
        rw [List.length_take] at hs
        have F := u.fair W.a0 T0 (fun k hk => by have := W.lo k hk; omega) (by omega)
        have F3 := fairOf_eq T0 F
        have l2 := F.len
        have lm : (p.map V.int).length = rows.length := by rw [List.length_map, l2, lw]
        have sb := (s1.trans s2).trans (s3.trans (s4.trans sg))
        walk_at "g"
        intro E nE
        refine lcP (src_range (K := K)) encP (fun i => decide (0 < p.getD i 0)) (fun i => ((rows.getD i ("", 0)).1, p.getD i 0)) w5 trivial nE (sz5 (by omega)) ?_ ?_
        · rintro j x ys G6 H6 R Z hj s6 w6 ⟨hj', rfl⟩ hR hZ
          have hj2 : j < rows.length := by omega
          have ep6 := w6.at (List.mem_cons_of_mem _ (List.mem_cons_self ..))
          rw [List.getD_eq_getElem?_getD, List.getD_eq_getElem?_getD, List.getElem?_eq_getElem hj2, List.getElem?_eq_getElem (by omega)] at hR
          rw [List.getD_eq_getElem?_getD, List.getElem?_eq_getElem (by omega)] at hZ
          walk_at "g"
          refine g_ixL (SqL.of ep6) (v := .int p[j]) (by rw [Int.zero_add]; exact atI_nat (by rw [List.getElem?_map, List.getElem?_eq_getElem (by omega)]; rfl)) ?_
          walk_at "g"
          walk_at "if" <;> intro e
          · walk_at "g"
            obtain ⟨r, er, hr'⟩ := at_P (i := 0 + (j : Int)) h10 (by omega) hj2
            refine g_ixT (by walk_at "sq") er ?_
            walk_at "g"
            refine g_ixL (SqL.of ep6) (v := .int p[j]) (by rw [Int.zero_add]; exact atI_nat (by rw [List.getElem?_map, List.getElem?_eq_getElem (by omega)]; rfl)) ?_
            walk_at "g"
            refine Dt.NewAt.ow (by assumption) fun t3 G7 H7 ow7 s7 att3 nt3 => ?_
            exact hR (decide_eq_true e) _ _ _ ow7 s7 (Dp.tup (SqT.of att3) (.cons (.str _) (.cons (.int _) .nil)))
          · exact hZ (decide_eq_false e) _ _ w6 (Same.refl _)
        intro G6 H6 ys s6 w6 d6
        have en : Int.toNat ((p.map V.int).length : Int) = rows.length := by omega
        rw [en] at d6
        have er : ((List.range rows.length).filter fun i => decide (0 < p.getD i 0)).map (fun i => ((rows.getD i ("", 0)).1, p.getD i 0)) = raw cents (.shares rows) := by
          rw [raw, shareRows, ew, F3, List.filter_map]; rfl
        rw [er] at d6
        walk_at "g"
        obtain ⟨a1, a2, a3⟩ := srt_P (X := raw cents (.shares rows))
        refine ⟨E, ys, _, raw cents (.shares rows), encP, H6, rfl, by walk_at "sq", Same.refl _, DpAll.same w6.sub d6, a1, a2, a3, fun zs dz => ?_⟩
        refine NewAt.owc (Own.nil H6) fun pz H9 w9 np => ?_
        rw [w9.eq]
        walk_at "g"
        exact q H6 pz zs (by simp) (sb.trans (s6.trans w6.sub)) np dz

end
end K55

namespace K55
open PySem PySem.Spec PyProof.Rows L2 Go Dt
set_option maxHeartbeats 8000000
local macro_rules | `(tactic| walk_at "ne") => `(tactic| first
  | assumption
  | (refine Ne.symm ?_; assumption)
  | exact (Go.free_upd (by assumption)).2
  | exact (Go.free_upd (by assumption)).2.symm
  | exact Go.ne_fr (by assumption) (by walk_at "hp")
  | exact (Go.ne_fr (by assumption) (by walk_at "hp")).symm)
local macro_rules | `(tactic| walk_at "fr") => `(tactic| first
  | assumption
  | exact (Go.free_upd (by assumption)).1
  | exact (Go.free_upd (Go.free_upd (by assumption)).1).1
  | exact Same.free (by assumption) (by walk_at "fr"))
local macro_rules | `(tactic| walk_at "hp") => `(tactic| first
  | assumption
  | with_reducible exact upd_same
  | ((with_reducible show upd _ _ _ _ = _); exact Go.at_upd (by walk_at "ne") (by walk_at "hp"))
  | exact (by assumption : Same _ _) _ _ (by walk_at "hp")
  | exact Dt.Own.at (by assumption) (List.mem_cons_self ..)
  | exact Dt.Own.at (by assumption) (List.mem_cons_of_mem _ (List.mem_cons_self ..))
  | exact Dt.Own.at (by assumption) (List.mem_cons_of_mem _ (List.mem_cons_of_mem _ (List.mem_cons_self ..)))
  | exact Dt.Ts.at (by assumption) (List.mem_cons_self ..)
  | exact Dt.Ts.at (by assumption) (List.mem_cons_of_mem _ (List.mem_cons_self ..))
  | exact Dt.Ds.at (by assumption) (List.mem_cons_self ..)
  | exact Dt.Ds.at (by assumption) (List.mem_cons_of_mem _ (List.mem_cons_self ..))
  | exact (Dt.Own.sub (by assumption)) _ _ (by walk_at "hp")
  | exact (Dt.TkS.sub (by assumption)) _ _ (by walk_at "hp")
  | exact (Dt.Ts.sub (by assumption)) _ _ (by walk_at "hp")
  | exact (Dt.DkS.sub (by assumption)) _ _ (by walk_at "hp")
  | exact (Dt.Ds.sub (by assumption)) _ _ (by walk_at "hp")
  | exact (by assumption : Go.Kp _ _ _) _ _ (by walk_at "ne") (by walk_at "hp")
  | exact (by assumption : Go.Kp2 _ _ _ _) _ _ (by walk_at "ne") (by walk_at "ne") (by walk_at "hp"))
local macro_rules | `(tactic| walk_at "sq") => `(tactic| first
  | assumption
  | ((with_reducible show SqL _ (upd _ _ _) _ _); exact (by assumption : ∀ o, SqL _ (upd _ _ o) _ _) _)
  | ((with_reducible show SqL _ _ _ _); exact SqL.of (by walk_at "hp"))
  | ((with_reducible show SqT _ _ _ _); exact SqT.of (by walk_at "hp"))
  | ((with_reducible show SqL _ (upd _ _ _) _ _); exact Go.sqL_new (by walk_at "fr") (by walk_at "sq"))
  | ((with_reducible show SqT _ (upd _ _ _) _ _); exact Go.sqT_new (by walk_at "fr") (by walk_at "sq"))
  | ((with_reducible show SqL _ (upd _ _ _) _ _); exact Go.sqL_ne (by walk_at "ne") (by walk_at "sq"))
  | ((with_reducible show SqL _ _ _ _); exact Go.sqL_same (by assumption) (by walk_at "sq"))
  | ((with_reducible show SqT _ _ _ _); exact Go.sqT_same (by assumption) (by walk_at "sq"))
  | ((with_reducible show SqL _ _ _ _); exact Go.sqL_same (Dt.Own.sub (by assumption)) (by walk_at "sq"))
  | ((with_reducible show SqT _ _ _ _); exact Go.sqT_same (Dt.Own.sub (by assumption)) (by walk_at "sq"))
  | ((with_reducible show SqL _ _ _ _); exact Go.sqL_same (Dt.TkS.sub (by assumption)) (by walk_at "sq"))
  | ((with_reducible show SqL _ _ _ _); exact Go.sqL_same (Dt.Ts.sub (by assumption)) (by walk_at "sq"))
  | ((with_reducible show SqT _ _ _ _); exact Go.sqT_same (Dt.TkS.sub (by assumption)) (by walk_at "sq"))
  | ((with_reducible show SqT _ _ _ _); exact Go.sqT_same (Dt.Ts.sub (by assumption)) (by walk_at "sq"))
  | ((with_reducible show SqL _ _ _ _); exact Go.sqL_same (Dt.DkS.sub (by assumption)) (by walk_at "sq"))
  | ((with_reducible show SqL _ _ _ _); exact Go.sqL_same (Dt.Ds.sub (by assumption)) (by walk_at "sq"))
  | ((with_reducible show SqT _ _ _ _); exact Go.sqT_same (Dt.DkS.sub (by assumption)) (by walk_at "sq"))
  | ((with_reducible show SqT _ _ _ _); exact Go.sqT_same (Dt.Ds.sub (by assumption)) (by walk_at "sq"))
  | ((with_reducible show SqL _ _ _ _); exact Go.sqL_kp (by assumption) (by walk_at "ne") (by walk_at "sq"))
  | ((with_reducible show SqT _ _ _ _); exact Go.sqT_kp (by assumption) (by walk_at "ne") (by walk_at "sq")))
local macro_rules | `(tactic| walk_at "dp") => `(tactic| first
  | assumption
  | with_reducible exact L2.Dp.int _
  | with_reducible exact L2.Dp.str _
  | with_reducible exact L2.Dp.non
  | with_reducible exact L2.Dp.bl _
  | with_reducible exact L2.DpAll.nil
  | ((with_reducible show L2.Dp _ _ _ _); exact Dt.Dp.same (by assumption) (by walk_at "dp"))
  | ((with_reducible show L2.DpAll _ _ _ _); exact Dt.DpAll.same (by assumption) (by walk_at "dp"))
  | ((with_reducible show L2.Dp _ _ _ _); exact Dt.Dp.same (Dt.Own.sub (by assumption)) (by walk_at "dp"))
  | ((with_reducible show L2.DpAll _ _ _ _); exact Dt.DpAll.same (Dt.Own.sub (by assumption)) (by walk_at "dp"))
  | ((with_reducible show L2.Dp _ _ _ _); exact Dt.Dp.same (Dt.TkS.sub (by assumption)) (by walk_at "dp"))
  | ((with_reducible show L2.Dp _ _ _ _); exact Dt.Dp.same (Dt.Ts.sub (by assumption)) (by walk_at "dp"))
  | ((with_reducible show L2.DpAll _ _ _ _); exact Dt.DpAll.same (Dt.TkS.sub (by assumption)) (by walk_at "dp"))
  | ((with_reducible show L2.DpAll _ _ _ _); exact Dt.DpAll.same (Dt.Ts.sub (by assumption)) (by walk_at "dp"))
  | ((with_reducible show L2.Dp _ _ _ _); exact Dt.Dp.same (Dt.DkS.sub (by assumption)) (by walk_at "dp"))
  | ((with_reducible show L2.Dp _ _ _ _); exact Dt.Dp.same (Dt.Ds.sub (by assumption)) (by walk_at "dp"))
  | ((with_reducible show L2.DpAll _ _ _ _); exact Dt.DpAll.same (Dt.DkS.sub (by assumption)) (by walk_at "dp"))
  | ((with_reducible show L2.DpAll _ _ _ _); exact Dt.DpAll.same (Dt.Ds.sub (by assumption)) (by walk_at "dp"))
  | ((with_reducible show L2.Dp _ _ _ _); exact L2.Dp.tup (by walk_at "sq") (by walk_at "dp"))
  | ((with_reducible show L2.Dp _ _ _ _); exact L2.Dp.lst (by walk_at "sq") (by walk_at "dp"))
  | with_reducible exact L2.DpAll.cons (by walk_at "dp") (by walk_at "dp")
  | ((with_reducible show Dt.Scr _ _ _); exact Dt.Scr.same (by assumption) (by walk_at "dp"))
  | exact Dt.dpAll_ints.mpr rfl
  | exact Dt.dpAll_strs.mpr rfl
  | exact Dt.dpAll_bools.mpr rfl)
local macro_rules | `(tactic| walk_at "ci") => `(tactic| first
  | exact .inr ⟨by decide, by decide⟩
  | exact .inl ⟨by decide, by decide⟩
  | exact ⟨by decide, by decide, by decide⟩
  | decide
  | omega
  | exact ⟨by omega, by omega⟩
  | exact .inl ⟨by omega, by omega⟩
  | exact .inr ⟨by omega, by omega⟩)
local macro_rules | `(tactic| walk_at "g0") => `(tactic| first
  | with_reducible refine Go.g_seq ?_
  | ((with_reducible show tVar _ _ _ _); refine ⟨_, rfl, ?_⟩)
  | with_reducible refine Go.g_c ?_
  | with_reducible refine Go.g_op ?_
  | with_reducible refine Go.g_asg ?_
  | with_reducible refine Go.g_name ?_
  | with_reducible refine Go.g_cons ?_
  | with_reducible refine Dt.g_orV ?_
  | with_reducible refine Dt.g_andV ?_
  | with_reducible refine Dt.g_notV ?_
  | with_reducible refine Dt.g_lst2 ?_
  | with_reducible refine Dt.g_tup2 ?_
  | with_reducible refine Go.g_for ?_
  | with_reducible refine Go.g_rng1 ?_
  | with_reducible refine Go.g_rng2 ?_
  | with_reducible refine Go.g_rng3 ?_
  | with_reducible refine Go.g_list ?_
  | with_reducible refine Go.g_itup ?_
  | with_reducible refine Go.g_enum ?_
  | ((with_reducible show tPar _ _ _ _ _ _); unfold tPar)
  | ((with_reducible show ∃ v w, [_, _] = [v, w] ∧ _); refine ⟨_, _, rfl, ?_⟩)
  | with_reducible refine Go.g_zip ?_
  | with_reducible refine Go.g_augS ?_
  | with_reducible refine Go.g_lc ?_
  | with_reducible refine Go.g_nil ?_
  | with_reducible refine Go.g_cb ?_
  | with_reducible refine Go.g_call ?_
  | with_reducible refine Go.g_ret ?_
  | with_reducible refine Go.g_next ?_
  | with_reducible refine Go.g_drop ?_
  | with_reducible refine Go.g_un ?_
  | with_reducible refine Go.g_test ?_
  | with_reducible refine Go.g_tB ?_
  | with_reducible refine Go.g_ifs ?_
  | with_reducible refine Go.g_if ?_
  | with_reducible refine Go.g_and ?_
  | with_reducible refine Go.g_or ?_
  | with_reducible refine Go.g_not ?_
  | with_reducible refine Go.g_sl ?_
  | with_reducible refine Go.g_nopart ?_
  | with_reducible refine Go.g_part ?_
  | ((with_reducible show ∃ k, V.bl _ = V.bl k ∧ _); refine ⟨_, rfl, ?_⟩)
  | ((with_reducible show ∃ k, V.int _ = V.int k ∧ _); refine ⟨_, rfl, ?_⟩)
  | with_reducible refine Go.g_bm ?_
  | with_reducible refine Go.g_yes ?_
  | ((with_reducible show rI0 _ _ _ _ _); refine ⟨_, _, rfl, rfl, ?_⟩)
  | ((with_reducible show rI _ _ _ _ _ _); refine ⟨_, _, rfl, rfl, ?_, ?_⟩; (focus walk_at "ci"))
  | ((with_reducible show rU _ _ _ _); refine ⟨_, rfl, ?_⟩)
  | ((with_reducible show V.non = V.non ∧ _); refine ⟨rfl, ?_⟩)
  | ((with_reducible show rIsB _ _ _ _); refine ⟨_, _, rfl, rfl, ?_⟩)
  | ((with_reducible show rNotB _ _ _ _); refine ⟨_, _, rfl, rfl, ?_⟩)
  | ((with_reducible show rEq _ _ _ _); refine ⟨rfl, ?_⟩)
  | ((with_reducible show rNe _ _ _ _); refine ⟨rfl, ?_⟩)
  | ((with_reducible show rIxL _ _ _ _ _); refine Go.g_ixL (by walk_at "sq") (by rfl) ?_)
  | ((with_reducible show rIxT _ _ _ _ _); refine Go.g_ixT (by walk_at "sq") (by rfl) ?_)
  | ((with_reducible show rSetL _ _ _ _ _); refine Go.g_setL (by walk_at "hp") (by rfl) ?_)
  | ((with_reducible show ∃ p ys, [V.ref _] = [V.ref p] ∧ (SqL _ _ _ _ ∨ SqT _ _ _ _) ∧ _); refine ⟨_, _, rfl, .inl (by walk_at "sq"), ?_⟩)
  | ((with_reducible show (∃ i, [V.int _] = [V.int i] ∧ _) ∨ _); refine .inl ⟨_, rfl, ?_⟩)
  | ((with_reducible show ∃ (c : Nat) (z : Str), V.str _ = V.str ⟨#[c]⟩ ∧ V.str _ = V.str z ∧ _); refine ⟨_, _, rfl, rfl, ?_⟩)
  | ((with_reducible show ∃ x : Str, [V.str _] = [V.str x] ∧ Str.length x = 1 ∧ _); refine ⟨_, rfl, rfl, ?_⟩)
  | ((with_reducible show ∃ z : Str, [V.str _] = [V.str z] ∧ Str.length z ≤ sizeLine ∧ _); refine ⟨_, rfl, by assumption, ?_⟩)
  | ((with_reducible show rSlS _ _ _ _ _); refine ⟨_, rfl, by assumption, ?_⟩)
  | ((with_reducible show gTup _ _ _ _ _ _ _); refine Go.g_gtup (by walk_at "sq") (by rfl) ?_)
  | ((with_reducible show gCons _ _ _ _ _ _); refine ⟨_, _, rfl, ?_⟩)
  | ((with_reducible show gNil _ _ _ _); refine ⟨rfl, ?_⟩)
  | ((with_reducible show rLenS _ _ _ _); refine Go.g_lenL (by walk_at "sq") ?_)
  | ((with_reducible show rListOf _ _ _ _); refine Go.g_listL (by walk_at "sq") ?_)
  | ((with_reducible show Dt.rList2 _ _ _ _); refine ⟨_, _, rfl, .inl (by walk_at "sq"), ?_⟩)
  | ((with_reducible show Dt.rTuple2 _ _ _ _); refine ⟨_, _, rfl, by walk_at "sq", ?_⟩)
  | ((with_reducible show Dt.rSlL2 _ _ _ _ _ _); refine ⟨_, _, rfl, by walk_at "sq", ?_⟩)
  | ((with_reducible show wipe _ _ = wipe _ _ ∧ _); refine ⟨rfl, ?_⟩)
  | ((with_reducible show if true = true then _ else _); refine iteT ?_)
  | ((with_reducible show if false = true then _ else _); refine iteF ?_)
  | ((with_reducible show ∃ a b xs ys, [V.ref _, V.ref _] = [V.ref a, V.ref b] ∧ SqL _ _ a xs ∧ SqL _ _ b ys ∧ _); refine ⟨_, _, _, _, rfl, by walk_at "sq", by walk_at "sq", ?_⟩)
  | ((with_reducible show ∃ a xs, [V.ref _] = [V.ref a] ∧ SqL _ _ a xs ∧ _); refine ⟨_, _, rfl, by walk_at "sq", ?_⟩)
  | ((with_reducible show ∃ a, V.ref _ = V.ref a ∧ (∃ xs, SqL _ _ a xs) ∧ _); refine ⟨_, rfl, ⟨_, by walk_at "sq"⟩, ?_⟩)
  | ((with_reducible show ∃ a, V.ref _ = V.ref a ∧ (∃ xs, SqT _ _ a xs) ∧ _); refine ⟨_, rfl, ⟨_, by walk_at "sq"⟩, ?_⟩)
  | ((with_reducible show ∃ j : Int, [V.int _] = [V.int j] ∧ _ ≤ j ∧ j < _ ∧ _); refine ⟨_, rfl, by omega, by omega, ?_⟩)
  | ((with_reducible show ∃ i j : Int, [V.int _, V.int _] = [V.int i, V.int j] ∧ (_ ≤ i ∧ i < _ ∧ _ ≤ j ∧ j < _) ∧ _); refine ⟨_, _, rfl, ⟨by omega, by omega, by omega, by omega⟩, ?_⟩)
  | ((with_reducible show ∃ i j : Int, [V.int _, V.int _] = [V.int i, V.int j] ∧ _); refine ⟨_, _, rfl, ?_⟩)
  | ((with_reducible show ∃ i : Int, [V.int _] = [V.int i] ∧ _); refine ⟨_, rfl, ?_⟩)
  | ((with_reducible show _ ≤ sizeLine ∧ _); refine ⟨by first | decide | (simp only [List.length_cons, List.length_nil]; decide), ?_⟩))
local macro_rules | `(tactic| walk_at "g1") => `(tactic| first | walk_at "g0" | with_reducible refine Go.g_sub ?_)
local macro_rules | `(tactic| walk_at "g") => `(tactic| repeat walk_at "g1")
local macro_rules | `(tactic| walk_at "v") => `(tactic| repeat walk_at "g0")
local macro_rules | `(tactic| walk_at "if") => `(tactic| first
  | with_reducible refine @Go.g_itd _ _ _ _ ?_ ?_
  | with_reducible refine @Go.g_itnd _ _ _ _ ?_ ?_
  | with_reducible refine Go.g_ite ?_ ?_)

section
variable {P : Program} {w : World} {K : PySem.W.Frag} {mg : Str → Option Value} {base : Heap}
structure Gf where
  nm : Str
  giver : Str
  day : Int
  cents : Int
  form : Form
  last : Option Int
  hidden : Int
def optD : Option Int → PyData
  | none => .none
  | some i => .int i
def Gf.py (g : Gf) : PyData := .tuple [.str g.nm, .str g.giver, .int g.day, .int g.cents, g.form.py, optD g.last, .none, .int g.hidden]
structure Fd where
  nm : Str
  owner : Str
  cap : Int
  each : Int
  n : Int
  d : Int
  start : Int
  stop : Int
  purposes : List Str
def Fd.py (f : Fd) : PyData := .tuple [.str f.nm, .str f.owner, .int f.cap, .int f.each, .int f.n, .int f.d, .int f.start, .int f.stop, .tuple (f.purposes.map PyData.str)]
def Gf.Ok (g : Gf) : Prop := g.form.Ok ∧ 1 ≤ g.cents ∧ g.cents ≤ 999999999
noncomputable def mayS (f : Fd) (g : Gf) : Bool :=
  if g.hidden = 1 ∨ g.giver = f.owner ∨ g.day < f.start ∨ f.stop < g.day then false
  else match g.form with
    | .any => true
    | fm => (waysS g.cents fm).any fun r => decide (r.1 ∈ f.purposes)
theorem mayS_no {f : Fd} {g : Gf} (h : g.hidden = 1 ∨ g.giver = f.owner ∨ g.day < f.start ∨ f.stop < g.day) : mayS f g = false := by unfold mayS; rw [if_pos h]
theorem mayS_any {f : Fd} {g : Gf} (h : ¬ (g.hidden = 1 ∨ g.giver = f.owner ∨ g.day < f.start ∨ f.stop < g.day)) (e : g.form = .any) : mayS f g = true := by unfold mayS; rw [if_neg h, e]
theorem mayS_some {f : Fd} {g : Gf} (h : ¬ (g.hidden = 1 ∨ g.giver = f.owner ∨ g.day < f.start ∨ f.stop < g.day)) (e : g.form ≠ .any) : mayS f g = (waysS g.cents g.form).any fun r => decide (r.1 ∈ f.purposes) := by
  unfold mayS; rw [if_neg h]
  cases hg : g.form with
  | any => exact absurd hg e
  | _ => rfl
theorem inV_str (s : Str) (ps : List Str) : inV (.str s) (ps.map V.str) = decide (s ∈ ps) := by
  unfold inV
  rw [List.any_map]
  induction ps with
  | nil => rfl
  | cons a r ih =>
    rw [List.any_cons, ih]
    by_cases h : a = s
    · subst h; simp [eqV]
    · have h' : ¬ s = a := fun z => h z.symm
      simp [eqV, h, h']
theorem strs_flat (l : List Str) : (l.map V.str).all flatV = true := by
  rw [List.all_map]; exact List.all_eq_true.mpr fun _ _ => rfl
theorem waysS_len {cents : Int} {f : Form} (ok : f.Ok) : (waysS cents f).length ≤ 4 := by
  unfold waysS
  rw [List.length_mergeSort]
  cases f with
  | any => simp [raw]
  | for_ row => simp only [raw, List.length_map]; exact ok
  | most rows => exact Nat.le_trans (List.length_filter_le ..) (by rw [List.length_map]; exact ok.2.1)
  | shares rows => exact Nat.le_trans (List.length_filter_le ..) (by unfold shareRows; rw [List.length_map, List.length_range]; exact ok.1.2.1)
def sp_may_match (K : PySem.W.Frag) : Sp := fun vs H Q _ => ∃ (fv gv : V) (f : Fd) (g : Gf), vs = [fv, gv] ∧ Dp K H fv f.py ∧ Dp K H gv g.py ∧ g.Ok ∧ ∀ H', Same H H' → Q (.bl (mayS f g)) H'
theorem ok_may_match (T : Txt K mg) : FnOk P w K mg base CX0 3 T.a_may_match T.fd_may_match ["fund", "gift"] (sp_may_match K) := by
  refine T.F_may_match.ok sc_may_match (fun vs H Q E h => ?_) (fun cdv A outer s H vs Q E hr h => ?_)
  · obtain ⟨fv, gv, f, g, rfl, _⟩ := h; rfl
  · obtain ⟨fv, gv, f, g, rfl, hf, hg, ⟨ok, c1, c2⟩, q⟩ := h
    unfold Fd.py at hf
    unfold Gf.py at hg
    obtain ⟨ft, zs_ft, rfl, q_ft, l0_ft⟩ := Dt.dp_tup.mp hf
    obtain ⟨x0_ft, r0_ft, rfl, e0_ft, l1_ft⟩ := Dt.dpAll_cons.mp l0_ft; rw [Dt.dp_str] at e0_ft; subst e0_ft
    obtain ⟨x1_ft, r1_ft, rfl, e1_ft, l2_ft⟩ := Dt.dpAll_cons.mp l1_ft; rw [Dt.dp_str] at e1_ft; subst e1_ft
    obtain ⟨x2_ft, r2_ft, rfl, e2_ft, l3_ft⟩ := Dt.dpAll_cons.mp l2_ft; rw [Dt.dp_int] at e2_ft; subst e2_ft
    obtain ⟨x3_ft, r3_ft, rfl, e3_ft, l4_ft⟩ := Dt.dpAll_cons.mp l3_ft; rw [Dt.dp_int] at e3_ft; subst e3_ft
    obtain ⟨x4_ft, r4_ft, rfl, e4_ft, l5_ft⟩ := Dt.dpAll_cons.mp l4_ft; rw [Dt.dp_int] at e4_ft; subst e4_ft
    obtain ⟨x5_ft, r5_ft, rfl, e5_ft, l6_ft⟩ := Dt.dpAll_cons.mp l5_ft; rw [Dt.dp_int] at e5_ft; subst e5_ft
    obtain ⟨x6_ft, r6_ft, rfl, e6_ft, l7_ft⟩ := Dt.dpAll_cons.mp l6_ft; rw [Dt.dp_int] at e6_ft; subst e6_ft
    obtain ⟨x7_ft, r7_ft, rfl, e7_ft, l8_ft⟩ := Dt.dpAll_cons.mp l7_ft; rw [Dt.dp_int] at e7_ft; subst e7_ft
    obtain ⟨pv, r8_ft, rfl, d_pv, l9_ft⟩ := Dt.dpAll_cons.mp l8_ft
    rw [Dt.dpAll_nil] at l9_ft; subst l9_ft
    clear l0_ft l1_ft l2_ft l3_ft l4_ft l5_ft l6_ft l7_ft l8_ft
    obtain ⟨gt, zs_gt, rfl, q_gt, l0_gt⟩ := Dt.dp_tup.mp hg
    obtain ⟨x0_gt, r0_gt, rfl, e0_gt, l1_gt⟩ := Dt.dpAll_cons.mp l0_gt; rw [Dt.dp_str] at e0_gt; subst e0_gt
    obtain ⟨x1_gt, r1_gt, rfl, e1_gt, l2_gt⟩ := Dt.dpAll_cons.mp l1_gt; rw [Dt.dp_str] at e1_gt; subst e1_gt
    obtain ⟨x2_gt, r2_gt, rfl, e2_gt, l3_gt⟩ := Dt.dpAll_cons.mp l2_gt; rw [Dt.dp_int] at e2_gt; subst e2_gt
    obtain ⟨x3_gt, r3_gt, rfl, e3_gt, l4_gt⟩ := Dt.dpAll_cons.mp l3_gt; rw [Dt.dp_int] at e3_gt; subst e3_gt
    obtain ⟨fv, r4_gt, rfl, d_fv, l5_gt⟩ := Dt.dpAll_cons.mp l4_gt
    obtain ⟨last, r5_gt, rfl, d_last, l6_gt⟩ := Dt.dpAll_cons.mp l5_gt
    obtain ⟨x6_gt, r6_gt, rfl, e6_gt, l7_gt⟩ := Dt.dpAll_cons.mp l6_gt; rw [Dt.dp_none] at e6_gt; subst e6_gt
    obtain ⟨x7_gt, r7_gt, rfl, e7_gt, l8_gt⟩ := Dt.dpAll_cons.mp l7_gt; rw [Dt.dp_int] at e7_gt; subst e7_gt
    rw [Dt.dpAll_nil] at l8_gt; subst l8_gt
    clear l0_gt l1_gt l2_gt l3_gt l4_gt l5_gt l6_gt l7_gt
    obtain ⟨pt, pxs, rfl, q_pt, l_pt⟩ := dp_tup.mp d_pv
    rw [dpAll_strs] at l_pt; subst l_pt
    refine ⟨_, pss_cons (ps_if (PW.pt (pw_or (pt_cmpR op_eq (pe_ix ix_tup (pv 1) pe_int (fun _ _ => rfl)) pe_int (nomark _)) (pw_or (pt_cmpR op_eq (pe_ix ix_tup (pv 1) pe_int (fun _ _ => rfl)) (pe_ix ix_tup (pv 0) pe_int (fun _ _ => rfl)) (nomark _)) (pw_or (pt_cmpR op_lt (pe_ix ix_tup (pv 1) pe_int (fun _ _ => rfl)) (pe_ix ix_tup (pv 0) pe_int (fun _ _ => rfl)) (nomark _)) (pw_or1 (pt_cmpR op_gt (pe_ix ix_tup (pv 1) pe_int (fun _ _ => rfl)) (pe_ix ix_tup (pv 0) pe_int (fun _ _ => rfl)) (nomark _)))))))
        (pss_one (ps_ret pe_bl))
        (pss_nil))
      (pss_cons (ps_set (i := 2) sc_may_match.nd rfl (.inl rfl) (pe_call (Dt.frame_call (ok_ways T)) hr (by rfl) T.g_ways T.F_ways.kp T.b_ways .nil pass0 (pa_cons (pe_ix ix_tup (pv 1) pe_int (fun _ _ => rfl)) (pa_cons (pe_ix ix_tup (pv 1) pe_int (fun _ _ => rfl)) pa_nil))))
      (pss_one (ps_ret (pe_or (pe_cmpR op_isN (pv 2) pe_non (nomark _)) (pe_one (pe_callB (cr_any rfl) (by rfl) T.n_any (by decide +kernel) (pa_cons (pe_lc (own := [("purpose", 3), ("cap", 4)]) (g := gTup K 2 (gCons (gName 3) (gCons (gName 4) gNil))) (by rfl) sc_may_match.nd (pi_list (pv 2)) (blkOk_by (own := [("purpose", 3), ("cap", 4)]) (N := ["fund", "gift", "told", "purpose", "cap"]) (sc := defScope s_may_match) (by decide +kernel)) (fun _ _ _ _ _ => pg_tup (n := 2) rfl (pgs_cons (pg_name (i := 3) sc_may_match.nd rfl (Or.inl rfl)) (pgs_cons (pg_name (i := 4) sc_may_match.nd rfl (Or.inl rfl)) pgs_nil))) (fun _ _ _ _ _ => pts_nil) (fun _ _ _ _ _ => (pe_cmpR (r := rIn K false) op_in_seq (pv 3) (pe_ix (r := rIxT K) ix_tup (pv 0) pe_int (fun _ _ => rfl)) rfl))) pa_nil))))))), ?_⟩
    walk_at "g"
    walk_at "if" <;> intro e
    · walk_at "g"
      rw [mayS_no (.inl (V.int.inj e))] at q
      exact q _ (Same.refl _)
    have n1 : ¬ g.hidden = 1 := fun z => e (by rw [z])
    clear e
    walk_at "g"
    walk_at "if" <;> intro e
    · walk_at "g"
      rw [mayS_no (.inr (.inl (V.str.inj e)))] at q
      exact q _ (Same.refl _)
    have n2 : ¬ g.giver = f.owner := fun z => e (by rw [z])
    clear e
    walk_at "g"
    walk_at "if" <;> intro e
    · walk_at "g"
      rw [mayS_no (.inr (.inr (.inl e)))] at q
      exact q _ (Same.refl _)
    walk_at "g"
    walk_at "if" <;> intro e2
    · walk_at "g"
      rw [mayS_no (.inr (.inr (.inr e2)))] at q
      exact q _ (Same.refl _)
    have no : ¬ (g.hidden = 1 ∨ g.giver = f.owner ∨ g.day < f.start ∨ f.stop < g.day) := by
      rintro (z | z | z | z)
      · exact n1 z
      · exact n2 z
      · exact e z
      · exact e2 z
    walk_at "g"
    refine ⟨[], H, Own.nil _, plain0, g.cents, fv, g.form, rfl, d_fv, ok, c1, c2, fun ef H1 w1 => ?_, fun G p xs ef s1 np dx H1 w1 => ?_⟩
    · rw [own_nil] at w1; subst w1
      rw [mayS_any no ef] at q
      walk_at "g"
      walk_at "if" <;> intro e3
      · exact q _ (Same.refl _)
      · exact absurd rfl e3
    · rw [own_nil] at w1; subst w1
      have ow : Own [(p, .lst xs)] G (upd G p (.lst xs)) := (Own.nil G).grab np
      have ep : upd G p (.lst xs) p = some (.lst xs) := upd_same
      generalize upd G p (.lst xs) = H1 at *
      have s1 := s1.trans ow.sub
      have dx1 := DpAll.same ow.sub dx
      have ll := waysS_len (cents := g.cents) ok
      rw [mayS_some no ef] at q
      walk_at "g"
      walk_at "if" <;> intro e3
      · cases e3
      walk_at "g"
      intro D nD
      refine lcF (src_list (waysS g.cents g.form) encP) PyData.bool (fun i => decide (((waysS g.cents g.form).getD i ("", 0)).1 ∈ f.purposes)) (Own.nil H1) ⟨_, SqL.of ep, dx1⟩ nD (sz5 (by omega)) ?_ ?_
      · rintro j x ys G2 H2 R Z hj s2 ow2 ⟨hj', dx⟩ hR
        obtain ⟨t2, rfl, ht2⟩ := dp_P dx
        rw [List.getD_eq_getElem?_getD, List.getElem?_eq_getElem hj'] at hR
        walk_at "g"
        refine ⟨_, _, rfl, .inr (by walk_at "sq"), rfl, strs_flat _, ?_⟩
        rw [if_neg (by decide), inV_str]
        exact hR _ _ _ ow2 (Same.refl _) (.bl _)
      intro G2 H2 ys s2 ow2 d2
      rw [range_map_get (waysS g.cents g.form) (fun r => decide (r.1 ∈ f.purposes)) ("", 0), dpAll_bools] at d2
      subst d2
      walk_at "g"
      refine ⟨D, _, rfl, by walk_at "sq", ?_⟩
      rw [List.any_map]
      exact q H2 (s1.trans (s2.trans ow2.sub))
def sp__law_may (K : PySem.W.Frag) : Sp := sp_may_match K
theorem ok__law_may (T : Txt K mg) : FnOk P w K mg base CX0 2 T.a__law_may T.fd__law_may ["fund", "gift"] (sp__law_may K) := by
  refine T.F__law_may.ok sc__law_may (fun vs H Q E h => ?_) (fun cdv A outer s H vs Q E hr h => ?_)
  · obtain ⟨fv, gv, f, g, rfl, _⟩ := h; rfl
  · obtain ⟨fv, gv, f, g, rfl, hf, hg, ⟨ok, c1, c2⟩, q⟩ := h
    unfold Fd.py at hf
    unfold Gf.py at hg
    obtain ⟨ft, zs_ft, rfl, q_ft, l0_ft⟩ := Dt.dp_tup.mp hf
    obtain ⟨x0_ft, r0_ft, rfl, e0_ft, l1_ft⟩ := Dt.dpAll_cons.mp l0_ft; rw [Dt.dp_str] at e0_ft; subst e0_ft
    obtain ⟨x1_ft, r1_ft, rfl, e1_ft, l2_ft⟩ := Dt.dpAll_cons.mp l1_ft; rw [Dt.dp_str] at e1_ft; subst e1_ft
    obtain ⟨x2_ft, r2_ft, rfl, e2_ft, l3_ft⟩ := Dt.dpAll_cons.mp l2_ft; rw [Dt.dp_int] at e2_ft; subst e2_ft
    obtain ⟨x3_ft, r3_ft, rfl, e3_ft, l4_ft⟩ := Dt.dpAll_cons.mp l3_ft; rw [Dt.dp_int] at e3_ft; subst e3_ft
    obtain ⟨x4_ft, r4_ft, rfl, e4_ft, l5_ft⟩ := Dt.dpAll_cons.mp l4_ft; rw [Dt.dp_int] at e4_ft; subst e4_ft
    obtain ⟨x5_ft, r5_ft, rfl, e5_ft, l6_ft⟩ := Dt.dpAll_cons.mp l5_ft; rw [Dt.dp_int] at e5_ft; subst e5_ft
    obtain ⟨x6_ft, r6_ft, rfl, e6_ft, l7_ft⟩ := Dt.dpAll_cons.mp l6_ft; rw [Dt.dp_int] at e6_ft; subst e6_ft
    obtain ⟨x7_ft, r7_ft, rfl, e7_ft, l8_ft⟩ := Dt.dpAll_cons.mp l7_ft; rw [Dt.dp_int] at e7_ft; subst e7_ft
    obtain ⟨pv, r8_ft, rfl, d_pv, l9_ft⟩ := Dt.dpAll_cons.mp l8_ft
    rw [Dt.dpAll_nil] at l9_ft; subst l9_ft
    clear l0_ft l1_ft l2_ft l3_ft l4_ft l5_ft l6_ft l7_ft l8_ft
    obtain ⟨gt, zs_gt, rfl, q_gt, l0_gt⟩ := Dt.dp_tup.mp hg
    obtain ⟨x0_gt, r0_gt, rfl, e0_gt, l1_gt⟩ := Dt.dpAll_cons.mp l0_gt; rw [Dt.dp_str] at e0_gt; subst e0_gt
    obtain ⟨x1_gt, r1_gt, rfl, e1_gt, l2_gt⟩ := Dt.dpAll_cons.mp l1_gt; rw [Dt.dp_str] at e1_gt; subst e1_gt
    obtain ⟨x2_gt, r2_gt, rfl, e2_gt, l3_gt⟩ := Dt.dpAll_cons.mp l2_gt; rw [Dt.dp_int] at e2_gt; subst e2_gt
    obtain ⟨x3_gt, r3_gt, rfl, e3_gt, l4_gt⟩ := Dt.dpAll_cons.mp l3_gt; rw [Dt.dp_int] at e3_gt; subst e3_gt
    obtain ⟨fv, r4_gt, rfl, d_fv, l5_gt⟩ := Dt.dpAll_cons.mp l4_gt
    obtain ⟨last, r5_gt, rfl, d_last, l6_gt⟩ := Dt.dpAll_cons.mp l5_gt
    obtain ⟨x6_gt, r6_gt, rfl, e6_gt, l7_gt⟩ := Dt.dpAll_cons.mp l6_gt; rw [Dt.dp_none] at e6_gt; subst e6_gt
    obtain ⟨x7_gt, r7_gt, rfl, e7_gt, l8_gt⟩ := Dt.dpAll_cons.mp l7_gt; rw [Dt.dp_int] at e7_gt; subst e7_gt
    rw [Dt.dpAll_nil] at l8_gt; subst l8_gt
    clear l0_gt l1_gt l2_gt l3_gt l4_gt l5_gt l6_gt l7_gt
    obtain ⟨pt, pxs, rfl, q_pt, l_pt⟩ := dp_tup.mp d_pv
    rw [dpAll_strs] at l_pt; subst l_pt
    refine ⟨_, pss_cons (ps_if (PW.pt (pw_or (pt_cmpR op_eq (pe_ix ix_tup (pv 1) pe_int (fun _ _ => rfl)) pe_int (nomark _)) (pw_or (pt_cmpR op_eq (pe_ix ix_tup (pv 1) pe_int (fun _ _ => rfl)) (pe_ix ix_tup (pv 0) pe_int (fun _ _ => rfl)) (nomark _)) (pw_or (pt_cmpR op_lt (pe_ix ix_tup (pv 1) pe_int (fun _ _ => rfl)) (pe_ix ix_tup (pv 0) pe_int (fun _ _ => rfl)) (nomark _)) (pw_or1 (pt_cmpR op_gt (pe_ix ix_tup (pv 1) pe_int (fun _ _ => rfl)) (pe_ix ix_tup (pv 0) pe_int (fun _ _ => rfl)) (nomark _)))))))
        (pss_one (ps_ret pe_bl))
        (pss_nil))
      (pss_cons (ps_set (i := 2) sc__law_may.nd rfl (.inl rfl) (pe_call (Dt.frame_call (ok__law_ways T)) hr (by rfl) T.g__law_ways T.F__law_ways.kp T.b__law_ways .nil pass0 (pa_cons (pe_ix ix_tup (pv 1) pe_int (fun _ _ => rfl)) (pa_cons (pe_ix ix_tup (pv 1) pe_int (fun _ _ => rfl)) pa_nil))))
      (pss_one (ps_ret (pe_or (pe_cmpR op_isN (pv 2) pe_non (nomark _)) (pe_one (pe_cmpR op_gt (pe_callB call_lenS (by rfl) T.n_len PySem.boot_len (pa_cons (pe_lc (own := [("row", 3)]) (g := gName 3) (by rfl) sc__law_may.nd (pi_list (pv 2)) (blkOk_by (own := [("row", 3)]) (N := ["fund", "gift", "told", "row"]) (sc := defScope s__law_may) (by decide +kernel)) (fun _ _ _ _ _ => pg_name (i := 3) sc__law_may.nd rfl (by first | exact Or.inl rfl | exact Or.inr rfl)) (fun _ _ _ _ _ => pts_one (pt_cmpR (r := rIn K false) op_in_seq (pe_ix (r := rIxT K) ix_tup (pv 3) pe_int (fun _ _ => rfl)) (pe_ix (r := rIxT K) ix_tup (pv 0) pe_int (fun _ _ => rfl)) rfl)) (fun _ _ _ _ _ => (pv 3))) pa_nil)) pe_int (nomark _))))))), ?_⟩
    walk_at "g"
    walk_at "if" <;> intro e
    · walk_at "g"
      rw [mayS_no (.inl (V.int.inj e))] at q
      exact q _ (Same.refl _)
    have n1 : ¬ g.hidden = 1 := fun z => e (by rw [z])
    clear e
    walk_at "g"
    walk_at "if" <;> intro e
    · walk_at "g"
      rw [mayS_no (.inr (.inl (V.str.inj e)))] at q
      exact q _ (Same.refl _)
    have n2 : ¬ g.giver = f.owner := fun z => e (by rw [z])
    clear e
    walk_at "g"
    walk_at "if" <;> intro e
    · walk_at "g"
      rw [mayS_no (.inr (.inr (.inl e)))] at q
      exact q _ (Same.refl _)
    walk_at "g"
    walk_at "if" <;> intro e2
    · walk_at "g"
      rw [mayS_no (.inr (.inr (.inr e2)))] at q
      exact q _ (Same.refl _)
    have no : ¬ (g.hidden = 1 ∨ g.giver = f.owner ∨ g.day < f.start ∨ f.stop < g.day) := by
      rintro (z | z | z | z)
      · exact n1 z
      · exact n2 z
      · exact e z
      · exact e2 z
    walk_at "g"
    refine ⟨[], H, Own.nil _, plain0, g.cents, fv, g.form, rfl, d_fv, ok, c1, c2, fun ef H1 w1 => ?_, fun G p xs ef s1 np dx H1 w1 => ?_⟩
    · rw [own_nil] at w1; subst w1
      rw [mayS_any no ef] at q
      walk_at "g"
      walk_at "if" <;> intro e3
      · exact q _ (Same.refl _)
      · exact absurd rfl e3
    · rw [own_nil] at w1; subst w1
      have ow : Own [(p, .lst xs)] G (upd G p (.lst xs)) := (Own.nil G).grab np
      have ep : upd G p (.lst xs) p = some (.lst xs) := upd_same
      generalize upd G p (.lst xs) = H1 at *
      have s1 := s1.trans ow.sub
      have dx1 := DpAll.same ow.sub dx
      have ll := waysS_len (cents := g.cents) ok
      rw [mayS_some no ef] at q
      walk_at "g"
      walk_at "if" <;> intro e3
      · cases e3
      walk_at "g"
      intro D nD
      refine lcP (src_list (waysS g.cents g.form) encP) encP (fun i => decide (((waysS g.cents g.form).getD i ("", 0)).1 ∈ f.purposes)) (fun i => (waysS g.cents g.form).getD i ("", 0)) (Own.nil H1) ⟨_, SqL.of ep, dx1⟩ nD (sz5 (by omega)) ?_ ?_
      · rintro j x ys G2 H2 R Z hj s2 ow2 ⟨hj', dx⟩ hR hZ
        obtain ⟨t2, rfl, ht2⟩ := dp_P dx
        rw [List.getD_eq_getElem?_getD, List.getElem?_eq_getElem hj'] at hR hZ
        walk_at "g"
        refine ⟨_, _, rfl, .inr (by walk_at "sq"), rfl, strs_flat _, ?_⟩
        rw [if_neg (by decide), inV_str]
        walk_at "g"
        refine g_ite (fun e => ?_) fun e => ?_
        · walk_at "g"
          exact hR e _ _ _ ow2 (Same.refl _) dx
        · exact hZ e _ _ ow2 (Same.refl _)
      intro G2 H2 ys s2 ow2 d2
      have ef := range_filter_get (waysS g.cents g.form) (fun r => decide (r.1 ∈ f.purposes)) id ("", 0)
      simp only [id] at ef
      rw [ef, List.map_id] at d2
      have ly := DpAll.length d2
      rw [List.length_map] at ly
      walk_at "g"
      have hq : decide (0 < (ys.length : Int)) = (waysS g.cents g.form).any fun r => decide (r.1 ∈ f.purposes) := by
        rw [ly]
        cases hb : (waysS g.cents g.form).any fun r => decide (r.1 ∈ f.purposes) with
        | true =>
          obtain ⟨r, hr, h2⟩ := List.any_eq_true.mp hb
          have := List.length_pos_of_mem (List.mem_filter (p := fun r => decide (r.1 ∈ f.purposes)).mpr ⟨hr, h2⟩)
          exact decide_eq_true (by omega)
        | false =>
          have : (waysS g.cents g.form).filter (fun r => decide (r.1 ∈ f.purposes)) = [] := List.filter_eq_nil_iff.mpr fun r hr h2 => by
            have := List.any_eq_false.mp hb r hr
            exact this h2
          rw [this]; rfl
      show Q (V.bl (decide (0 < (ys.length : Int)))) H2
      rw [hq]
      exact q H2 (s1.trans (s2.trans ow2.sub))

end
end K55

namespace K55
open PySem PySem.Spec PyProof.Rows L2 Go Dt
set_option maxHeartbeats 8000000
local macro_rules | `(tactic| walk_at "ne") => `(tactic| first
  | assumption
  | (refine Ne.symm ?_; assumption)
  | exact (Go.free_upd (by assumption)).2
  | exact (Go.free_upd (by assumption)).2.symm
  | exact Go.ne_fr (by assumption) (by walk_at "hp")
  | exact (Go.ne_fr (by assumption) (by walk_at "hp")).symm)
local macro_rules | `(tactic| walk_at "fr") => `(tactic| first
  | assumption
  | exact (Go.free_upd (by assumption)).1
  | exact (Go.free_upd (Go.free_upd (by assumption)).1).1
  | exact Same.free (by assumption) (by walk_at "fr"))
local macro_rules | `(tactic| walk_at "hp") => `(tactic| first
  | assumption
  | with_reducible exact upd_same
  | ((with_reducible show upd _ _ _ _ = _); exact Go.at_upd (by walk_at "ne") (by walk_at "hp"))
  | exact (by assumption : Same _ _) _ _ (by walk_at "hp")
  | exact Dt.Own.at (by assumption) (List.mem_cons_self ..)
  | exact Dt.Own.at (by assumption) (List.mem_cons_of_mem _ (List.mem_cons_self ..))
  | exact Dt.Own.at (by assumption) (List.mem_cons_of_mem _ (List.mem_cons_of_mem _ (List.mem_cons_self ..)))
  | exact Dt.Ts.at (by assumption) (List.mem_cons_self ..)
  | exact Dt.Ts.at (by assumption) (List.mem_cons_of_mem _ (List.mem_cons_self ..))
  | exact Dt.Ds.at (by assumption) (List.mem_cons_self ..)
  | exact Dt.Ds.at (by assumption) (List.mem_cons_of_mem _ (List.mem_cons_self ..))
  | exact (Dt.Own.sub (by assumption)) _ _ (by walk_at "hp")
  | exact (Dt.TkS.sub (by assumption)) _ _ (by walk_at "hp")
  | exact (Dt.Ts.sub (by assumption)) _ _ (by walk_at "hp")
  | exact (Dt.DkS.sub (by assumption)) _ _ (by walk_at "hp")
  | exact (Dt.Ds.sub (by assumption)) _ _ (by walk_at "hp")
  | exact (by assumption : Go.Kp _ _ _) _ _ (by walk_at "ne") (by walk_at "hp")
  | exact (by assumption : Go.Kp2 _ _ _ _) _ _ (by walk_at "ne") (by walk_at "ne") (by walk_at "hp"))
local macro_rules | `(tactic| walk_at "sq") => `(tactic| first
  | assumption
  | ((with_reducible show SqL _ (upd _ _ _) _ _); exact (by assumption : ∀ o, SqL _ (upd _ _ o) _ _) _)
  | ((with_reducible show SqL _ _ _ _); exact SqL.of (by walk_at "hp"))
  | ((with_reducible show SqT _ _ _ _); exact SqT.of (by walk_at "hp"))
  | ((with_reducible show SqL _ (upd _ _ _) _ _); exact Go.sqL_new (by walk_at "fr") (by walk_at "sq"))
  | ((with_reducible show SqT _ (upd _ _ _) _ _); exact Go.sqT_new (by walk_at "fr") (by walk_at "sq"))
  | ((with_reducible show SqL _ (upd _ _ _) _ _); exact Go.sqL_ne (by walk_at "ne") (by walk_at "sq"))
  | ((with_reducible show SqL _ _ _ _); exact Go.sqL_same (by assumption) (by walk_at "sq"))
  | ((with_reducible show SqT _ _ _ _); exact Go.sqT_same (by assumption) (by walk_at "sq"))
  | ((with_reducible show SqL _ _ _ _); exact Go.sqL_same (Dt.Own.sub (by assumption)) (by walk_at "sq"))
  | ((with_reducible show SqT _ _ _ _); exact Go.sqT_same (Dt.Own.sub (by assumption)) (by walk_at "sq"))
  | ((with_reducible show SqL _ _ _ _); exact Go.sqL_same (Dt.TkS.sub (by assumption)) (by walk_at "sq"))
  | ((with_reducible show SqL _ _ _ _); exact Go.sqL_same (Dt.Ts.sub (by assumption)) (by walk_at "sq"))
  | ((with_reducible show SqT _ _ _ _); exact Go.sqT_same (Dt.TkS.sub (by assumption)) (by walk_at "sq"))
  | ((with_reducible show SqT _ _ _ _); exact Go.sqT_same (Dt.Ts.sub (by assumption)) (by walk_at "sq"))
  | ((with_reducible show SqL _ _ _ _); exact Go.sqL_same (Dt.DkS.sub (by assumption)) (by walk_at "sq"))
  | ((with_reducible show SqL _ _ _ _); exact Go.sqL_same (Dt.Ds.sub (by assumption)) (by walk_at "sq"))
  | ((with_reducible show SqT _ _ _ _); exact Go.sqT_same (Dt.DkS.sub (by assumption)) (by walk_at "sq"))
  | ((with_reducible show SqT _ _ _ _); exact Go.sqT_same (Dt.Ds.sub (by assumption)) (by walk_at "sq"))
  | ((with_reducible show SqL _ _ _ _); exact Go.sqL_kp (by assumption) (by walk_at "ne") (by walk_at "sq"))
  | ((with_reducible show SqT _ _ _ _); exact Go.sqT_kp (by assumption) (by walk_at "ne") (by walk_at "sq")))
local macro_rules | `(tactic| walk_at "dp") => `(tactic| first
  | assumption
  | with_reducible exact L2.Dp.int _
  | with_reducible exact L2.Dp.str _
  | with_reducible exact L2.Dp.non
  | with_reducible exact L2.Dp.bl _
  | with_reducible exact L2.DpAll.nil
  | ((with_reducible show L2.Dp _ _ _ _); exact Dt.Dp.same (by assumption) (by walk_at "dp"))
  | ((with_reducible show L2.DpAll _ _ _ _); exact Dt.DpAll.same (by assumption) (by walk_at "dp"))
  | ((with_reducible show L2.Dp _ _ _ _); exact Dt.Dp.same (Dt.Own.sub (by assumption)) (by walk_at "dp"))
  | ((with_reducible show L2.DpAll _ _ _ _); exact Dt.DpAll.same (Dt.Own.sub (by assumption)) (by walk_at "dp"))
  | ((with_reducible show L2.Dp _ _ _ _); exact Dt.Dp.same (Dt.TkS.sub (by assumption)) (by walk_at "dp"))
  | ((with_reducible show L2.Dp _ _ _ _); exact Dt.Dp.same (Dt.Ts.sub (by assumption)) (by walk_at "dp"))
  | ((with_reducible show L2.DpAll _ _ _ _); exact Dt.DpAll.same (Dt.TkS.sub (by assumption)) (by walk_at "dp"))
  | ((with_reducible show L2.DpAll _ _ _ _); exact Dt.DpAll.same (Dt.Ts.sub (by assumption)) (by walk_at "dp"))
  | ((with_reducible show L2.Dp _ _ _ _); exact Dt.Dp.same (Dt.DkS.sub (by assumption)) (by walk_at "dp"))
  | ((with_reducible show L2.Dp _ _ _ _); exact Dt.Dp.same (Dt.Ds.sub (by assumption)) (by walk_at "dp"))
  | ((with_reducible show L2.DpAll _ _ _ _); exact Dt.DpAll.same (Dt.DkS.sub (by assumption)) (by walk_at "dp"))
  | ((with_reducible show L2.DpAll _ _ _ _); exact Dt.DpAll.same (Dt.Ds.sub (by assumption)) (by walk_at "dp"))
  | ((with_reducible show L2.Dp _ _ _ _); exact L2.Dp.tup (by walk_at "sq") (by walk_at "dp"))
  | ((with_reducible show L2.Dp _ _ _ _); exact L2.Dp.lst (by walk_at "sq") (by walk_at "dp"))
  | with_reducible exact L2.DpAll.cons (by walk_at "dp") (by walk_at "dp")
  | ((with_reducible show Dt.Scr _ _ _); exact Dt.Scr.same (by assumption) (by walk_at "dp"))
  | exact Dt.dpAll_ints.mpr rfl
  | exact Dt.dpAll_strs.mpr rfl
  | exact Dt.dpAll_bools.mpr rfl)
local macro_rules | `(tactic| walk_at "ci") => `(tactic| first
  | exact .inr ⟨by decide, by decide⟩
  | exact .inl ⟨by decide, by decide⟩
  | exact ⟨by decide, by decide, by decide⟩
  | decide
  | omega
  | exact ⟨by omega, by omega⟩
  | exact .inl ⟨by omega, by omega⟩
  | exact .inr ⟨by omega, by omega⟩)
local macro_rules | `(tactic| walk_at "g0") => `(tactic| first
  | with_reducible refine Go.g_seq ?_
  | ((with_reducible show tVar _ _ _ _); refine ⟨_, rfl, ?_⟩)
  | with_reducible refine Go.g_c ?_
  | with_reducible refine Go.g_op ?_
  | with_reducible refine Go.g_asg ?_
  | with_reducible refine Go.g_name ?_
  | with_reducible refine Go.g_cons ?_
  | with_reducible refine Dt.g_orV ?_
  | with_reducible refine Dt.g_andV ?_
  | with_reducible refine Dt.g_notV ?_
  | with_reducible refine Dt.g_lst2 ?_
  | with_reducible refine Dt.g_tup2 ?_
  | with_reducible refine Go.g_for ?_
  | with_reducible refine Go.g_rng1 ?_
  | with_reducible refine Go.g_rng2 ?_
  | with_reducible refine Go.g_rng3 ?_
  | with_reducible refine Go.g_list ?_
  | with_reducible refine Go.g_itup ?_
  | with_reducible refine Go.g_enum ?_
  | ((with_reducible show tPar _ _ _ _ _ _); unfold tPar)
  | ((with_reducible show ∃ v w, [_, _] = [v, w] ∧ _); refine ⟨_, _, rfl, ?_⟩)
  | with_reducible refine Go.g_zip ?_
  | with_reducible refine Go.g_augS ?_
  | with_reducible refine Go.g_lc ?_
  | with_reducible refine Go.g_nil ?_
  | with_reducible refine Go.g_cb ?_
  | with_reducible refine Go.g_call ?_
  | with_reducible refine Go.g_ret ?_
  | with_reducible refine Go.g_next ?_
  | with_reducible refine Go.g_drop ?_
  | with_reducible refine Go.g_un ?_
  | with_reducible refine Go.g_test ?_
  | with_reducible refine Go.g_tB ?_
  | with_reducible refine Go.g_ifs ?_
  | with_reducible refine Go.g_if ?_
  | with_reducible refine Go.g_and ?_
  | with_reducible refine Go.g_or ?_
  | with_reducible refine Go.g_not ?_
  | with_reducible refine Go.g_sl ?_
  | with_reducible refine Go.g_nopart ?_
  | with_reducible refine Go.g_part ?_
  | ((with_reducible show ∃ k, V.bl _ = V.bl k ∧ _); refine ⟨_, rfl, ?_⟩)
  | ((with_reducible show ∃ k, V.int _ = V.int k ∧ _); refine ⟨_, rfl, ?_⟩)
  | with_reducible refine Go.g_bm ?_
  | with_reducible refine Go.g_yes ?_
  | ((with_reducible show rI0 _ _ _ _ _); refine ⟨_, _, rfl, rfl, ?_⟩)
  | ((with_reducible show rI _ _ _ _ _ _); refine ⟨_, _, rfl, rfl, ?_, ?_⟩; (focus walk_at "ci"))
  | ((with_reducible show rU _ _ _ _); refine ⟨_, rfl, ?_⟩)
  | ((with_reducible show V.non = V.non ∧ _); refine ⟨rfl, ?_⟩)
  | ((with_reducible show rIsB _ _ _ _); refine ⟨_, _, rfl, rfl, ?_⟩)
  | ((with_reducible show rNotB _ _ _ _); refine ⟨_, _, rfl, rfl, ?_⟩)
  | ((with_reducible show rEq _ _ _ _); refine ⟨rfl, ?_⟩)
  | ((with_reducible show rNe _ _ _ _); refine ⟨rfl, ?_⟩)
  | ((with_reducible show rIxL _ _ _ _ _); refine Go.g_ixL (by walk_at "sq") (by rfl) ?_)
  | ((with_reducible show rIxT _ _ _ _ _); refine Go.g_ixT (by walk_at "sq") (by rfl) ?_)
  | ((with_reducible show rSetL _ _ _ _ _); refine Go.g_setL (by walk_at "hp") (by rfl) ?_)
  | ((with_reducible show ∃ p ys, [V.ref _] = [V.ref p] ∧ (SqL _ _ _ _ ∨ SqT _ _ _ _) ∧ _); refine ⟨_, _, rfl, .inl (by walk_at "sq"), ?_⟩)
  | ((with_reducible show (∃ i, [V.int _] = [V.int i] ∧ _) ∨ _); refine .inl ⟨_, rfl, ?_⟩)
  | ((with_reducible show ∃ (c : Nat) (z : Str), V.str _ = V.str ⟨#[c]⟩ ∧ V.str _ = V.str z ∧ _); refine ⟨_, _, rfl, rfl, ?_⟩)
  | ((with_reducible show ∃ x : Str, [V.str _] = [V.str x] ∧ Str.length x = 1 ∧ _); refine ⟨_, rfl, rfl, ?_⟩)
  | ((with_reducible show ∃ z : Str, [V.str _] = [V.str z] ∧ Str.length z ≤ sizeLine ∧ _); refine ⟨_, rfl, by assumption, ?_⟩)
  | ((with_reducible show rSlS _ _ _ _ _); refine ⟨_, rfl, by assumption, ?_⟩)
  | ((with_reducible show gTup _ _ _ _ _ _ _); refine Go.g_gtup (by walk_at "sq") (by rfl) ?_)
  | ((with_reducible show gCons _ _ _ _ _ _); refine ⟨_, _, rfl, ?_⟩)
  | ((with_reducible show gNil _ _ _ _); refine ⟨rfl, ?_⟩)
  | ((with_reducible show rLenS _ _ _ _); refine Go.g_lenL (by walk_at "sq") ?_)
  | ((with_reducible show rListOf _ _ _ _); refine Go.g_listL (by walk_at "sq") ?_)
  | ((with_reducible show Dt.rList2 _ _ _ _); refine ⟨_, _, rfl, .inl (by walk_at "sq"), ?_⟩)
  | ((with_reducible show Dt.rTuple2 _ _ _ _); refine ⟨_, _, rfl, by walk_at "sq", ?_⟩)
  | ((with_reducible show Dt.rSlL2 _ _ _ _ _ _); refine ⟨_, _, rfl, by walk_at "sq", ?_⟩)
  | ((with_reducible show wipe _ _ = wipe _ _ ∧ _); refine ⟨rfl, ?_⟩)
  | ((with_reducible show if true = true then _ else _); refine iteT ?_)
  | ((with_reducible show if false = true then _ else _); refine iteF ?_)
  | ((with_reducible show ∃ a b xs ys, [V.ref _, V.ref _] = [V.ref a, V.ref b] ∧ SqL _ _ a xs ∧ SqL _ _ b ys ∧ _); refine ⟨_, _, _, _, rfl, by walk_at "sq", by walk_at "sq", ?_⟩)
  | ((with_reducible show ∃ a xs, [V.ref _] = [V.ref a] ∧ SqL _ _ a xs ∧ _); refine ⟨_, _, rfl, by walk_at "sq", ?_⟩)
  | ((with_reducible show ∃ a, V.ref _ = V.ref a ∧ (∃ xs, SqL _ _ a xs) ∧ _); refine ⟨_, rfl, ⟨_, by walk_at "sq"⟩, ?_⟩)
  | ((with_reducible show ∃ a, V.ref _ = V.ref a ∧ (∃ xs, SqT _ _ a xs) ∧ _); refine ⟨_, rfl, ⟨_, by walk_at "sq"⟩, ?_⟩)
  | ((with_reducible show ∃ j : Int, [V.int _] = [V.int j] ∧ _ ≤ j ∧ j < _ ∧ _); refine ⟨_, rfl, by omega, by omega, ?_⟩)
  | ((with_reducible show ∃ i j : Int, [V.int _, V.int _] = [V.int i, V.int j] ∧ (_ ≤ i ∧ i < _ ∧ _ ≤ j ∧ j < _) ∧ _); refine ⟨_, _, rfl, ⟨by omega, by omega, by omega, by omega⟩, ?_⟩)
  | ((with_reducible show ∃ i j : Int, [V.int _, V.int _] = [V.int i, V.int j] ∧ _); refine ⟨_, _, rfl, ?_⟩)
  | ((with_reducible show ∃ i : Int, [V.int _] = [V.int i] ∧ _); refine ⟨_, rfl, ?_⟩)
  | ((with_reducible show _ ≤ sizeLine ∧ _); refine ⟨by first | decide | (simp only [List.length_cons, List.length_nil]; decide), ?_⟩))
local macro_rules | `(tactic| walk_at "g1") => `(tactic| first | walk_at "g0" | with_reducible refine Go.g_sub ?_)
local macro_rules | `(tactic| walk_at "g") => `(tactic| repeat walk_at "g1")
local macro_rules | `(tactic| walk_at "v") => `(tactic| repeat walk_at "g0")
local macro_rules | `(tactic| walk_at "if") => `(tactic| first
  | with_reducible refine @Go.g_itd _ _ _ _ ?_ ?_
  | with_reducible refine @Go.g_itnd _ _ _ _ ?_ ?_
  | with_reducible refine Go.g_ite ?_ ?_)

section
variable {P : Program} {w : World} {K : PySem.W.Frag} {mg : Str → Option Value} {base : Heap}
theorem perm_strs {ys r : List V} {ps : List Str} (h : (ys ++ r).Perm (ps.map V.str)) : ∃ cs : List Str, ys = cs.map V.str ∧ ∀ c ∈ cs, c ∈ ps := by
  have hm : ∀ y ∈ ys, ∃ s, s ∈ ps ∧ V.str s = y := fun y hy => List.mem_map.mp (h.mem_iff.mp (List.mem_append_left _ hy))
  clear h
  induction ys with
  | nil => exact ⟨[], rfl, fun c h => nomatch h⟩
  | cons y t ih =>
    obtain ⟨cs, rfl, hc⟩ := ih fun z hz => hm z (List.mem_cons_of_mem _ hz)
    obtain ⟨s, hs, rfl⟩ := hm y (List.mem_cons_self ..)
    exact ⟨s :: cs, rfl, fun c h => by
      rcases List.mem_cons.mp h with z | z
      · rw [z]; exact hs
      · exact hc c z⟩
def sp__law_form (K : PySem.W.Frag) : Sp := fun vs H Q _ => ∃ (st sc pa : Addr) (ps : List Str) (G : Hp), vs = [.ref st, .ref sc, .ref pa] ∧ DkS st G H ∧ Scr K G sc ∧ SqL K G pa (ps.map V.str) ∧ 1 ≤ ps.length ∧ ps.length ≤ 1000 ∧
  ∀ G' H' v (f : Form), DkS st G' H' → Same G G' → Dp K G' v f.py → f.Ok → Q v H'
theorem ok__law_form (T : Txt K mg) : FnOk P w K mg base CX0 3 T.a__law_form T.fd__law_form ["state", "script", "purposes"] (sp__law_form K) := by
  refine T.F__law_form.ok sc__law_form (fun vs H Q E h => ?_) (fun cdv A outer s H vs Q E hr h => ?_)
  · obtain ⟨st, sc, pa, ps, G, rfl, _⟩ := h; rfl
  · obtain ⟨st, sc, pa, ps, G, rfl, S, hsc, hp, l1, l2, q⟩ := h
    have S := S.ds
    refine ⟨_, pss_cons (ps_set (i := 3) sc__law_form.nd rfl (.inl rfl) (pe_call (Dt.frame_call (ok__law_draw T)) (hr.mono (by decide)) (by rfl) T.g__law_draw T.F__law_draw.kp T.b__law_draw .nil pass0 (pa_cons (pv 0) (pa_cons (pv 1) (pa_cons pe_int pa_nil)))))
      (pss_cons (ps_set (i := 4) sc__law_form.nd rfl (.inl rfl) (pe_call (Dt.frame_call (ok__law_some T)) hr (by rfl) T.g__law_some T.F__law_some.kp T.b__law_some .nil pass0 (pa_cons (pv 0) (pa_cons (pv 1) (pa_cons (pv 2) (pa_cons pe_int pa_nil))))))
      (pss_cons (ps_if (pt_cmpR op_eq (pv 3) pe_int (nomark _))
        (pss_one (ps_ret (pe_tup (pa_cons pe_str pa_nil))))
        (pss_nil))
      (pss_cons (ps_if (pt_cmpR op_eq (pv 3) pe_int (nomark _))
        (pss_one (ps_ret (pe_tup (pa_cons pe_str (pa_cons (pe_callTy call_tuple2 (by rfl) T.n_tuple (by decide +kernel) (pa_cons (pv 4) pa_nil)) pa_nil)))))
        (pss_nil))
      (pss_cons (ps_if (pt_cmpR op_eq (pv 3) pe_int (nomark _))
        (pss_one (ps_ret (pe_tup (pa_cons pe_str (pa_cons (pe_callTy call_tuple2 (by rfl) T.n_tuple (by decide +kernel) (pa_cons (pe_lc (own := [("p", 5)]) (g := gName 5) (by rfl) sc__law_form.nd (pi_list (pv 4)) (blkOk_by (own := [("p", 5)]) (N := ["state", "script", "purposes", "kind", "chosen", "p", "left", "rows", "at", "part"]) (sc := defScope s__law_form) (by decide +kernel)) (fun _ _ _ _ _ => pg_name (i := 5) sc__law_form.nd rfl (by first | exact Or.inl rfl | exact Or.inr rfl)) (fun _ _ _ _ _ => pts_nil) (fun _ _ _ _ _ => (pe_tup (pa_cons (pv 5) (pa_cons (pe_ix (r := rIxL K) ix_list (pe_lst (pa_cons pe_int (pa_cons pe_int (pa_cons (pe_op op_add pe_int (pe_call (Dt.frame_call (ok__law_draw T)) (hr.mono (by decide)) (by rfl) T.g__law_draw T.F__law_draw.kp T.b__law_draw .nil pass0 (pa_cons (pv 0) (pa_cons (pv 1) (pa_cons pe_int pa_nil))))) pa_nil)))) (pe_call (Dt.frame_call (ok__law_draw T)) (hr.mono (by decide)) (by rfl) T.g__law_draw T.F__law_draw.kp T.b__law_draw .nil pass0 (pa_cons (pv 0) (pa_cons (pv 1) (pa_cons pe_int pa_nil)))) (fun _ _ => rfl)) pa_nil))))) pa_nil)) pa_nil)))))
        (pss_nil))
      (pss_cons (ps_set (i := 6) sc__law_form.nd rfl (.inl rfl) pe_int)
      (pss_cons (ps_set (i := 7) sc__law_form.nd rfl (.inl rfl) (pe_lst pa_nil))
      (pss_cons (ps_for PassesOwn.never rfl (pi_range1 (by rfl) T.n_range (pa_cons (pe_op op_sub (pe_callB call_lenS (by rfl) T.n_len PySem.boot_len (pa_cons (pv 4) pa_nil)) pe_int) pa_nil)) (pg_name (i := 8) sc__law_form.nd rfl (.inl rfl))
        (pss_cons (ps_set (i := 9) sc__law_form.nd rfl (.inl rfl) (pe_op op_add pe_int (pe_call (Dt.frame_call (ok__law_draw T)) (hr.mono (by decide)) (by rfl) T.g__law_draw T.F__law_draw.kp T.b__law_draw .nil pass0 (pa_cons (pv 0) (pa_cons (pv 1) (pa_cons (pe_op op_sub (pv 6) (pe_op op_sub (pe_op op_sub (pe_callB call_lenS (by rfl) T.n_len PySem.boot_len (pa_cons (pv 4) pa_nil)) pe_int) (pv 8))) pa_nil))))))
        (pss_cons (ps_expr (pe_bm PySem.F.plainAttrs_list PySem.F.slot_list_append PySem.F.type_list_append mt_append (pv 7) (pa_cons (pe_tup (pa_cons (pe_ix ix_list (pv 4) (pv 8) (fun _ _ => rfl)) (pa_cons (pv 9) pa_nil))) pa_nil)))
        (pss_one (ps_set (i := 6) sc__law_form.nd rfl (.inl rfl) (pe_op op_sub (pv 6) (pv 9)))))))
      (pss_one (ps_ret (pe_tup (pa_cons pe_str (pa_cons (pe_callTy call_tuple2 (by rfl) T.n_tuple (by decide +kernel) (pa_cons (pe_op op_cat2 (pv 7) (pe_lst (pa_cons (pe_tup (pa_cons (pe_ix ix_list (pv 4) (pe_un un_neg pe_int) (fun _ _ => rfl)) (pa_cons (pv 6) pa_nil))) pa_nil))) pa_nil)) pa_nil)))))))))))), ?_⟩
    walk_at "g"
    refine rd_draw S hsc plain0 (by decide) (by decide) fun H1 d1 S1 a1 b1 => ?_
    walk_at "g"
    refine rd_some S1 hsc plain0 hp (by rw [List.length_map]; exact l1) (by rw [List.length_map]; exact l2) (by decide) fun G2 H2 r ys S2 s2 er ⟨rs, pm⟩ y1 y4 => ?_
    obtain ⟨row, rfl, rm⟩ := perm_strs pm
    rw [List.length_map] at y1 y4
    have l1 : 1 ≤ row.length := y1
    have l2 : row.length ≤ 4 := by omega
    have hsc := Scr.same s2 hsc
    have erH := S2.sub _ _ er
    walk_at "g"
    walk_at "if" <;> intro e
    · walk_at "g"
      refine Dt.NewAt.ds (by assumption) fun t G4 H4 S4 s4 att nt => ?_
      exact q G4 H4 _ .any S4.dk (s2.trans s4) (Dp.tup (SqT.of att) (.cons (.str _) .nil)) trivial
    clear e
    walk_at "g"
    walk_at "if" <;> intro e
    · walk_at "g"
      refine Dt.NewAt.ds (by assumption) fun u G4 H4 S4 s4 atu nu => ?_
      walk_at "g"
      refine Dt.NewAt.ds (by assumption) fun t G5 H5 S5 s5 att nt => ?_
      have eu := SqT.of (K := K) (s5 _ _ atu)
      exact q G5 H5 _ (.for_ row) S5.dk (s2.trans (s4.trans s5)) (Dp.tup (SqT.of att) (.cons (.str _) (.cons (Dp.tup eu (dpAll_strs.mpr rfl)) .nil))) l2
    clear e
    walk_at "g"
    walk_at "if" <;> intro e
    · walk_at "g"
      intro D nD
      refine lcD (src_list row PyData.str) encP (fun i bs => bs.length = i ∧ ∀ b ∈ bs, 1 ≤ b.2 ∧ b.2 ≤ 100) S2 ⟨_, SqL.of er, dpAll_strs.mpr rfl⟩ nD ⟨rfl, fun b h => nomatch h⟩ (sz5 (by omega)) ?_ ?_
      · rintro i x bs ys G4 H4 R Z hi ⟨lb, ob⟩ _ s4 S4 ⟨hi', dx⟩ hR _
        rw [dp_str] at dx; subst dx
        have hsc4 := Scr.same s4 hsc
        walk_at "g"
        refine rd_draw S4 hsc4 plain1 (by decide) (by decide) fun H5 d5 S5 a5 b5 => ?_
        walk_at "g"
        refine Dt.NewAt.ds (by assumption) fun p G6 H6 S6 s6 atp np => ?_
        walk_at "g"
        refine rd_draw S6 (Scr.same s6 hsc4) plain1 (by decide) (by decide) fun H7 d7 S7 a7 b7 => ?_
        have hv : ∃ v : Int, atI [V.int 1, .int 100, .int (1 + d5)] d7 = some (.int v) ∧ 1 ≤ v ∧ v ≤ 100 := by
          have : d7 = 0 ∨ d7 = 1 ∨ d7 = 2 := by omega
          rcases this with rfl | rfl | rfl
          · exact ⟨_, rfl, by omega, by omega⟩
          · exact ⟨_, rfl, by omega, by omega⟩
          · exact ⟨_, rfl, by omega, by omega⟩
        obtain ⟨v, ev, v1, v2⟩ := hv
        refine g_ixL (SqL.of (S7.sub _ _ atp)) ev ?_
        walk_at "g"
        refine Dt.NewAt.ds (by assumption) fun t G8 H8 S8 s8 att nt => ?_
        refine hR _ _ G8 (row[i], v) S8 (s6.trans s8) (Dp.tup (SqT.of att) (.cons (.str _) (.cons (.int _) .nil))) ⟨by simp [lb], fun b hb => ?_⟩
        rcases List.mem_append.mp hb with z | z
        · exact ob b z
        · rw [List.mem_singleton.mp z]; exact ⟨v1, v2⟩
      rintro G4 H4 ys bs s4 S4 d4 ⟨lb, ob⟩
      have eD := S4.at (List.mem_cons_self ..)
      obtain ⟨S5, s5⟩ := S4.drop
      walk_at "g"
      refine Dt.NewAt.ds (by assumption) fun u G6 H6 S6 s6 atu nu => ?_
      walk_at "g"
      refine Dt.NewAt.ds (by assumption) fun t G7 H7 S7 s7 att nt => ?_
      have eu := SqT.of (K := K) (s7 _ _ atu)
      exact q G7 H7 _ (.most bs) S7.dk (s2.trans (s4.trans (s5.trans (s6.trans s7)))) (Dp.tup (SqT.of att) (.cons (.str _) (.cons (Dp.tup eu (DpAll.same (s5.trans (s6.trans s7)) d4)) .nil))) ⟨by omega, by omega, ob⟩
    clear e
    walk_at "g"
    refine Dt.NewAt.dsc (by assumption) fun P H4 S4 nP => ?_
    have lrv : (row.map V.str).length = row.length := List.length_map ..
    walk_at "g"
    refine forD (src_range (K := K)) (fun i σ' pre G' => ∃ (rows : List (Str × Int)) (xs : List V) (left : Int) (y7 y8 : Option V), pre = [(P, .lst xs)] ∧ Same G2 G' ∧ σ' = [some (.ref st), some (.ref sc), some (.ref pa), some (.int d1), some (.ref r), none, some (.int left), some (.ref P), y7, y8] ∧ DpAll K G' xs (rows.map encP) ∧ rows.length = i ∧ (∀ b ∈ rows, 1 ≤ b.2 ∧ b.2 ≤ 100) ∧ (rows.map (·.2)).sum + left = 100 ∧ (row.length : Int) - i ≤ left ∧ left ≤ 100) S4 trivial
      ⟨[], [], 100, _, _, rfl, Same.refl _, rfl, .nil, rfl, (fun b h => nomatch h), rfl, by omega, by omega⟩ ?_ ?_
    · rintro i x σ' pre G6 G7 H7 hi _ ⟨rows, xs, left, y7, y8, rfl, s6, rfl, dr, lr, or, sm, b1, b2⟩ s7 S7 ⟨hi', rfl⟩ N hN
      have hir : i < row.length := by omega
      have er7 := S7.sub _ _ (s7 _ _ (s6 _ _ er))
      walk_at "g"
      refine rd_draw S7 (Scr.same (s6.trans s7) hsc) plain1 (by omega) (by omega) fun H8 d8 S8 a8 b8 => ?_
      walk_at "g"
      refine ⟨.inl ⟨rfl, _, SqL.of (S8.at (List.mem_cons_self ..))⟩, ?_⟩
      have er8 := S8.sub _ _ (s7 _ _ (s6 _ _ er))
      walk_at "g"
      refine g_ixL (SqL.of er8) (v := .str row[i]) (by rw [Int.zero_add]; exact atI_nat (by rw [List.getElem?_map, List.getElem?_eq_getElem hir]; rfl)) ?_
      walk_at "g"
      refine Dt.NewAt.ds (by assumption) fun t G9 H9 S9 s9 att nt => ?_
      have eP := S9.at (List.mem_cons_self ..)
      have lx := DpAll.length dr
      rw [List.length_map] at lx
      refine ⟨_, _, _, rfl, rfl, eP, sz5 (by omega), ?_⟩
      have S10 := S9.set (o' := .lst (xs ++ [.ref t]))
      walk_at "g"
      refine hN _ _ _ _ S10 (s7.trans s9) ⟨rows ++ [(row[i], 1 + d8)], _, left - (1 + d8), _, _, rfl, s6.trans (s7.trans s9), rfl, DpAll.snoc (DpAll.same (s7.trans s9) dr) (Dp.tup (SqT.of att) (.cons (.str _) (.cons (.int _) .nil))), by simp [lr], fun b hb => ?_, ?_, ?_, ?_⟩
      · rcases List.mem_append.mp hb with z | z
        · exact or b z
        · rw [List.mem_singleton.mp z]
          exact ⟨by show 1 ≤ 1 + d8; omega, by show 1 + d8 ≤ 100; omega⟩
      · rw [List.map_append, List.sum_append]
        show _ + ((1 + d8) + 0) + (left - (1 + d8)) = 100
        omega
      · omega
      · omega
    · rintro σ' H7 pre G7 S7 _ ⟨rows, xs, left, y7, y8, rfl, s7, rfl, dr, lr, or, sm, b1, b2⟩
      have er7 := S7.sub _ _ (s7 _ _ er)
      have hlast : ∃ w : Str, atI (row.map V.str) (-1) = some (.str w) := by
        refine ⟨row[row.length - 1]'(by omega), ?_⟩
        have e : row.map V.str = (row.take (row.length - 1)).map V.str ++ [V.str (row[row.length - 1]'(by omega))] := by
          have := List.take_succ_eq_append_getElem (l := row) (i := row.length - 1) (by omega)
          rw [show row.length - 1 + 1 = row.length by omega, List.take_length] at this
          conv => lhs; rw [this, List.map_append]
          rfl
        rw [e]; exact atI_last _ _
      obtain ⟨w, ew⟩ := hlast
      walk_at "g"
      refine g_ixL (SqL.of er7) ew ?_
      walk_at "g"
      refine Dt.NewAt.ds (by assumption) fun t G8 H8 S8 s8 att nt => ?_
      walk_at "g"
      refine Dt.NewAt.ds (by assumption) fun L G9 H9 S9 s9 atL nL => ?_
      have eP := S9.at (List.mem_cons_self ..)
      have eL := S9.sub _ _ atL
      walk_at "g"
      have lx := DpAll.length dr
      rw [List.length_map] at lx
      refine ⟨_, _, _, _, rfl, rfl, eP, eL, Nat.le_of_lt (sz5 (by simp; omega)), ?_⟩
      refine Dt.NewAt.ds (by assumption) fun M G10 H10 S10 s10 atM nM => ?_
      walk_at "g"
      refine Dt.NewAt.ds (by assumption) fun u G11 H11 S11 s11 atu nu => ?_
      walk_at "g"
      refine Dt.NewAt.ds (by assumption) fun t2 G12 H12 S12 s12 att2 nt2 => ?_
      obtain ⟨S13, s13⟩ := S12.drop
      have su := s12.trans s13
      have eu := SqT.of (K := K) (su _ _ atu)
      have sA := s8.trans (s9.trans (s10.trans (s11.trans su)))
      have sB := s9.trans (s10.trans (s11.trans su))
      refine q _ H12 _ (.shares (rows ++ [(w, left)])) S13.dk (s2.trans (s7.trans sA)) (Dp.tup (SqT.of (s13 _ _ att2)) (.cons (.str _) (.cons (Dp.tup eu (DpAll.snoc (DpAll.same sA dr) (Dp.tup (SqT.of (sB _ _ att)) (.cons (.str _) (.cons (.int _) .nil))))) .nil))) ⟨⟨by simp, by simp; omega, fun b hb => ?_⟩, ?_⟩
      · rcases List.mem_append.mp hb with z | z
        · exact or b z
        · rw [List.mem_singleton.mp z]
          exact ⟨by show 1 ≤ left; omega, b2⟩
      · rw [List.map_append, List.sum_append]
        show _ + (left + 0) = 100
        omega
theorem rd_form {K : PySem.W.Frag} {Q : VK} {E : XK} {st sc pa : Addr} {ps : List Str} {pre : List (Addr × HO)} {G H : Hp} (t : Ds pre st G H) (hs : Scr K G sc) (pl : ∀ c ∈ pre, Plain c.2) (ha : SqL K G pa (ps.map V.str)) (l1 : 1 ≤ ps.length) (l2 : ps.length ≤ 1000)
    (h : ∀ G' H' v (f : Form), Ds pre st G' H' → Same G G' → Dp K G' v f.py → f.Ok → Q v H') : spF (sp__law_form K) [.ref st, .ref sc, .ref pa] H Q E := by
  obtain ⟨G1, w, t1⟩ := t.split
  exact ⟨pre, G1, w, pl, st, sc, pa, ps, G, rfl, t1, hs, ha, l1, l2, fun G' H' v f t' s' dv ok H2 w2 => h G' H2 v f (Ds.join w2 t') s' dv ok⟩

end
end K55

namespace K55
open PySem PySem.Spec PyProof.Rows L2 Go Dt
set_option maxHeartbeats 8000000
local macro_rules | `(tactic| walk_at "ne") => `(tactic| first
  | assumption
  | (refine Ne.symm ?_; assumption)
  | exact (Go.free_upd (by assumption)).2
  | exact (Go.free_upd (by assumption)).2.symm
  | exact Go.ne_fr (by assumption) (by walk_at "hp")
  | exact (Go.ne_fr (by assumption) (by walk_at "hp")).symm)
local macro_rules | `(tactic| walk_at "fr") => `(tactic| first
  | assumption
  | exact (Go.free_upd (by assumption)).1
  | exact (Go.free_upd (Go.free_upd (by assumption)).1).1
  | exact Same.free (by assumption) (by walk_at "fr"))
local macro_rules | `(tactic| walk_at "hp") => `(tactic| first
  | assumption
  | with_reducible exact upd_same
  | ((with_reducible show upd _ _ _ _ = _); exact Go.at_upd (by walk_at "ne") (by walk_at "hp"))
  | exact (by assumption : Same _ _) _ _ (by walk_at "hp")
  | exact Dt.Own.at (by assumption) (List.mem_cons_self ..)
  | exact Dt.Own.at (by assumption) (List.mem_cons_of_mem _ (List.mem_cons_self ..))
  | exact Dt.Own.at (by assumption) (List.mem_cons_of_mem _ (List.mem_cons_of_mem _ (List.mem_cons_self ..)))
  | exact Dt.Ts.at (by assumption) (List.mem_cons_self ..)
  | exact Dt.Ts.at (by assumption) (List.mem_cons_of_mem _ (List.mem_cons_self ..))
  | exact Dt.Ds.at (by assumption) (List.mem_cons_self ..)
  | exact Dt.Ds.at (by assumption) (List.mem_cons_of_mem _ (List.mem_cons_self ..))
  | exact (Dt.Own.sub (by assumption)) _ _ (by walk_at "hp")
  | exact (Dt.TkS.sub (by assumption)) _ _ (by walk_at "hp")
  | exact (Dt.Ts.sub (by assumption)) _ _ (by walk_at "hp")
  | exact (Dt.DkS.sub (by assumption)) _ _ (by walk_at "hp")
  | exact (Dt.Ds.sub (by assumption)) _ _ (by walk_at "hp")
  | exact (by assumption : Go.Kp _ _ _) _ _ (by walk_at "ne") (by walk_at "hp")
  | exact (by assumption : Go.Kp2 _ _ _ _) _ _ (by walk_at "ne") (by walk_at "ne") (by walk_at "hp"))
local macro_rules | `(tactic| walk_at "sq") => `(tactic| first
  | assumption
  | ((with_reducible show SqL _ (upd _ _ _) _ _); exact (by assumption : ∀ o, SqL _ (upd _ _ o) _ _) _)
  | ((with_reducible show SqL _ _ _ _); exact SqL.of (by walk_at "hp"))
  | ((with_reducible show SqT _ _ _ _); exact SqT.of (by walk_at "hp"))
  | ((with_reducible show SqL _ (upd _ _ _) _ _); exact Go.sqL_new (by walk_at "fr") (by walk_at "sq"))
  | ((with_reducible show SqT _ (upd _ _ _) _ _); exact Go.sqT_new (by walk_at "fr") (by walk_at "sq"))
  | ((with_reducible show SqL _ (upd _ _ _) _ _); exact Go.sqL_ne (by walk_at "ne") (by walk_at "sq"))
  | ((with_reducible show SqL _ _ _ _); exact Go.sqL_same (by assumption) (by walk_at "sq"))
  | ((with_reducible show SqT _ _ _ _); exact Go.sqT_same (by assumption) (by walk_at "sq"))
  | ((with_reducible show SqL _ _ _ _); exact Go.sqL_same (Dt.Own.sub (by assumption)) (by walk_at "sq"))
  | ((with_reducible show SqT _ _ _ _); exact Go.sqT_same (Dt.Own.sub (by assumption)) (by walk_at "sq"))
  | ((with_reducible show SqL _ _ _ _); exact Go.sqL_same (Dt.TkS.sub (by assumption)) (by walk_at "sq"))
  | ((with_reducible show SqL _ _ _ _); exact Go.sqL_same (Dt.Ts.sub (by assumption)) (by walk_at "sq"))
  | ((with_reducible show SqT _ _ _ _); exact Go.sqT_same (Dt.TkS.sub (by assumption)) (by walk_at "sq"))
  | ((with_reducible show SqT _ _ _ _); exact Go.sqT_same (Dt.Ts.sub (by assumption)) (by walk_at "sq"))
  | ((with_reducible show SqL _ _ _ _); exact Go.sqL_same (Dt.DkS.sub (by assumption)) (by walk_at "sq"))
  | ((with_reducible show SqL _ _ _ _); exact Go.sqL_same (Dt.Ds.sub (by assumption)) (by walk_at "sq"))
  | ((with_reducible show SqT _ _ _ _); exact Go.sqT_same (Dt.DkS.sub (by assumption)) (by walk_at "sq"))
  | ((with_reducible show SqT _ _ _ _); exact Go.sqT_same (Dt.Ds.sub (by assumption)) (by walk_at "sq"))
  | ((with_reducible show SqL _ _ _ _); exact Go.sqL_kp (by assumption) (by walk_at "ne") (by walk_at "sq"))
  | ((with_reducible show SqT _ _ _ _); exact Go.sqT_kp (by assumption) (by walk_at "ne") (by walk_at "sq")))
local macro_rules | `(tactic| walk_at "dp") => `(tactic| first
  | assumption
  | with_reducible exact L2.Dp.int _
  | with_reducible exact L2.Dp.str _
  | with_reducible exact L2.Dp.non
  | with_reducible exact L2.Dp.bl _
  | with_reducible exact L2.DpAll.nil
  | ((with_reducible show L2.Dp _ _ _ _); exact Dt.Dp.same (by assumption) (by walk_at "dp"))
  | ((with_reducible show L2.DpAll _ _ _ _); exact Dt.DpAll.same (by assumption) (by walk_at "dp"))
  | ((with_reducible show L2.Dp _ _ _ _); exact Dt.Dp.same (Dt.Own.sub (by assumption)) (by walk_at "dp"))
  | ((with_reducible show L2.DpAll _ _ _ _); exact Dt.DpAll.same (Dt.Own.sub (by assumption)) (by walk_at "dp"))
  | ((with_reducible show L2.Dp _ _ _ _); exact Dt.Dp.same (Dt.TkS.sub (by assumption)) (by walk_at "dp"))
  | ((with_reducible show L2.Dp _ _ _ _); exact Dt.Dp.same (Dt.Ts.sub (by assumption)) (by walk_at "dp"))
  | ((with_reducible show L2.DpAll _ _ _ _); exact Dt.DpAll.same (Dt.TkS.sub (by assumption)) (by walk_at "dp"))
  | ((with_reducible show L2.DpAll _ _ _ _); exact Dt.DpAll.same (Dt.Ts.sub (by assumption)) (by walk_at "dp"))
  | ((with_reducible show L2.Dp _ _ _ _); exact Dt.Dp.same (Dt.DkS.sub (by assumption)) (by walk_at "dp"))
  | ((with_reducible show L2.Dp _ _ _ _); exact Dt.Dp.same (Dt.Ds.sub (by assumption)) (by walk_at "dp"))
  | ((with_reducible show L2.DpAll _ _ _ _); exact Dt.DpAll.same (Dt.DkS.sub (by assumption)) (by walk_at "dp"))
  | ((with_reducible show L2.DpAll _ _ _ _); exact Dt.DpAll.same (Dt.Ds.sub (by assumption)) (by walk_at "dp"))
  | ((with_reducible show L2.Dp _ _ _ _); exact L2.Dp.tup (by walk_at "sq") (by walk_at "dp"))
  | ((with_reducible show L2.Dp _ _ _ _); exact L2.Dp.lst (by walk_at "sq") (by walk_at "dp"))
  | with_reducible exact L2.DpAll.cons (by walk_at "dp") (by walk_at "dp")
  | ((with_reducible show Dt.Scr _ _ _); exact Dt.Scr.same (by assumption) (by walk_at "dp"))
  | exact Dt.dpAll_ints.mpr rfl
  | exact Dt.dpAll_strs.mpr rfl
  | exact Dt.dpAll_bools.mpr rfl)
local macro_rules | `(tactic| walk_at "ci") => `(tactic| first
  | exact .inr ⟨by decide, by decide⟩
  | exact .inl ⟨by decide, by decide⟩
  | exact ⟨by decide, by decide, by decide⟩
  | decide
  | omega
  | exact ⟨by omega, by omega⟩
  | exact .inl ⟨by omega, by omega⟩
  | exact .inr ⟨by omega, by omega⟩)
local macro_rules | `(tactic| walk_at "g0") => `(tactic| first
  | with_reducible refine Go.g_seq ?_
  | ((with_reducible show tVar _ _ _ _); refine ⟨_, rfl, ?_⟩)
  | with_reducible refine Go.g_c ?_
  | with_reducible refine Go.g_op ?_
  | with_reducible refine Go.g_asg ?_
  | with_reducible refine Go.g_name ?_
  | with_reducible refine Go.g_cons ?_
  | with_reducible refine Dt.g_orV ?_
  | with_reducible refine Dt.g_andV ?_
  | with_reducible refine Dt.g_notV ?_
  | with_reducible refine Dt.g_lst2 ?_
  | with_reducible refine Dt.g_tup2 ?_
  | with_reducible refine Go.g_for ?_
  | with_reducible refine Go.g_rng1 ?_
  | with_reducible refine Go.g_rng2 ?_
  | with_reducible refine Go.g_rng3 ?_
  | with_reducible refine Go.g_list ?_
  | with_reducible refine Go.g_itup ?_
  | with_reducible refine Go.g_enum ?_
  | ((with_reducible show tPar _ _ _ _ _ _); unfold tPar)
  | ((with_reducible show ∃ v w, [_, _] = [v, w] ∧ _); refine ⟨_, _, rfl, ?_⟩)
  | with_reducible refine Go.g_zip ?_
  | with_reducible refine Go.g_augS ?_
  | with_reducible refine Go.g_lc ?_
  | with_reducible refine Go.g_nil ?_
  | with_reducible refine Go.g_cb ?_
  | with_reducible refine Go.g_call ?_
  | with_reducible refine Go.g_ret ?_
  | with_reducible refine Go.g_next ?_
  | with_reducible refine Go.g_drop ?_
  | with_reducible refine Go.g_un ?_
  | with_reducible refine Go.g_test ?_
  | with_reducible refine Go.g_tB ?_
  | with_reducible refine Go.g_ifs ?_
  | with_reducible refine Go.g_if ?_
  | with_reducible refine Go.g_and ?_
  | with_reducible refine Go.g_or ?_
  | with_reducible refine Go.g_not ?_
  | with_reducible refine Go.g_sl ?_
  | with_reducible refine Go.g_nopart ?_
  | with_reducible refine Go.g_part ?_
  | ((with_reducible show ∃ k, V.bl _ = V.bl k ∧ _); refine ⟨_, rfl, ?_⟩)
  | ((with_reducible show ∃ k, V.int _ = V.int k ∧ _); refine ⟨_, rfl, ?_⟩)
  | with_reducible refine Go.g_bm ?_
  | with_reducible refine Go.g_yes ?_
  | ((with_reducible show rI0 _ _ _ _ _); refine ⟨_, _, rfl, rfl, ?_⟩)
  | ((with_reducible show rI _ _ _ _ _ _); refine ⟨_, _, rfl, rfl, ?_, ?_⟩; (focus walk_at "ci"))
  | ((with_reducible show rU _ _ _ _); refine ⟨_, rfl, ?_⟩)
  | ((with_reducible show V.non = V.non ∧ _); refine ⟨rfl, ?_⟩)
  | ((with_reducible show rIsB _ _ _ _); refine ⟨_, _, rfl, rfl, ?_⟩)
  | ((with_reducible show rNotB _ _ _ _); refine ⟨_, _, rfl, rfl, ?_⟩)
  | ((with_reducible show rEq _ _ _ _); refine ⟨rfl, ?_⟩)
  | ((with_reducible show rNe _ _ _ _); refine ⟨rfl, ?_⟩)
  | ((with_reducible show rIxL _ _ _ _ _); refine Go.g_ixL (by walk_at "sq") (by rfl) ?_)
  | ((with_reducible show rIxT _ _ _ _ _); refine Go.g_ixT (by walk_at "sq") (by rfl) ?_)
  | ((with_reducible show rSetL _ _ _ _ _); refine Go.g_setL (by walk_at "hp") (by rfl) ?_)
  | ((with_reducible show ∃ p ys, [V.ref _] = [V.ref p] ∧ (SqL _ _ _ _ ∨ SqT _ _ _ _) ∧ _); refine ⟨_, _, rfl, .inl (by walk_at "sq"), ?_⟩)
  | ((with_reducible show (∃ i, [V.int _] = [V.int i] ∧ _) ∨ _); refine .inl ⟨_, rfl, ?_⟩)
  | ((with_reducible show ∃ (c : Nat) (z : Str), V.str _ = V.str ⟨#[c]⟩ ∧ V.str _ = V.str z ∧ _); refine ⟨_, _, rfl, rfl, ?_⟩)
  | ((with_reducible show ∃ x : Str, [V.str _] = [V.str x] ∧ Str.length x = 1 ∧ _); refine ⟨_, rfl, rfl, ?_⟩)
  | ((with_reducible show ∃ z : Str, [V.str _] = [V.str z] ∧ Str.length z ≤ sizeLine ∧ _); refine ⟨_, rfl, by assumption, ?_⟩)
  | ((with_reducible show rSlS _ _ _ _ _); refine ⟨_, rfl, by assumption, ?_⟩)
  | ((with_reducible show gTup _ _ _ _ _ _ _); refine Go.g_gtup (by walk_at "sq") (by rfl) ?_)
  | ((with_reducible show gCons _ _ _ _ _ _); refine ⟨_, _, rfl, ?_⟩)
  | ((with_reducible show gNil _ _ _ _); refine ⟨rfl, ?_⟩)
  | ((with_reducible show rLenS _ _ _ _); refine Go.g_lenL (by walk_at "sq") ?_)
  | ((with_reducible show rListOf _ _ _ _); refine Go.g_listL (by walk_at "sq") ?_)
  | ((with_reducible show Dt.rList2 _ _ _ _); refine ⟨_, _, rfl, .inl (by walk_at "sq"), ?_⟩)
  | ((with_reducible show Dt.rTuple2 _ _ _ _); refine ⟨_, _, rfl, by walk_at "sq", ?_⟩)
  | ((with_reducible show Dt.rSlL2 _ _ _ _ _ _); refine ⟨_, _, rfl, by walk_at "sq", ?_⟩)
  | ((with_reducible show wipe _ _ = wipe _ _ ∧ _); refine ⟨rfl, ?_⟩)
  | ((with_reducible show if true = true then _ else _); refine iteT ?_)
  | ((with_reducible show if false = true then _ else _); refine iteF ?_)
  | ((with_reducible show ∃ a b xs ys, [V.ref _, V.ref _] = [V.ref a, V.ref b] ∧ SqL _ _ a xs ∧ SqL _ _ b ys ∧ _); refine ⟨_, _, _, _, rfl, by walk_at "sq", by walk_at "sq", ?_⟩)
  | ((with_reducible show ∃ a xs, [V.ref _] = [V.ref a] ∧ SqL _ _ a xs ∧ _); refine ⟨_, _, rfl, by walk_at "sq", ?_⟩)
  | ((with_reducible show ∃ a, V.ref _ = V.ref a ∧ (∃ xs, SqL _ _ a xs) ∧ _); refine ⟨_, rfl, ⟨_, by walk_at "sq"⟩, ?_⟩)
  | ((with_reducible show ∃ a, V.ref _ = V.ref a ∧ (∃ xs, SqT _ _ a xs) ∧ _); refine ⟨_, rfl, ⟨_, by walk_at "sq"⟩, ?_⟩)
  | ((with_reducible show ∃ j : Int, [V.int _] = [V.int j] ∧ _ ≤ j ∧ j < _ ∧ _); refine ⟨_, rfl, by omega, by omega, ?_⟩)
  | ((with_reducible show ∃ i j : Int, [V.int _, V.int _] = [V.int i, V.int j] ∧ (_ ≤ i ∧ i < _ ∧ _ ≤ j ∧ j < _) ∧ _); refine ⟨_, _, rfl, ⟨by omega, by omega, by omega, by omega⟩, ?_⟩)
  | ((with_reducible show ∃ i j : Int, [V.int _, V.int _] = [V.int i, V.int j] ∧ _); refine ⟨_, _, rfl, ?_⟩)
  | ((with_reducible show ∃ i : Int, [V.int _] = [V.int i] ∧ _); refine ⟨_, rfl, ?_⟩)
  | ((with_reducible show _ ≤ sizeLine ∧ _); refine ⟨by first | decide | (simp only [List.length_cons, List.length_nil]; decide), ?_⟩))
local macro_rules | `(tactic| walk_at "g1") => `(tactic| first | walk_at "g0" | with_reducible refine Go.g_sub ?_)
local macro_rules | `(tactic| walk_at "g") => `(tactic| repeat walk_at "g1")
local macro_rules | `(tactic| walk_at "v") => `(tactic| repeat walk_at "g0")
local macro_rules | `(tactic| walk_at "if") => `(tactic| first
  | with_reducible refine @Go.g_itd _ _ _ _ ?_ ?_
  | with_reducible refine @Go.g_itnd _ _ _ _ ?_ ?_
  | with_reducible refine Go.g_ite ?_ ?_)

section
variable {P : Program} {w : World} {K : PySem.W.Frag} {mg : Str → Option Value} {base : Heap}
theorem pick_str {ps : List Str} {i : Nat} {x : V} (h : (ps.map V.str)[i]? = some x) : ∃ s, x = .str s ∧ s ∈ ps := by
  rw [List.getElem?_map] at h
  obtain ⟨s, hs, rfl⟩ := Option.map_eq_some_iff.mp h
  exact ⟨s, rfl, List.mem_of_getElem? hs⟩
structure Wo (K : PySem.W.Frag) (G : Hp) (wt pa qa : Addr) (ps qs : List Str) (w2 : Int) : Prop where
  top : SqT K G wt [.ref pa, .ref qa, .int w2]
  par : SqL K G pa (ps.map V.str)
  pur : SqL K G qa (qs.map V.str)
  p1 : 1 ≤ ps.length
  p2 : ps.length ≤ 100
  q1 : 1 ≤ qs.length
  q2 : qs.length ≤ 100
  w1 : 1 ≤ w2
  w9 : w2 ≤ 100000
theorem Wo.same {K : PySem.W.Frag} {G G' : Hp} {wt pa qa : Addr} {ps qs : List Str} {w2 : Int} (s : Same G G') (w : Wo K G wt pa qa ps qs w2) : Wo K G' wt pa qa ps qs w2 :=
  ⟨sqT_same s w.top, sqL_same s w.par, sqL_same s w.pur, w.p1, w.p2, w.q1, w.q2, w.w1, w.w9⟩
def sp__law_gifts (K : PySem.W.Frag) : Sp := fun vs H Q _ => ∃ (st sc wt pa qa : Addr) (ps qs : List Str) (w2 : Int) (many : Nat) (gr : Int) (G : Hp), vs = [.ref st, .ref sc, .ref wt, .int (many : Int), .int gr] ∧ DkS st G H ∧ Scr K G sc ∧ Wo K G wt pa qa ps qs w2 ∧ many ≤ 90 ∧ 1 ≤ gr ∧ gr ≤ 999999998 ∧
  ∀ G' H' p xs (gs : List Gf), DkS st G' H' → Same G G' → G' p = some (.lst xs) → DpAll K G' xs (gs.map Gf.py) → gs.length = many → (∀ g ∈ gs, g.Ok ∧ g.giver ∈ ps) → Q (.ref p) H'
theorem ok__law_gifts (T : Txt K mg) : FnOk P w K mg base CX0 4 T.a__law_gifts T.fd__law_gifts ["state", "script", "world", "many", "greatest"] (sp__law_gifts K) := by
  refine T.F__law_gifts.ok sc__law_gifts (fun vs H Q E h => ?_) (fun cdv A outer s H vs Q E hr h => ?_)
  · obtain ⟨st, sc, wt, pa, qa, ps, qs, w2, many, gr, G, rfl, _⟩ := h; rfl
  · obtain ⟨st, sc, wt, pa, qa, ps, qs, w2, many, gr, G, rfl, S, hsc, W, m9, g1, g9, q⟩ := h
    have S := S.ds
    refine ⟨_, pss_cons (ps_set (i := 5) sc__law_gifts.nd rfl (.inl rfl) (pe_lst pa_nil))
      (pss_cons (ps_for PassesOwn.never rfl (pi_range1 (by rfl) T.n_range (pa_cons (pv 3) pa_nil)) (pg_name (i := 6) sc__law_gifts.nd rfl (.inl rfl))
        (pss_cons (ps_set (i := 7) sc__law_gifts.nd rfl (.inl rfl) (pe_call (Dt.frame_call (ok__law_pick T)) (hr.mono (by decide)) (by rfl) T.g__law_pick T.F__law_pick.kp T.b__law_pick .nil pass0 (pa_cons (pv 0) (pa_cons (pv 1) (pa_cons (pe_ix ix_tup (pv 2) pe_int (fun _ _ => rfl)) pa_nil)))))
        (pss_cons (ps_set (i := 8) sc__law_gifts.nd rfl (.inl rfl) (pe_ix ix_list (pe_lst (pa_cons (pe_call (Dt.frame_call (ok__law_draw T)) (hr.mono (by decide)) (by rfl) T.g__law_draw T.F__law_draw.kp T.b__law_draw .nil pass0 (pa_cons (pv 0) (pa_cons (pv 1) (pa_cons pe_int pa_nil)))) (pa_cons (pe_call (Dt.frame_call (ok__law_draw T)) (hr.mono (by decide)) (by rfl) T.g__law_draw T.F__law_draw.kp T.b__law_draw .nil pass0 (pa_cons (pv 0) (pa_cons (pv 1) (pa_cons (pe_ix ix_tup (pv 2) pe_int (fun _ _ => rfl)) pa_nil)))) pa_nil))) (pe_call (Dt.frame_call (ok__law_draw T)) (hr.mono (by decide)) (by rfl) T.g__law_draw T.F__law_draw.kp T.b__law_draw .nil pass0 (pa_cons (pv 0) (pa_cons (pv 1) (pa_cons pe_int pa_nil)))) (fun _ _ => rfl)))
        (pss_cons (ps_set (i := 9) sc__law_gifts.nd rfl (.inl rfl) (pe_ix ix_list (pe_lst (pa_cons (pe_op op_add pe_int (pe_call (Dt.frame_call (ok__law_draw T)) (hr.mono (by decide)) (by rfl) T.g__law_draw T.F__law_draw.kp T.b__law_draw .nil pass0 (pa_cons (pv 0) (pa_cons (pv 1) (pa_cons pe_int pa_nil))))) (pa_cons (pe_op op_add pe_int (pe_call (Dt.frame_call (ok__law_draw T)) (hr.mono (by decide)) (by rfl) T.g__law_draw T.F__law_draw.kp T.b__law_draw .nil pass0 (pa_cons (pv 0) (pa_cons (pv 1) (pa_cons (pv 4) pa_nil))))) pa_nil))) (pe_call (Dt.frame_call (ok__law_draw T)) (hr.mono (by decide)) (by rfl) T.g__law_draw T.F__law_draw.kp T.b__law_draw .nil pass0 (pa_cons (pv 0) (pa_cons (pv 1) (pa_cons pe_int pa_nil)))) (fun _ _ => rfl)))
        (pss_cons (ps_set (i := 10) sc__law_gifts.nd rfl (.inl rfl) (pe_ix ix_list (pe_lst (pa_cons pe_int (pa_cons pe_int (pa_cons pe_int (pa_cons pe_int pa_nil))))) (pe_call (Dt.frame_call (ok__law_draw T)) (hr.mono (by decide)) (by rfl) T.g__law_draw T.F__law_draw.kp T.b__law_draw .nil pass0 (pa_cons (pv 0) (pa_cons (pv 1) (pa_cons pe_int pa_nil)))) (fun _ _ => rfl)))
        (pss_cons (ps_set (i := 11) sc__law_gifts.nd rfl (.inl rfl) (pe_ix ix_list (pe_lst (pa_cons pe_non (pa_cons (pv 8) (pa_cons (pe_op op_add (pv 8) (pe_call (Dt.frame_call (ok__law_draw T)) (hr.mono (by decide)) (by rfl) T.g__law_draw T.F__law_draw.kp T.b__law_draw .nil pass0 (pa_cons (pv 0) (pa_cons (pv 1) (pa_cons pe_int pa_nil))))) pa_nil)))) (pe_call (Dt.frame_call (ok__law_draw T)) (hr.mono (by decide)) (by rfl) T.g__law_draw T.F__law_draw.kp T.b__law_draw .nil pass0 (pa_cons (pv 0) (pa_cons (pv 1) (pa_cons pe_int pa_nil)))) (fun _ _ => rfl)))
        (pss_cons (ps_set (i := 12) sc__law_gifts.nd rfl (.inl rfl) (pe_call (Dt.frame_call (ok__law_form T)) hr (by rfl) T.g__law_form T.F__law_form.kp T.b__law_form .nil pass0 (pa_cons (pv 0) (pa_cons (pv 1) (pa_cons (pe_ix ix_tup (pv 2) pe_int (fun _ _ => rfl)) pa_nil)))))
        (pss_one (ps_expr (pe_bm PySem.F.plainAttrs_list PySem.F.slot_list_append PySem.F.type_list_append mt_append (pv 5) (pa_cons (pe_tup (pa_cons (pe_call (Dt.frame_call (ok__law_name T)) (hr.mono (by decide)) (by rfl) T.g__law_name T.F__law_name.kp T.b__law_name .nil pass0 (pa_cons (pv 0) (pa_cons (pv 1) (pa_cons (pv 6) pa_nil)))) (pa_cons (pv 7) (pa_cons (pv 8) (pa_cons (pe_callB (call_min2 rfl) (by rfl) T.n_min (by decide +kernel) (pa_cons (pv 4) (pa_cons (pv 9) pa_nil))) (pa_cons (pv 12) (pa_cons (pv 11) (pa_cons pe_non (pa_cons (pv 10) pa_nil))))))))) pa_nil)))))))))))
      (pss_one (ps_ret (pv 5)))), ?_⟩
    walk_at "g"
    refine Dt.NewAt.dsc (by assumption) fun P H1 S1 nP => ?_
    walk_at "g"
    refine forD (src_range (K := K)) (fun i σ' pre G' => ∃ (gs : List Gf) (xs : List V) (y6 y7 y8 y9 y10 y11 y12 : Option V), pre = [(P, .lst xs)] ∧ Same G G' ∧ σ' = [some (.ref st), some (.ref sc), some (.ref wt), some (.int (many : Int)), some (.int gr), some (.ref P), y6, y7, y8, y9, y10, y11, y12] ∧ DpAll K G' xs (gs.map Gf.py) ∧ gs.length = i ∧ ∀ g ∈ gs, g.Ok ∧ g.giver ∈ ps) S1 trivial
      ⟨[], [], _, _, _, _, _, _, _, rfl, Same.refl _, rfl, .nil, rfl, fun b h => nomatch h⟩ ?_ ?_
    · rintro i x σ' pre G' G2 H2 hi _ ⟨gs, xs, y6, y7, y8, y9, y10, y11, y12, rfl, sg, rfl, dg, lg, og⟩ s2 S2 ⟨hi', rfl⟩ N hN
      have hsc2 := Scr.same (sg.trans s2) hsc
      have W2 := W.same (sg.trans s2)
      have wl := W.p1
      have wl2 := W.p2
      have ww1 := W.w1
      have ww9 := W.w9
      have q_w := W2.top
      rw [Int.zero_add]
      walk_at "g"
      refine rd_pick S2 hsc2 plain1 W2.par (by rw [List.length_map]; omega) (by rw [List.length_map]; omega) fun H3 ix x S3 ex => ?_
      obtain ⟨giver, rfl, hgv⟩ := pick_str ex
      walk_at "g"
      refine rd_draw S3 hsc2 plain1 (by decide) (by decide) fun H4 d4 S4 a4 b4 => ?_
      walk_at "g"
      refine rd_draw S4 hsc2 plain1 (by omega) (by omega) fun H5 d5 S5 a5 b5 => ?_
      walk_at "g"
      refine Dt.NewAt.ds (by assumption) fun l6 G6 H6 S6 s6 atl6 nl6 => ?_
      have hsc6 := Scr.same s6 hsc2
      walk_at "g"
      refine rd_draw S6 hsc6 plain1 (by decide) (by decide) fun H7 d7 S7 a7 b7 => ?_
      have hv : ∃ v : Int, atI [V.int d4, .int d5] d7 = some (.int v) := by
        have : d7 = 0 ∨ d7 = 1 := by omega
        rcases this with rfl | rfl <;> exact ⟨_, rfl⟩
      obtain ⟨day, eday⟩ := hv
      refine g_ixL (SqL.of (S7.sub _ _ atl6)) eday ?_
      walk_at "g"
      refine rd_draw S7 hsc6 plain1 (by decide) (by decide) fun H8 d8 S8 a8 b8 => ?_
      walk_at "g"
      refine rd_draw S8 hsc6 plain1 (by omega) (by omega) fun H9 d9 S9 a9 b9 => ?_
      walk_at "g"
      refine Dt.NewAt.ds (by assumption) fun l10 G10 H10 S10 s10 atl10 nl10 => ?_
      have hsc10 := Scr.same s10 hsc6
      walk_at "g"
      refine rd_draw S10 hsc10 plain1 (by decide) (by decide) fun H11 d11 S11 a11 b11 => ?_
      have hv : ∃ v : Int, atI [V.int (1 + d8), .int (1 + d9)] d11 = some (.int v) ∧ 1 ≤ v ∧ v ≤ 999999999 := by
        have : d11 = 0 ∨ d11 = 1 := by omega
        rcases this with rfl | rfl <;> exact ⟨_, rfl, by omega, by omega⟩
      obtain ⟨cents, ecents, c1, c9⟩ := hv
      refine g_ixL (SqL.of (S11.sub _ _ atl10)) ecents ?_
      walk_at "g"
      refine Dt.NewAt.ds (by assumption) fun l12 G12 H12 S12 s12 atl12 nl12 => ?_
      have hsc12 := Scr.same s12 hsc10
      walk_at "g"
      refine rd_draw S12 hsc12 plain1 (by decide) (by decide) fun H13 d13 S13 a13 b13 => ?_
      have hv : ∃ v : Int, atI [V.int 0, .int 0, .int 0, .int 1] d13 = some (.int v) := by
        have : d13 = 0 ∨ d13 = 1 ∨ d13 = 2 ∨ d13 = 3 := by omega
        rcases this with rfl | rfl | rfl | rfl <;> exact ⟨_, rfl⟩
      obtain ⟨hid, ehid⟩ := hv
      refine g_ixL (SqL.of (S13.sub _ _ atl12)) ehid ?_
      walk_at "g"
      refine rd_draw S13 hsc12 plain1 (by decide) (by decide) fun H14 d14 S14 a14 b14 => ?_
      walk_at "g"
      refine Dt.NewAt.ds (by assumption) fun l15 G15 H15 S15 s15 atl15 nl15 => ?_
      have hsc15 := Scr.same s15 hsc12
      walk_at "g"
      refine rd_draw S15 hsc15 plain1 (by decide) (by decide) fun H16 d16 S16 a16 b16 => ?_
      have hv : ∃ (v : V) (l : Option Int), atI [V.non, .int day, .int (day + d14)] d16 = some v ∧ ∀ G, Dp K G v (optD l) := by
        have : d16 = 0 ∨ d16 = 1 ∨ d16 = 2 := by omega
        rcases this with rfl | rfl | rfl
        · exact ⟨_, none, rfl, fun _ => .non⟩
        · exact ⟨_, some _, rfl, fun _ => .int _⟩
        · exact ⟨_, some _, rfl, fun _ => .int _⟩
      obtain ⟨lv, last, elast, dlast⟩ := hv
      refine g_ixL (SqL.of (S16.sub _ _ atl15)) elast ?_
      have sW := s6.trans (s10.trans (s12.trans s15))
      have W16 := W2.same sW
      have q_w := W16.top
      clear S2 S3 S4 S5 S6 S7 S8 S9 S10 S11 S12 S13 S14 S15
      walk_at "g"
      have q1 := W.q1
      have q2 := W.q2
      refine rd_form S16 hsc15 plain1 W16.pur (by omega) (by omega) fun G17 H17 fv f S17 s17 df ok => ?_
      have hsc17 := Scr.same s17 hsc15
      walk_at "g"
      refine ⟨.inl ⟨rfl, _, SqL.of (S17.at (List.mem_cons_self ..))⟩, ?_⟩
      walk_at "g"
      refine rd_name S17 hsc17 plain1 (by omega) fun G18 H18 nm S18 s18 hnm => ?_
      walk_at "g"
      refine Dt.NewAt.ds (by assumption) fun t G19 H19 S19 s19 att nt => ?_
      have eP := S19.at (List.mem_cons_self ..)
      have lx := DpAll.length dg
      rw [List.length_map] at lx
      refine ⟨_, _, _, rfl, rfl, eP, sz5 (by omega), ?_⟩
      have S20 := S19.set (o' := .lst (xs ++ [.ref t]))
      have sAll := s2.trans (sW.trans (s17.trans (s18.trans s19)))
      walk_at "g"
      refine hN _ _ _ _ S20 sAll ⟨gs ++ [⟨mkS nm, giver, day, (if cents < gr then cents else gr), f, last, hid⟩], _, _, _, _, _, _, _, _, rfl, sg.trans sAll, rfl, DpAll.snoc (DpAll.same sAll dg) (Dp.tup (SqT.of att) (.cons (.str _) (.cons (.str _) (.cons (.int _) (.cons (.int _) (.cons (Dp.same (s18.trans s19) df) (.cons (dlast _) (.cons .non (.cons (.int _) .nil))))))))), by simp [lg], fun b hb => ?_⟩
      rcases List.mem_append.mp hb with z | z
      · exact og b z
      · rw [List.mem_singleton.mp z]
        refine ⟨⟨ok, ?_, ?_⟩, hgv⟩
        · show 1 ≤ (if cents < gr then cents else gr)
          split <;> omega
        · show (if cents < gr then cents else gr) ≤ 999999999
          split <;> omega
    · rintro σ' H2 pre G2 S2 _ ⟨gs, xs, y6, y7, y8, y9, y10, y11, y12, rfl, sg, rfl, dg, lg, og⟩
      walk_at "g"
      obtain ⟨S3, s3⟩ := S2.drop
      exact q _ H2 P xs gs S3.dk (sg.trans s3) upd_same (DpAll.same s3 dg) (by omega) og

end
end K55

namespace K55
open PySem PySem.Spec PyProof.Rows L2 Go Dt
set_option maxHeartbeats 8000000
local macro_rules | `(tactic| walk_at "ne") => `(tactic| first
  | assumption
  | (refine Ne.symm ?_; assumption)
  | exact (Go.free_upd (by assumption)).2
  | exact (Go.free_upd (by assumption)).2.symm
  | exact Go.ne_fr (by assumption) (by walk_at "hp")
  | exact (Go.ne_fr (by assumption) (by walk_at "hp")).symm)
local macro_rules | `(tactic| walk_at "fr") => `(tactic| first
  | assumption
  | exact (Go.free_upd (by assumption)).1
  | exact (Go.free_upd (Go.free_upd (by assumption)).1).1
  | exact Same.free (by assumption) (by walk_at "fr"))
local macro_rules | `(tactic| walk_at "hp") => `(tactic| first
  | assumption
  | with_reducible exact upd_same
  | ((with_reducible show upd _ _ _ _ = _); exact Go.at_upd (by walk_at "ne") (by walk_at "hp"))
  | exact (by assumption : Same _ _) _ _ (by walk_at "hp")
  | exact Dt.Own.at (by assumption) (List.mem_cons_self ..)
  | exact Dt.Own.at (by assumption) (List.mem_cons_of_mem _ (List.mem_cons_self ..))
  | exact Dt.Own.at (by assumption) (List.mem_cons_of_mem _ (List.mem_cons_of_mem _ (List.mem_cons_self ..)))
  | exact Dt.Ts.at (by assumption) (List.mem_cons_self ..)
  | exact Dt.Ts.at (by assumption) (List.mem_cons_of_mem _ (List.mem_cons_self ..))
  | exact Dt.Ds.at (by assumption) (List.mem_cons_self ..)
  | exact Dt.Ds.at (by assumption) (List.mem_cons_of_mem _ (List.mem_cons_self ..))
  | exact (Dt.Own.sub (by assumption)) _ _ (by walk_at "hp")
  | exact (Dt.TkS.sub (by assumption)) _ _ (by walk_at "hp")
  | exact (Dt.Ts.sub (by assumption)) _ _ (by walk_at "hp")
  | exact (Dt.DkS.sub (by assumption)) _ _ (by walk_at "hp")
  | exact (Dt.Ds.sub (by assumption)) _ _ (by walk_at "hp")
  | exact (by assumption : Go.Kp _ _ _) _ _ (by walk_at "ne") (by walk_at "hp")
  | exact (by assumption : Go.Kp2 _ _ _ _) _ _ (by walk_at "ne") (by walk_at "ne") (by walk_at "hp"))
local macro_rules | `(tactic| walk_at "sq") => `(tactic| first
  | assumption
  | ((with_reducible show SqL _ (upd _ _ _) _ _); exact (by assumption : ∀ o, SqL _ (upd _ _ o) _ _) _)
  | ((with_reducible show SqL _ _ _ _); exact SqL.of (by walk_at "hp"))
  | ((with_reducible show SqT _ _ _ _); exact SqT.of (by walk_at "hp"))
  | ((with_reducible show SqL _ (upd _ _ _) _ _); exact Go.sqL_new (by walk_at "fr") (by walk_at "sq"))
  | ((with_reducible show SqT _ (upd _ _ _) _ _); exact Go.sqT_new (by walk_at "fr") (by walk_at "sq"))
  | ((with_reducible show SqL _ (upd _ _ _) _ _); exact Go.sqL_ne (by walk_at "ne") (by walk_at "sq"))
  | ((with_reducible show SqL _ _ _ _); exact Go.sqL_same (by assumption) (by walk_at "sq"))
  | ((with_reducible show SqT _ _ _ _); exact Go.sqT_same (by assumption) (by walk_at "sq"))
  | ((with_reducible show SqL _ _ _ _); exact Go.sqL_same (Dt.Own.sub (by assumption)) (by walk_at "sq"))
  | ((with_reducible show SqT _ _ _ _); exact Go.sqT_same (Dt.Own.sub (by assumption)) (by walk_at "sq"))
  | ((with_reducible show SqL _ _ _ _); exact Go.sqL_same (Dt.TkS.sub (by assumption)) (by walk_at "sq"))
  | ((with_reducible show SqL _ _ _ _); exact Go.sqL_same (Dt.Ts.sub (by assumption)) (by walk_at "sq"))
  | ((with_reducible show SqT _ _ _ _); exact Go.sqT_same (Dt.TkS.sub (by assumption)) (by walk_at "sq"))
  | ((with_reducible show SqT _ _ _ _); exact Go.sqT_same (Dt.Ts.sub (by assumption)) (by walk_at "sq"))
  | ((with_reducible show SqL _ _ _ _); exact Go.sqL_same (Dt.DkS.sub (by assumption)) (by walk_at "sq"))
  | ((with_reducible show SqL _ _ _ _); exact Go.sqL_same (Dt.Ds.sub (by assumption)) (by walk_at "sq"))
  | ((with_reducible show SqT _ _ _ _); exact Go.sqT_same (Dt.DkS.sub (by assumption)) (by walk_at "sq"))
  | ((with_reducible show SqT _ _ _ _); exact Go.sqT_same (Dt.Ds.sub (by assumption)) (by walk_at "sq"))
  | ((with_reducible show SqL _ _ _ _); exact Go.sqL_kp (by assumption) (by walk_at "ne") (by walk_at "sq"))
  | ((with_reducible show SqT _ _ _ _); exact Go.sqT_kp (by assumption) (by walk_at "ne") (by walk_at "sq")))
local macro_rules | `(tactic| walk_at "dp") => `(tactic| first
  | assumption
  | with_reducible exact L2.Dp.int _
  | with_reducible exact L2.Dp.str _
  | with_reducible exact L2.Dp.non
  | with_reducible exact L2.Dp.bl _
  | with_reducible exact L2.DpAll.nil
  | ((with_reducible show L2.Dp _ _ _ _); exact Dt.Dp.same (by assumption) (by walk_at "dp"))
  | ((with_reducible show L2.DpAll _ _ _ _); exact Dt.DpAll.same (by assumption) (by walk_at "dp"))
  | ((with_reducible show L2.Dp _ _ _ _); exact Dt.Dp.same (Dt.Own.sub (by assumption)) (by walk_at "dp"))
  | ((with_reducible show L2.DpAll _ _ _ _); exact Dt.DpAll.same (Dt.Own.sub (by assumption)) (by walk_at "dp"))
  | ((with_reducible show L2.Dp _ _ _ _); exact Dt.Dp.same (Dt.TkS.sub (by assumption)) (by walk_at "dp"))
  | ((with_reducible show L2.Dp _ _ _ _); exact Dt.Dp.same (Dt.Ts.sub (by assumption)) (by walk_at "dp"))
  | ((with_reducible show L2.DpAll _ _ _ _); exact Dt.DpAll.same (Dt.TkS.sub (by assumption)) (by walk_at "dp"))
  | ((with_reducible show L2.DpAll _ _ _ _); exact Dt.DpAll.same (Dt.Ts.sub (by assumption)) (by walk_at "dp"))
  | ((with_reducible show L2.Dp _ _ _ _); exact Dt.Dp.same (Dt.DkS.sub (by assumption)) (by walk_at "dp"))
  | ((with_reducible show L2.Dp _ _ _ _); exact Dt.Dp.same (Dt.Ds.sub (by assumption)) (by walk_at "dp"))
  | ((with_reducible show L2.DpAll _ _ _ _); exact Dt.DpAll.same (Dt.DkS.sub (by assumption)) (by walk_at "dp"))
  | ((with_reducible show L2.DpAll _ _ _ _); exact Dt.DpAll.same (Dt.Ds.sub (by assumption)) (by walk_at "dp"))
  | ((with_reducible show L2.Dp _ _ _ _); exact L2.Dp.tup (by walk_at "sq") (by walk_at "dp"))
  | ((with_reducible show L2.Dp _ _ _ _); exact L2.Dp.lst (by walk_at "sq") (by walk_at "dp"))
  | with_reducible exact L2.DpAll.cons (by walk_at "dp") (by walk_at "dp")
  | ((with_reducible show Dt.Scr _ _ _); exact Dt.Scr.same (by assumption) (by walk_at "dp"))
  | exact Dt.dpAll_ints.mpr rfl
  | exact Dt.dpAll_strs.mpr rfl
  | exact Dt.dpAll_bools.mpr rfl)
local macro_rules | `(tactic| walk_at "ci") => `(tactic| first
  | exact .inr ⟨by decide, by decide⟩
  | exact .inl ⟨by decide, by decide⟩
  | exact ⟨by decide, by decide, by decide⟩
  | decide
  | omega
  | exact ⟨by omega, by omega⟩
  | exact .inl ⟨by omega, by omega⟩
  | exact .inr ⟨by omega, by omega⟩)
local macro_rules | `(tactic| walk_at "g0") => `(tactic| first
  | with_reducible refine Go.g_seq ?_
  | ((with_reducible show tVar _ _ _ _); refine ⟨_, rfl, ?_⟩)
  | with_reducible refine Go.g_c ?_
  | with_reducible refine Go.g_op ?_
  | with_reducible refine Go.g_asg ?_
  | with_reducible refine Go.g_name ?_
  | with_reducible refine Go.g_cons ?_
  | with_reducible refine Dt.g_orV ?_
  | with_reducible refine Dt.g_andV ?_
  | with_reducible refine Dt.g_notV ?_
  | with_reducible refine Dt.g_lst2 ?_
  | with_reducible refine Dt.g_tup2 ?_
  | with_reducible refine Go.g_for ?_
  | with_reducible refine Go.g_rng1 ?_
  | with_reducible refine Go.g_rng2 ?_
  | with_reducible refine Go.g_rng3 ?_
  | with_reducible refine Go.g_list ?_
  | with_reducible refine Go.g_itup ?_
  | with_reducible refine Go.g_enum ?_
  | ((with_reducible show tPar _ _ _ _ _ _); unfold tPar)
  | ((with_reducible show ∃ v w, [_, _] = [v, w] ∧ _); refine ⟨_, _, rfl, ?_⟩)
  | with_reducible refine Go.g_zip ?_
  | with_reducible refine Go.g_augS ?_
  | with_reducible refine Go.g_lc ?_
  | with_reducible refine Go.g_nil ?_
  | with_reducible refine Go.g_cb ?_
  | with_reducible refine Go.g_call ?_
  | with_reducible refine Go.g_ret ?_
  | with_reducible refine Go.g_next ?_
  | with_reducible refine Go.g_drop ?_
  | with_reducible refine Go.g_un ?_
  | with_reducible refine Go.g_test ?_
  | with_reducible refine Go.g_tB ?_
  | with_reducible refine Go.g_ifs ?_
  | with_reducible refine Go.g_if ?_
  | with_reducible refine Go.g_and ?_
  | with_reducible refine Go.g_or ?_
  | with_reducible refine Go.g_not ?_
  | with_reducible refine Go.g_sl ?_
  | with_reducible refine Go.g_nopart ?_
  | with_reducible refine Go.g_part ?_
  | ((with_reducible show ∃ k, V.bl _ = V.bl k ∧ _); refine ⟨_, rfl, ?_⟩)
  | ((with_reducible show ∃ k, V.int _ = V.int k ∧ _); refine ⟨_, rfl, ?_⟩)
  | with_reducible refine Go.g_bm ?_
  | with_reducible refine Go.g_yes ?_
  | ((with_reducible show rI0 _ _ _ _ _); refine ⟨_, _, rfl, rfl, ?_⟩)
  | ((with_reducible show rI _ _ _ _ _ _); refine ⟨_, _, rfl, rfl, ?_, ?_⟩; (focus walk_at "ci"))
  | ((with_reducible show rU _ _ _ _); refine ⟨_, rfl, ?_⟩)
  | ((with_reducible show V.non = V.non ∧ _); refine ⟨rfl, ?_⟩)
  | ((with_reducible show rIsB _ _ _ _); refine ⟨_, _, rfl, rfl, ?_⟩)
  | ((with_reducible show rNotB _ _ _ _); refine ⟨_, _, rfl, rfl, ?_⟩)
  | ((with_reducible show rEq _ _ _ _); refine ⟨rfl, ?_⟩)
  | ((with_reducible show rNe _ _ _ _); refine ⟨rfl, ?_⟩)
  | ((with_reducible show rIxL _ _ _ _ _); refine Go.g_ixL (by walk_at "sq") (by rfl) ?_)
  | ((with_reducible show rIxT _ _ _ _ _); refine Go.g_ixT (by walk_at "sq") (by rfl) ?_)
  | ((with_reducible show rSetL _ _ _ _ _); refine Go.g_setL (by walk_at "hp") (by rfl) ?_)
  | ((with_reducible show ∃ p ys, [V.ref _] = [V.ref p] ∧ (SqL _ _ _ _ ∨ SqT _ _ _ _) ∧ _); refine ⟨_, _, rfl, .inl (by walk_at "sq"), ?_⟩)
  | ((with_reducible show (∃ i, [V.int _] = [V.int i] ∧ _) ∨ _); refine .inl ⟨_, rfl, ?_⟩)
  | ((with_reducible show ∃ (c : Nat) (z : Str), V.str _ = V.str ⟨#[c]⟩ ∧ V.str _ = V.str z ∧ _); refine ⟨_, _, rfl, rfl, ?_⟩)
  | ((with_reducible show ∃ x : Str, [V.str _] = [V.str x] ∧ Str.length x = 1 ∧ _); refine ⟨_, rfl, rfl, ?_⟩)
  | ((with_reducible show ∃ z : Str, [V.str _] = [V.str z] ∧ Str.length z ≤ sizeLine ∧ _); refine ⟨_, rfl, by assumption, ?_⟩)
  | ((with_reducible show rSlS _ _ _ _ _); refine ⟨_, rfl, by assumption, ?_⟩)
  | ((with_reducible show gTup _ _ _ _ _ _ _); refine Go.g_gtup (by walk_at "sq") (by rfl) ?_)
  | ((with_reducible show gCons _ _ _ _ _ _); refine ⟨_, _, rfl, ?_⟩)
  | ((with_reducible show gNil _ _ _ _); refine ⟨rfl, ?_⟩)
  | ((with_reducible show rLenS _ _ _ _); refine Go.g_lenL (by walk_at "sq") ?_)
  | ((with_reducible show rListOf _ _ _ _); refine Go.g_listL (by walk_at "sq") ?_)
  | ((with_reducible show Dt.rList2 _ _ _ _); refine ⟨_, _, rfl, .inl (by walk_at "sq"), ?_⟩)
  | ((with_reducible show Dt.rTuple2 _ _ _ _); refine ⟨_, _, rfl, by walk_at "sq", ?_⟩)
  | ((with_reducible show Dt.rSlL2 _ _ _ _ _ _); refine ⟨_, _, rfl, by walk_at "sq", ?_⟩)
  | ((with_reducible show wipe _ _ = wipe _ _ ∧ _); refine ⟨rfl, ?_⟩)
  | ((with_reducible show if true = true then _ else _); refine iteT ?_)
  | ((with_reducible show if false = true then _ else _); refine iteF ?_)
  | ((with_reducible show ∃ a b xs ys, [V.ref _, V.ref _] = [V.ref a, V.ref b] ∧ SqL _ _ a xs ∧ SqL _ _ b ys ∧ _); refine ⟨_, _, _, _, rfl, by walk_at "sq", by walk_at "sq", ?_⟩)
  | ((with_reducible show ∃ a xs, [V.ref _] = [V.ref a] ∧ SqL _ _ a xs ∧ _); refine ⟨_, _, rfl, by walk_at "sq", ?_⟩)
  | ((with_reducible show ∃ a, V.ref _ = V.ref a ∧ (∃ xs, SqL _ _ a xs) ∧ _); refine ⟨_, rfl, ⟨_, by walk_at "sq"⟩, ?_⟩)
  | ((with_reducible show ∃ a, V.ref _ = V.ref a ∧ (∃ xs, SqT _ _ a xs) ∧ _); refine ⟨_, rfl, ⟨_, by walk_at "sq"⟩, ?_⟩)
  | ((with_reducible show ∃ j : Int, [V.int _] = [V.int j] ∧ _ ≤ j ∧ j < _ ∧ _); refine ⟨_, rfl, by omega, by omega, ?_⟩)
  | ((with_reducible show ∃ i j : Int, [V.int _, V.int _] = [V.int i, V.int j] ∧ (_ ≤ i ∧ i < _ ∧ _ ≤ j ∧ j < _) ∧ _); refine ⟨_, _, rfl, ⟨by omega, by omega, by omega, by omega⟩, ?_⟩)
  | ((with_reducible show ∃ i j : Int, [V.int _, V.int _] = [V.int i, V.int j] ∧ _); refine ⟨_, _, rfl, ?_⟩)
  | ((with_reducible show ∃ i : Int, [V.int _] = [V.int i] ∧ _); refine ⟨_, rfl, ?_⟩)
  | ((with_reducible show _ ≤ sizeLine ∧ _); refine ⟨by first | decide | (simp only [List.length_cons, List.length_nil]; decide), ?_⟩))
local macro_rules | `(tactic| walk_at "g1") => `(tactic| first | walk_at "g0" | with_reducible refine Go.g_sub ?_)
local macro_rules | `(tactic| walk_at "g") => `(tactic| repeat walk_at "g1")
local macro_rules | `(tactic| walk_at "v") => `(tactic| repeat walk_at "g0")
local macro_rules | `(tactic| walk_at "if") => `(tactic| first
  | with_reducible refine @Go.g_itd _ _ _ _ ?_ ?_
  | with_reducible refine @Go.g_itnd _ _ _ _ ?_ ?_
  | with_reducible refine Go.g_ite ?_ ?_)

section
variable {P : Program} {w : World} {K : PySem.W.Frag} {mg : Str → Option Value} {base : Heap}
def sp__law_funds (K : PySem.W.Frag) : Sp := fun vs H Q _ => ∃ (st sc wt pa qa : Addr) (ps qs : List Str) (w2 : Int) (many : Nat) (gr : Int) (G : Hp), vs = [.ref st, .ref sc, .ref wt, .int (many : Int), .int gr] ∧ DkS st G H ∧ Scr K G sc ∧ Wo K G wt pa qa ps qs w2 ∧ many ≤ 90 ∧ 1 ≤ gr ∧ gr ≤ 99999999 ∧
  ∀ G' H' p xs (fs : List Fd), DkS st G' H' → Same G G' → G' p = some (.lst xs) → DpAll K G' xs (fs.map Fd.py) → fs.length = many → (∀ f ∈ fs, f.purposes.length ≤ 4) → Q (.ref p) H'
theorem ok__law_funds (T : Txt K mg) : FnOk P w K mg base CX0 3 T.a__law_funds T.fd__law_funds ["state", "script", "world", "many", "greatest"] (sp__law_funds K) := by
  refine T.F__law_funds.ok sc__law_funds (fun vs H Q E h => ?_) (fun cdv A outer s H vs Q E hr h => ?_)
  · obtain ⟨st, sc, wt, pa, qa, ps, qs, w2, many, gr, G, rfl, _⟩ := h; rfl
  · obtain ⟨st, sc, wt, pa, qa, ps, qs, w2, many, gr, G, rfl, S, hsc, W, m9, g1, g9, q⟩ := h
    have S := S.ds
    refine ⟨_, pss_cons (ps_set (i := 5) sc__law_funds.nd rfl (.inl rfl) (pe_lst pa_nil))
      (pss_cons (ps_for PassesOwn.never rfl (pi_range1 (by rfl) T.n_range (pa_cons (pv 3) pa_nil)) (pg_name (i := 6) sc__law_funds.nd rfl (.inl rfl))
        (pss_cons (ps_set (i := 7) sc__law_funds.nd rfl (.inl rfl) (pe_ix ix_list (pe_lst (pa_cons pe_int (pa_cons (pe_call (Dt.frame_call (ok__law_draw T)) (hr.mono (by decide)) (by rfl) T.g__law_draw T.F__law_draw.kp T.b__law_draw .nil pass0 (pa_cons (pv 0) (pa_cons (pv 1) (pa_cons pe_int pa_nil)))) (pa_cons (pe_call (Dt.frame_call (ok__law_draw T)) (hr.mono (by decide)) (by rfl) T.g__law_draw T.F__law_draw.kp T.b__law_draw .nil pass0 (pa_cons (pv 0) (pa_cons (pv 1) (pa_cons (pe_ix ix_tup (pv 2) pe_int (fun _ _ => rfl)) pa_nil)))) pa_nil)))) (pe_call (Dt.frame_call (ok__law_draw T)) (hr.mono (by decide)) (by rfl) T.g__law_draw T.F__law_draw.kp T.b__law_draw .nil pass0 (pa_cons (pv 0) (pa_cons (pv 1) (pa_cons pe_int pa_nil)))) (fun _ _ => rfl)))
        (pss_cons (ps_set (i := 8) sc__law_funds.nd rfl (.inl rfl) (pe_op op_add (pv 7) (pe_ix ix_list (pe_lst (pa_cons pe_int (pa_cons pe_int (pa_cons (pe_ix ix_tup (pv 2) pe_int (fun _ _ => rfl)) pa_nil)))) (pe_call (Dt.frame_call (ok__law_draw T)) (hr.mono (by decide)) (by rfl) T.g__law_draw T.F__law_draw.kp T.b__law_draw .nil pass0 (pa_cons (pv 0) (pa_cons (pv 1) (pa_cons pe_int pa_nil)))) (fun _ _ => rfl))))
        (pss_cons (ps_set (i := 9) sc__law_funds.nd rfl (.inl rfl) (pe_callB (call_min2 rfl) (by rfl) T.n_min (by decide +kernel) (pa_cons pe_int (pa_cons (pe_op op_add pe_int (pe_call (Dt.frame_call (ok__law_draw T)) (hr.mono (by decide)) (by rfl) T.g__law_draw T.F__law_draw.kp T.b__law_draw .nil pass0 (pa_cons (pv 0) (pa_cons (pv 1) (pa_cons (pe_op op_mul pe_int (pv 4)) pa_nil))))) pa_nil))))
        (pss_cons (ps_set (i := 10) sc__law_funds.nd rfl (.inl rfl) (pe_op op_add pe_int (pe_call (Dt.frame_call (ok__law_draw T)) (hr.mono (by decide)) (by rfl) T.g__law_draw T.F__law_draw.kp T.b__law_draw .nil pass0 (pa_cons (pv 0) (pa_cons (pv 1) (pa_cons (pv 4) pa_nil))))))
        (pss_cons (ps_set (i := 11) sc__law_funds.nd rfl (.inl rfl) (pe_op op_add pe_int (pe_call (Dt.frame_call (ok__law_draw T)) (hr.mono (by decide)) (by rfl) T.g__law_draw T.F__law_draw.kp T.b__law_draw .nil pass0 (pa_cons (pv 0) (pa_cons (pv 1) (pa_cons pe_int pa_nil))))))
        (pss_cons (ps_set (i := 12) sc__law_funds.nd rfl (.inl rfl) (pe_op op_add pe_int (pe_call (Dt.frame_call (ok__law_draw T)) (hr.mono (by decide)) (by rfl) T.g__law_draw T.F__law_draw.kp T.b__law_draw .nil pass0 (pa_cons (pv 0) (pa_cons (pv 1) (pa_cons pe_int pa_nil))))))
        (pss_cons (ps_set (i := 13) sc__law_funds.nd rfl (.inl rfl) (pe_callTy call_tuple2 (by rfl) T.n_tuple (by decide +kernel) (pa_cons (pe_call (Dt.frame_call (ok__law_some T)) hr (by rfl) T.g__law_some T.F__law_some.kp T.b__law_some .nil pass0 (pa_cons (pv 0) (pa_cons (pv 1) (pa_cons (pe_ix ix_tup (pv 2) pe_int (fun _ _ => rfl)) (pa_cons pe_int pa_nil))))) pa_nil)))
        (pss_cons (ps_set (i := 14) sc__law_funds.nd rfl (.inl rfl) (pe_call (Dt.frame_call (ok__law_pick T)) hr (by rfl) T.g__law_pick T.F__law_pick.kp T.b__law_pick .nil pass0 (pa_cons (pv 0) (pa_cons (pv 1) (pa_cons (pe_ix ix_tup (pv 2) pe_int (fun _ _ => rfl)) pa_nil)))))
        (pss_one (ps_expr (pe_bm PySem.F.plainAttrs_list PySem.F.slot_list_append PySem.F.type_list_append mt_append (pv 5) (pa_cons (pe_tup (pa_cons (pe_call (Dt.frame_call (ok__law_name T)) hr (by rfl) T.g__law_name T.F__law_name.kp T.b__law_name .nil pass0 (pa_cons (pv 0) (pa_cons (pv 1) (pa_cons (pv 6) pa_nil)))) (pa_cons (pv 14) (pa_cons (pv 9) (pa_cons (pv 10) (pa_cons (pv 11) (pa_cons (pv 12) (pa_cons (pv 7) (pa_cons (pv 8) (pa_cons (pv 13) pa_nil)))))))))) pa_nil)))))))))))))
      (pss_one (ps_ret (pv 5)))), ?_⟩
    walk_at "g"
    refine Dt.NewAt.dsc (by assumption) fun P H1 S1 nP => ?_
    walk_at "g"
    refine forD (src_range (K := K)) (fun i σ' pre G' => ∃ (gs : List Fd) (xs : List V) (y6 y7 y8 y9 y10 y11 y12 y13 y14 : Option V), pre = [(P, .lst xs)] ∧ Same G G' ∧ σ' = [some (.ref st), some (.ref sc), some (.ref wt), some (.int (many : Int)), some (.int gr), some (.ref P), y6, y7, y8, y9, y10, y11, y12, y13, y14] ∧ DpAll K G' xs (gs.map Fd.py) ∧ gs.length = i ∧ ∀ g ∈ gs, g.purposes.length ≤ 4) S1 trivial
      ⟨[], [], _, _, _, _, _, _, _, _, _, rfl, Same.refl _, rfl, .nil, rfl, fun b h => nomatch h⟩ ?_ ?_
    · rintro i x σ' pre G' G2 H2 hi _ ⟨gs, xs, y6, y7, y8, y9, y10, y11, y12, y13, y14, rfl, sg, rfl, dg, lg, og⟩ s2 S2 ⟨hi', rfl⟩ N hN
      have hsc2 := Scr.same (sg.trans s2) hsc
      have W2 := W.same (sg.trans s2)
      have wl := W.p1
      have wl2 := W.p2
      have ww1 := W.w1
      have ww9 := W.w9
      have q1 := W.q1
      have q2 := W.q2
      have q_w := W2.top
      rw [Int.zero_add]
      walk_at "g"
      refine rd_draw S2 hsc2 plain1 (by decide) (by decide) fun H4 d4 S4 a4 b4 => ?_
      walk_at "g"
      refine rd_draw S4 hsc2 plain1 (by omega) (by omega) fun H5 d5 S5 a5 b5 => ?_
      walk_at "g"
      refine Dt.NewAt.ds (by assumption) fun l6 G6 H6 S6 s6 atl6 nl6 => ?_
      have hsc6 := Scr.same s6 hsc2
      walk_at "g"
      refine rd_draw S6 hsc6 plain1 (by decide) (by decide) fun H7 d7 S7 a7 b7 => ?_
      have hv : ∃ v : Int, atI [V.int 0, .int d4, .int d5] d7 = some (.int v) := by
        have : d7 = 0 ∨ d7 = 1 ∨ d7 = 2 := by omega
        rcases this with rfl | rfl | rfl <;> exact ⟨_, rfl⟩
      obtain ⟨start, estart⟩ := hv
      refine g_ixL (SqL.of (S7.sub _ _ atl6)) estart ?_
      have q_w := (W2.same s6).top
      walk_at "g"
      refine Dt.NewAt.ds (by assumption) fun l8 G8 H8 S8 s8 atl8 nl8 => ?_
      have hsc8 := Scr.same s8 hsc6
      walk_at "g"
      refine rd_draw S8 hsc8 plain1 (by decide) (by decide) fun H9 d9 S9 a9 b9 => ?_
      have hv : ∃ v : Int, atI [V.int 0, .int 9, .int w2] d9 = some (.int v) := by
        have : d9 = 0 ∨ d9 = 1 ∨ d9 = 2 := by omega
        rcases this with rfl | rfl | rfl <;> exact ⟨_, rfl⟩
      obtain ⟨ad, ead⟩ := hv
      refine g_ixL (SqL.of (S9.sub _ _ atl8)) ead ?_
      walk_at "g"
      refine rd_draw S9 hsc8 plain1 (by omega) (by omega) fun H10 d10 S10 a10 b10 => ?_
      walk_at "g"
      refine rd_draw S10 hsc8 plain1 (by omega) (by omega) fun H11 d11 S11 a11 b11 => ?_
      walk_at "g"
      refine rd_draw S11 hsc8 plain1 (by decide) (by decide) fun H12 d12 S12 a12 b12 => ?_
      walk_at "g"
      refine rd_draw S12 hsc8 plain1 (by decide) (by decide) fun H13 d13 S13 a13 b13 => ?_
      have W13 := W2.same (s6.trans s8)
      have q_w := W13.top
      clear S2 S4 S5 S6 S7 S8 S9 S10 S11 S12
      walk_at "g"
      refine rd_some S13 hsc8 plain1 W13.pur (by rw [List.length_map]; omega) (by rw [List.length_map]; omega) (by decide) fun G14 H14 r ys S14 s14 er ⟨rs, pm⟩ y1 y4 => ?_
      obtain ⟨cs, rfl, rm⟩ := perm_strs pm
      rw [List.length_map] at y1 y4
      have hsc14 := Scr.same s14 hsc8
      have W14 := W13.same s14
      have q_w := W14.top
      walk_at "g"
      refine Dt.NewAt.ds (by assumption) fun tp G15 H15 S15 s15 attp ntp => ?_
      have hsc15 := Scr.same s15 hsc14
      have W15 := W14.same s15
      have q_w := W15.top
      clear S13 S14
      walk_at "g"
      refine rd_pick S15 hsc15 plain1 W15.par (by rw [List.length_map]; omega) (by rw [List.length_map]; omega) fun H16 ix x S16 ex => ?_
      obtain ⟨owner, rfl, hgv⟩ := pick_str ex
      walk_at "g"
      refine ⟨.inl ⟨rfl, _, SqL.of (S16.at (List.mem_cons_self ..))⟩, ?_⟩
      walk_at "g"
      refine rd_name S16 hsc15 plain1 (by omega) fun G18 H18 nm S18 s18 hnm => ?_
      walk_at "g"
      refine Dt.NewAt.ds (by assumption) fun t G19 H19 S19 s19 att nt => ?_
      have eP := S19.at (List.mem_cons_self ..)
      have lx := DpAll.length dg
      rw [List.length_map] at lx
      refine ⟨_, _, _, rfl, rfl, eP, sz5 (by omega), ?_⟩
      have S20 := S19.set (o' := .lst (xs ++ [.ref t]))
      have sAll := s2.trans (s6.trans (s8.trans (s14.trans (s15.trans (s18.trans s19)))))
      walk_at "g"
      refine hN _ _ _ _ S20 sAll ⟨gs ++ [⟨mkS nm, owner, _, 1 + d11, 1 + d12, 1 + d13, start, start + ad, cs⟩], _, _, _, _, _, _, _, _, _, _, rfl, sg.trans sAll, rfl, DpAll.snoc (DpAll.same sAll dg) (Dp.tup (SqT.of att) (.cons (.str _) (.cons (.str _) (.cons (.int _) (.cons (.int _) (.cons (.int _) (.cons (.int _) (.cons (.int _) (.cons (.int _) (.cons (Dp.tup (SqT.of ((s18.trans s19) _ _ attp)) (dpAll_strs.mpr rfl)) .nil)))))))))), by simp [lg], fun b hb => ?_⟩
      rcases List.mem_append.mp hb with z | z
      · exact og b z
      · rw [List.mem_singleton.mp z]
        show cs.length ≤ 4
        omega
    · rintro σ' H2 pre G2 S2 _ ⟨gs, xs, y6, y7, y8, y9, y10, y11, y12, y13, y14, rfl, sg, rfl, dg, lg, og⟩
      walk_at "g"
      obtain ⟨S3, s3⟩ := S2.drop
      exact q _ H2 P xs gs S3.dk (sg.trans s3) upd_same (DpAll.same s3 dg) (by omega) og
theorem rd_names2 {K : PySem.W.Frag} {Q : VK} {E : XK} {st sc : Addr} {n : Nat} {m : Int} {pre : List (Addr × HO)} {G H : Hp} (hm : m = (n : Int)) (t : Ds pre st G H) (hs : Scr K G sc) (pl : ∀ c ∈ pre, Plain c.2) (hn : n ≤ 90)
    (h : ∀ G' H' p ws, Ds pre st G' H' → Same G G' → G' p = some (.lst (wsV ws)) → Nms ws → ws.length = n → Q (.ref p) H') : spF (sp__law_names K) [.ref st, .ref sc, .int m] H Q E := by
  subst hm; exact rd_names t hs pl hn h
theorem wsV_strs (ws : List (List Nat)) : wsV ws = (ws.map mkS).map V.str := by unfold wsV; rw [List.map_map]; rfl
def sp__law_world (K : PySem.W.Frag) : Sp := fun vs H Q _ => ∃ (st sc : Addr) (G : Hp), vs = [.ref st, .ref sc] ∧ DkS st G H ∧ Scr K G sc ∧
  ∀ G' H' wt pa qa ps qs w2, DkS st G' H' → Same G G' → Wo K G' wt pa qa ps qs w2 → (∀ s, ∃ t ∈ ps, t ≠ s) → Q (.ref wt) H'
theorem ok__law_world (T : Txt K mg) : FnOk P w K mg base CX0 4 T.a__law_world T.fd__law_world ["state", "script"] (sp__law_world K) := by
  refine T.F__law_world.ok sc__law_world (fun vs H Q E h => ?_) (fun cdv A outer s H vs Q E hr h => ?_)
  · obtain ⟨st, sc, G, rfl, _⟩ := h; rfl
  · obtain ⟨st, sc, G, rfl, S, hsc, q⟩ := h
    have S := S.ds
    refine ⟨_, pss_cons (ps_set (i := 2) sc__law_world.nd rfl (.inl rfl) (pe_call (Dt.frame_call (ok__law_names T)) hr (by rfl) T.g__law_names T.F__law_names.kp T.b__law_names .nil pass0 (pa_cons (pv 0) (pa_cons (pv 1) (pa_cons (pe_op op_add pe_int (pe_call (Dt.frame_call (ok__law_draw T)) (hr.mono (by decide)) (by rfl) T.g__law_draw T.F__law_draw.kp T.b__law_draw .nil pass0 (pa_cons (pv 0) (pa_cons (pv 1) (pa_cons pe_int pa_nil))))) pa_nil)))))
      (pss_cons (ps_set (i := 3) sc__law_world.nd rfl (.inl rfl) (pe_call (Dt.frame_call (ok__law_names T)) hr (by rfl) T.g__law_names T.F__law_names.kp T.b__law_names .nil pass0 (pa_cons (pv 0) (pa_cons (pv 1) (pa_cons (pe_op op_add pe_int (pe_call (Dt.frame_call (ok__law_draw T)) (hr.mono (by decide)) (by rfl) T.g__law_draw T.F__law_draw.kp T.b__law_draw .nil pass0 (pa_cons (pv 0) (pa_cons (pv 1) (pa_cons pe_int pa_nil))))) pa_nil)))))
      (pss_one (ps_ret (pe_tup (pa_cons (pv 2) (pa_cons (pv 3) (pa_cons (pe_ix ix_list (pe_lst (pa_cons pe_int (pa_cons pe_int (pa_cons pe_int pa_nil)))) (pe_call (Dt.frame_call (ok__law_draw T)) (hr.mono (by decide)) (by rfl) T.g__law_draw T.F__law_draw.kp T.b__law_draw .nil pass0 (pa_cons (pv 0) (pa_cons (pv 1) (pa_cons pe_int pa_nil)))) (fun _ _ => rfl)) pa_nil))))))), ?_⟩
    walk_at "g"
    refine rd_draw S hsc plain0 (by decide) (by decide) fun H1 d1 S1 a1 b1 => ?_
    walk_at "g"
    refine rd_names2 (n := (2 + d1).toNat) (by show 2 + d1 = _; omega) S1 hsc plain0 (by omega) fun G2 H2 pa ws S2 s2 ea hw lw => ?_
    have hsc2 := Scr.same s2 hsc
    walk_at "g"
    refine rd_draw S2 hsc2 plain0 (by decide) (by decide) fun H3 d3 S3 a3 b3 => ?_
    walk_at "g"
    refine rd_names2 (n := (1 + d3).toNat) (by show 1 + d3 = _; omega) S3 hsc2 plain0 (by omega) fun G4 H4 qa us S4 s4 eq hu lu => ?_
    have hsc4 := Scr.same s4 hsc2
    walk_at "g"
    refine Dt.NewAt.ds (by assumption) fun l5 G5 H5 S5 s5 atl5 nl5 => ?_
    have hsc5 := Scr.same s5 hsc4
    walk_at "g"
    refine rd_draw S5 hsc5 plain0 (by decide) (by decide) fun H6 d6 S6 a6 b6 => ?_
    have hv : ∃ v : Int, atI [V.int 9, .int 40, .int 50000] d6 = some (.int v) ∧ 1 ≤ v ∧ v ≤ 100000 := by
      have : d6 = 0 ∨ d6 = 1 ∨ d6 = 2 := by omega
      rcases this with rfl | rfl | rfl <;> exact ⟨_, rfl, by omega, by omega⟩
    obtain ⟨w2, ew2, w1, w9⟩ := hv
    refine g_ixL (SqL.of (S6.sub _ _ atl5)) ew2 ?_
    walk_at "g"
    refine Dt.NewAt.ds (by assumption) fun t G7 H7 S7 s7 att nt => ?_
    have l0 : 0 < ws.length := by omega
    have l1 : 1 < ws.length := by omega
    refine q G7 H7 t pa qa (ws.map mkS) (us.map mkS) w2 S7.dk (s2.trans (s4.trans (s5.trans s7))) ⟨SqT.of att, ?_, ?_, by rw [List.length_map]; omega, by rw [List.length_map]; omega, by rw [List.length_map]; omega, by rw [List.length_map]; omega, w1, w9⟩ fun s => ?_
    · rw [← wsV_strs]; exact SqL.of ((s4.trans (s5.trans s7)) _ _ ea)
    · rw [← wsV_strs]; exact SqL.of ((s5.trans s7) _ _ eq)
    · by_cases h : mkS ws[0] = s
      · refine ⟨mkS ws[1], List.mem_map.mpr ⟨_, List.getElem_mem l1, rfl⟩, fun z => ?_⟩
        have e := mkS_inj (h.trans z.symm)
        have := NmK.other (hw 0 l0) (hw 1 l1) (by decide) (by decide) e
        exact absurd this (by decide)
      · exact ⟨mkS ws[0], List.mem_map.mpr ⟨_, List.getElem_mem l0, rfl⟩, h⟩

end
end K55

namespace K55
open PySem PySem.Spec PyProof.Rows L2 Go Dt
set_option maxHeartbeats 8000000
local macro_rules | `(tactic| walk_at "ne") => `(tactic| first
  | assumption
  | (refine Ne.symm ?_; assumption)
  | exact (Go.free_upd (by assumption)).2
  | exact (Go.free_upd (by assumption)).2.symm
  | exact Go.ne_fr (by assumption) (by walk_at "hp")
  | exact (Go.ne_fr (by assumption) (by walk_at "hp")).symm)
local macro_rules | `(tactic| walk_at "fr") => `(tactic| first
  | assumption
  | exact (Go.free_upd (by assumption)).1
  | exact (Go.free_upd (Go.free_upd (by assumption)).1).1
  | exact Same.free (by assumption) (by walk_at "fr"))
local macro_rules | `(tactic| walk_at "hp") => `(tactic| first
  | assumption
  | with_reducible exact upd_same
  | ((with_reducible show upd _ _ _ _ = _); exact Go.at_upd (by walk_at "ne") (by walk_at "hp"))
  | exact (by assumption : Same _ _) _ _ (by walk_at "hp")
  | exact Dt.Own.at (by assumption) (List.mem_cons_self ..)
  | exact Dt.Own.at (by assumption) (List.mem_cons_of_mem _ (List.mem_cons_self ..))
  | exact Dt.Own.at (by assumption) (List.mem_cons_of_mem _ (List.mem_cons_of_mem _ (List.mem_cons_self ..)))
  | exact Dt.Ts.at (by assumption) (List.mem_cons_self ..)
  | exact Dt.Ts.at (by assumption) (List.mem_cons_of_mem _ (List.mem_cons_self ..))
  | exact Dt.Ds.at (by assumption) (List.mem_cons_self ..)
  | exact Dt.Ds.at (by assumption) (List.mem_cons_of_mem _ (List.mem_cons_self ..))
  | exact (Dt.Own.sub (by assumption)) _ _ (by walk_at "hp")
  | exact (Dt.TkS.sub (by assumption)) _ _ (by walk_at "hp")
  | exact (Dt.Ts.sub (by assumption)) _ _ (by walk_at "hp")
  | exact (Dt.DkS.sub (by assumption)) _ _ (by walk_at "hp")
  | exact (Dt.Ds.sub (by assumption)) _ _ (by walk_at "hp")
  | exact (by assumption : Go.Kp _ _ _) _ _ (by walk_at "ne") (by walk_at "hp")
  | exact (by assumption : Go.Kp2 _ _ _ _) _ _ (by walk_at "ne") (by walk_at "ne") (by walk_at "hp"))
local macro_rules | `(tactic| walk_at "sq") => `(tactic| first
  | assumption
  | ((with_reducible show SqL _ (upd _ _ _) _ _); exact (by assumption : ∀ o, SqL _ (upd _ _ o) _ _) _)
  | ((with_reducible show SqL _ _ _ _); exact SqL.of (by walk_at "hp"))
  | ((with_reducible show SqT _ _ _ _); exact SqT.of (by walk_at "hp"))
  | ((with_reducible show SqL _ (upd _ _ _) _ _); exact Go.sqL_new (by walk_at "fr") (by walk_at "sq"))
  | ((with_reducible show SqT _ (upd _ _ _) _ _); exact Go.sqT_new (by walk_at "fr") (by walk_at "sq"))
  | ((with_reducible show SqL _ (upd _ _ _) _ _); exact Go.sqL_ne (by walk_at "ne") (by walk_at "sq"))
  | ((with_reducible show SqL _ _ _ _); exact Go.sqL_same (by assumption) (by walk_at "sq"))
  | ((with_reducible show SqT _ _ _ _); exact Go.sqT_same (by assumption) (by walk_at "sq"))
  | ((with_reducible show SqL _ _ _ _); exact Go.sqL_same (Dt.Own.sub (by assumption)) (by walk_at "sq"))
  | ((with_reducible show SqT _ _ _ _); exact Go.sqT_same (Dt.Own.sub (by assumption)) (by walk_at "sq"))
  | ((with_reducible show SqL _ _ _ _); exact Go.sqL_same (Dt.TkS.sub (by assumption)) (by walk_at "sq"))
  | ((with_reducible show SqL _ _ _ _); exact Go.sqL_same (Dt.Ts.sub (by assumption)) (by walk_at "sq"))
  | ((with_reducible show SqT _ _ _ _); exact Go.sqT_same (Dt.TkS.sub (by assumption)) (by walk_at "sq"))
  | ((with_reducible show SqT _ _ _ _); exact Go.sqT_same (Dt.Ts.sub (by assumption)) (by walk_at "sq"))
  | ((with_reducible show SqL _ _ _ _); exact Go.sqL_same (Dt.DkS.sub (by assumption)) (by walk_at "sq"))
  | ((with_reducible show SqL _ _ _ _); exact Go.sqL_same (Dt.Ds.sub (by assumption)) (by walk_at "sq"))
  | ((with_reducible show SqT _ _ _ _); exact Go.sqT_same (Dt.DkS.sub (by assumption)) (by walk_at "sq"))
  | ((with_reducible show SqT _ _ _ _); exact Go.sqT_same (Dt.Ds.sub (by assumption)) (by walk_at "sq"))
  | ((with_reducible show SqL _ _ _ _); exact Go.sqL_kp (by assumption) (by walk_at "ne") (by walk_at "sq"))
  | ((with_reducible show SqT _ _ _ _); exact Go.sqT_kp (by assumption) (by walk_at "ne") (by walk_at "sq")))
local macro_rules | `(tactic| walk_at "dp") => `(tactic| first
  | assumption
  | with_reducible exact L2.Dp.int _
  | with_reducible exact L2.Dp.str _
  | with_reducible exact L2.Dp.non
  | with_reducible exact L2.Dp.bl _
  | with_reducible exact L2.DpAll.nil
  | ((with_reducible show L2.Dp _ _ _ _); exact Dt.Dp.same (by assumption) (by walk_at "dp"))
  | ((with_reducible show L2.DpAll _ _ _ _); exact Dt.DpAll.same (by assumption) (by walk_at "dp"))
  | ((with_reducible show L2.Dp _ _ _ _); exact Dt.Dp.same (Dt.Own.sub (by assumption)) (by walk_at "dp"))
  | ((with_reducible show L2.DpAll _ _ _ _); exact Dt.DpAll.same (Dt.Own.sub (by assumption)) (by walk_at "dp"))
  | ((with_reducible show L2.Dp _ _ _ _); exact Dt.Dp.same (Dt.TkS.sub (by assumption)) (by walk_at "dp"))
  | ((with_reducible show L2.Dp _ _ _ _); exact Dt.Dp.same (Dt.Ts.sub (by assumption)) (by walk_at "dp"))
  | ((with_reducible show L2.DpAll _ _ _ _); exact Dt.DpAll.same (Dt.TkS.sub (by assumption)) (by walk_at "dp"))
  | ((with_reducible show L2.DpAll _ _ _ _); exact Dt.DpAll.same (Dt.Ts.sub (by assumption)) (by walk_at "dp"))
  | ((with_reducible show L2.Dp _ _ _ _); exact Dt.Dp.same (Dt.DkS.sub (by assumption)) (by walk_at "dp"))
  | ((with_reducible show L2.Dp _ _ _ _); exact Dt.Dp.same (Dt.Ds.sub (by assumption)) (by walk_at "dp"))
  | ((with_reducible show L2.DpAll _ _ _ _); exact Dt.DpAll.same (Dt.DkS.sub (by assumption)) (by walk_at "dp"))
  | ((with_reducible show L2.DpAll _ _ _ _); exact Dt.DpAll.same (Dt.Ds.sub (by assumption)) (by walk_at "dp"))
  | ((with_reducible show L2.Dp _ _ _ _); exact L2.Dp.tup (by walk_at "sq") (by walk_at "dp"))
  | ((with_reducible show L2.Dp _ _ _ _); exact L2.Dp.lst (by walk_at "sq") (by walk_at "dp"))
  | with_reducible exact L2.DpAll.cons (by walk_at "dp") (by walk_at "dp")
  | ((with_reducible show Dt.Scr _ _ _); exact Dt.Scr.same (by assumption) (by walk_at "dp"))
  | exact Dt.dpAll_ints.mpr rfl
  | exact Dt.dpAll_strs.mpr rfl
  | exact Dt.dpAll_bools.mpr rfl)
local macro_rules | `(tactic| walk_at "ci") => `(tactic| first
  | exact .inr ⟨by decide, by decide⟩
  | exact .inl ⟨by decide, by decide⟩
  | exact ⟨by decide, by decide, by decide⟩
  | decide
  | omega
  | exact ⟨by omega, by omega⟩
  | exact .inl ⟨by omega, by omega⟩
  | exact .inr ⟨by omega, by omega⟩)
local macro_rules | `(tactic| walk_at "g0") => `(tactic| first
  | with_reducible refine Go.g_seq ?_
  | ((with_reducible show tVar _ _ _ _); refine ⟨_, rfl, ?_⟩)
  | with_reducible refine Go.g_c ?_
  | with_reducible refine Go.g_op ?_
  | with_reducible refine Go.g_asg ?_
  | with_reducible refine Go.g_name ?_
  | with_reducible refine Go.g_cons ?_
  | with_reducible refine Dt.g_orV ?_
  | with_reducible refine Dt.g_andV ?_
  | with_reducible refine Dt.g_notV ?_
  | with_reducible refine Dt.g_lst2 ?_
  | with_reducible refine Dt.g_tup2 ?_
  | with_reducible refine Go.g_for ?_
  | with_reducible refine Go.g_rng1 ?_
  | with_reducible refine Go.g_rng2 ?_
  | with_reducible refine Go.g_rng3 ?_
  | with_reducible refine Go.g_list ?_
  | with_reducible refine Go.g_itup ?_
  | with_reducible refine Go.g_enum ?_
  | ((with_reducible show tPar _ _ _ _ _ _); unfold tPar)
  | ((with_reducible show ∃ v w, [_, _] = [v, w] ∧ _); refine ⟨_, _, rfl, ?_⟩)
  | with_reducible refine Go.g_zip ?_
  | with_reducible refine Go.g_augS ?_
  | with_reducible refine Go.g_lc ?_
  | with_reducible refine Go.g_nil ?_
  | with_reducible refine Go.g_cb ?_
  | with_reducible refine Go.g_call ?_
  | with_reducible refine Go.g_ret ?_
  | with_reducible refine Go.g_next ?_
  | with_reducible refine Go.g_drop ?_
  | with_reducible refine Go.g_un ?_
  | with_reducible refine Go.g_test ?_
  | with_reducible refine Go.g_tB ?_
  | with_reducible refine Go.g_ifs ?_
  | with_reducible refine Go.g_if ?_
  | with_reducible refine Go.g_and ?_
  | with_reducible refine Go.g_or ?_
  | with_reducible refine Go.g_not ?_
  | with_reducible refine Go.g_sl ?_
  | with_reducible refine Go.g_nopart ?_
  | with_reducible refine Go.g_part ?_
  | ((with_reducible show ∃ k, V.bl _ = V.bl k ∧ _); refine ⟨_, rfl, ?_⟩)
  | ((with_reducible show ∃ k, V.int _ = V.int k ∧ _); refine ⟨_, rfl, ?_⟩)
  | with_reducible refine Go.g_bm ?_
  | with_reducible refine Go.g_yes ?_
  | ((with_reducible show rI0 _ _ _ _ _); refine ⟨_, _, rfl, rfl, ?_⟩)
  | ((with_reducible show rI _ _ _ _ _ _); refine ⟨_, _, rfl, rfl, ?_, ?_⟩; (focus walk_at "ci"))
  | ((with_reducible show rU _ _ _ _); refine ⟨_, rfl, ?_⟩)
  | ((with_reducible show V.non = V.non ∧ _); refine ⟨rfl, ?_⟩)
  | ((with_reducible show rIsB _ _ _ _); refine ⟨_, _, rfl, rfl, ?_⟩)
  | ((with_reducible show rNotB _ _ _ _); refine ⟨_, _, rfl, rfl, ?_⟩)
  | ((with_reducible show rEq _ _ _ _); refine ⟨rfl, ?_⟩)
  | ((with_reducible show rNe _ _ _ _); refine ⟨rfl, ?_⟩)
  | ((with_reducible show rIxL _ _ _ _ _); refine Go.g_ixL (by walk_at "sq") (by rfl) ?_)
  | ((with_reducible show rIxT _ _ _ _ _); refine Go.g_ixT (by walk_at "sq") (by rfl) ?_)
  | ((with_reducible show rSetL _ _ _ _ _); refine Go.g_setL (by walk_at "hp") (by rfl) ?_)
  | ((with_reducible show ∃ p ys, [V.ref _] = [V.ref p] ∧ (SqL _ _ _ _ ∨ SqT _ _ _ _) ∧ _); refine ⟨_, _, rfl, .inl (by walk_at "sq"), ?_⟩)
  | ((with_reducible show (∃ i, [V.int _] = [V.int i] ∧ _) ∨ _); refine .inl ⟨_, rfl, ?_⟩)
  | ((with_reducible show ∃ (c : Nat) (z : Str), V.str _ = V.str ⟨#[c]⟩ ∧ V.str _ = V.str z ∧ _); refine ⟨_, _, rfl, rfl, ?_⟩)
  | ((with_reducible show ∃ x : Str, [V.str _] = [V.str x] ∧ Str.length x = 1 ∧ _); refine ⟨_, rfl, rfl, ?_⟩)
  | ((with_reducible show ∃ z : Str, [V.str _] = [V.str z] ∧ Str.length z ≤ sizeLine ∧ _); refine ⟨_, rfl, by assumption, ?_⟩)
  | ((with_reducible show rSlS _ _ _ _ _); refine ⟨_, rfl, by assumption, ?_⟩)
  | ((with_reducible show gTup _ _ _ _ _ _ _); refine Go.g_gtup (by walk_at "sq") (by rfl) ?_)
  | ((with_reducible show gCons _ _ _ _ _ _); refine ⟨_, _, rfl, ?_⟩)
  | ((with_reducible show gNil _ _ _ _); refine ⟨rfl, ?_⟩)
  | ((with_reducible show rLenS _ _ _ _); refine Go.g_lenL (by walk_at "sq") ?_)
  | ((with_reducible show rListOf _ _ _ _); refine Go.g_listL (by walk_at "sq") ?_)
  | ((with_reducible show Dt.rList2 _ _ _ _); refine ⟨_, _, rfl, .inl (by walk_at "sq"), ?_⟩)
  | ((with_reducible show Dt.rTuple2 _ _ _ _); refine ⟨_, _, rfl, by walk_at "sq", ?_⟩)
  | ((with_reducible show Dt.rSlL2 _ _ _ _ _ _); refine ⟨_, _, rfl, by walk_at "sq", ?_⟩)
  | ((with_reducible show wipe _ _ = wipe _ _ ∧ _); refine ⟨rfl, ?_⟩)
  | ((with_reducible show if true = true then _ else _); refine iteT ?_)
  | ((with_reducible show if false = true then _ else _); refine iteF ?_)
  | ((with_reducible show ∃ a b xs ys, [V.ref _, V.ref _] = [V.ref a, V.ref b] ∧ SqL _ _ a xs ∧ SqL _ _ b ys ∧ _); refine ⟨_, _, _, _, rfl, by walk_at "sq", by walk_at "sq", ?_⟩)
  | ((with_reducible show ∃ a xs, [V.ref _] = [V.ref a] ∧ SqL _ _ a xs ∧ _); refine ⟨_, _, rfl, by walk_at "sq", ?_⟩)
  | ((with_reducible show ∃ a, V.ref _ = V.ref a ∧ (∃ xs, SqL _ _ a xs) ∧ _); refine ⟨_, rfl, ⟨_, by walk_at "sq"⟩, ?_⟩)
  | ((with_reducible show ∃ a, V.ref _ = V.ref a ∧ (∃ xs, SqT _ _ a xs) ∧ _); refine ⟨_, rfl, ⟨_, by walk_at "sq"⟩, ?_⟩)
  | ((with_reducible show ∃ j : Int, [V.int _] = [V.int j] ∧ _ ≤ j ∧ j < _ ∧ _); refine ⟨_, rfl, by omega, by omega, ?_⟩)
  | ((with_reducible show ∃ i j : Int, [V.int _, V.int _] = [V.int i, V.int j] ∧ (_ ≤ i ∧ i < _ ∧ _ ≤ j ∧ j < _) ∧ _); refine ⟨_, _, rfl, ⟨by omega, by omega, by omega, by omega⟩, ?_⟩)
  | ((with_reducible show ∃ i j : Int, [V.int _, V.int _] = [V.int i, V.int j] ∧ _); refine ⟨_, _, rfl, ?_⟩)
  | ((with_reducible show ∃ i : Int, [V.int _] = [V.int i] ∧ _); refine ⟨_, rfl, ?_⟩)
  | ((with_reducible show _ ≤ sizeLine ∧ _); refine ⟨by first | decide | (simp only [List.length_cons, List.length_nil]; decide), ?_⟩))
local macro_rules | `(tactic| walk_at "g1") => `(tactic| first | walk_at "g0" | with_reducible refine Go.g_sub ?_)
local macro_rules | `(tactic| walk_at "g") => `(tactic| repeat walk_at "g1")
local macro_rules | `(tactic| walk_at "v") => `(tactic| repeat walk_at "g0")
local macro_rules | `(tactic| walk_at "if") => `(tactic| first
  | with_reducible refine @Go.g_itd _ _ _ _ ?_ ?_
  | with_reducible refine @Go.g_itnd _ _ _ _ ?_ ?_
  | with_reducible refine Go.g_ite ?_ ?_)

section
variable {P : Program} {w : World} {K : PySem.W.Frag} {mg : Str → Option Value} {base : Heap}
section
variable {Q : VK} {E : XK} {pre : List (Addr × HO)} {st a b : Addr} {G H : Hp}
theorem rd_sl3 {ps : List Str} (S : Ds pre st G H) (ha : SqT K G a (ps.map V.str)) (h : ∀ G' H' b, Ds pre st G' H' → Same G G' → SqT K G' b ((ps.take 3).map V.str) → Q (.ref b) H') : rSlA2 K (.ref a) none (some 3) H Q := by
  have e3 : HT.sIx (ps.map V.str).length (ps.map V.str).length (some 3) = min 3 (ps.map V.str).length := HT.sIx_nat _ _ 3
  refine ⟨a, ps.map V.str, rfl, sqT_same S.sub ha, fun z => ?_, fun ne => ?_⟩
  · have z2 := z.2
    rw [e3, List.length_map] at z2
    exact h G H a S (Same.refl _) (by rw [List.take_of_length_le (by omega)]; exact ha)
  · refine NewAt.ds S fun c G' H' S' s' e n => h G' H' c S' s' (SqT.of ?_)
    rw [e]
    unfold cutV
    rw [e3, HT.sIx_none, List.drop_zero, Nat.sub_zero, List.length_map, List.map_take]
    congr 2
    by_cases hl : ps.length ≤ 3
    · rw [Nat.min_eq_right hl, List.take_of_length_le (by rw [List.length_map]; exact Nat.le_refl _), List.take_of_length_le (by rw [List.length_map]; exact hl)]
    · rw [Nat.min_eq_left (by omega)]
theorem rd_cat {ps qs : List Str} (S : Ds pre st G H) (ha : SqT K G a (ps.map V.str)) (hb : SqT K G b (qs.map V.str)) (hz : ps.length + qs.length ≤ 1000) (h : ∀ G' H' c, Ds pre st G' H' → Same G G' → SqT K G' c ((ps ++ qs).map V.str) → Q (.ref c) H') : rCatA2 K (.ref a) (.ref b) H Q := by
  refine ⟨a, b, _, _, rfl, rfl, sqT_same S.sub ha, sqT_same S.sub hb, by rw [List.length_map, List.length_map]; exact sz6 hz, fun z => ?_, fun _ z => ?_, fun _ _ => ?_⟩
  · have : ps = [] := List.map_eq_nil_iff.mp z
    subst this
    exact h G H b S (Same.refl _) hb
  · have : qs = [] := List.map_eq_nil_iff.mp z
    subst this
    exact h G H a S (Same.refl _) (by rw [List.append_nil]; exact ha)
  · refine NewAt.ds S fun c G' H' S' s' e n => h G' H' c S' s' (SqT.of ?_)
    rw [e, List.map_append]
theorem rd_slN {xs ys : List V} {lo hi : Option Int} (S : Ds pre st G H) (ha : SqT K G a xs) (hne : HT.sIx xs.length xs.length hi ≠ xs.length ∨ HT.sIx xs.length 0 lo ≠ 0) (hc : cutV xs lo hi = ys) (h : ∀ G' H' b, Ds pre st G' H' → Same G G' → SqT K G' b ys → Q (.ref b) H') : rSlA2 K (.ref a) lo hi H Q := by
  refine ⟨a, xs, rfl, sqT_same S.sub ha, fun z => ?_, fun ne => ?_⟩
  · rcases hne with q | q
    · exact absurd z.2 q
    · exact absurd z.1 q
  · exact NewAt.ds S fun c G' H' S' s' e n => h G' H' c S' s' (SqT.of (by rw [e, hc]))
theorem rd_catN {x y : V} {xs ys : List V} (S : Ds pre st G H) (ha : SqT K G a (x :: xs)) (hb : SqT K G b (y :: ys)) (hz : (x :: xs).length + (y :: ys).length ≤ 1000) (h : ∀ G' H' c, Ds pre st G' H' → Same G G' → SqT K G' c (x :: xs ++ y :: ys) → Q (.ref c) H') : rCatA2 K (.ref a) (.ref b) H Q := by
  refine ⟨a, b, _, _, rfl, rfl, sqT_same S.sub ha, sqT_same S.sub hb, sz6 hz, (fun z => by cases z), (fun _ z => by cases z), fun _ _ => ?_⟩
  exact NewAt.ds S fun c G' H' S' s' e n => h G' H' c S' s' (SqT.of e)
end
section
variable {Q : VK} {E : XK} {pre : List (Addr × HO)} {st : Addr} {G H : Hp} {v : V} {f : Form} {cents : Int}
theorem rd_ways_any (S : Ds pre st G H) (hv : Dp K G v Form.any.py) (c1 : 1 ≤ cents) (c2 : cents ≤ 999999999) (h : Q .non H) : spF (sp_ways K) [.int cents, v] H Q E :=
  ⟨[], H, Own.nil _, plain0, cents, v, .any, rfl, Dp.same S.sub hv, trivial, c1, c2, fun _ H' w => by rw [own_nil] at w; subst w; exact h, fun G p xs ef _ _ _ _ _ => absurd rfl ef⟩
theorem rd_ways (S : Ds pre st G H) (pl : ∀ c ∈ pre, Plain c.2) (hv : Dp K G v f.py) (ok : f.Ok) (c1 : 1 ≤ cents) (c2 : cents ≤ 999999999) (ef : f ≠ .any)
    (h : ∀ G' H' p xs, Ds ((p, .lst xs) :: pre) st G' H' → Same G G' → DpAll K G' xs ((waysS cents f).map encP) → Q (.ref p) H') : spF (sp_ways K) [.int cents, v] H Q E := by
  obtain ⟨cs, w, pc, back⟩ := S.hide pl
  refine ⟨cs, G, w, pc, cents, v, f, rfl, hv, ok, c1, c2, fun z => absurd z ef, fun G2 p xs _ s np dx H2 w2 => ?_⟩
  exact h G2 H2 p xs ((back _ _ w2).take np) s dx
end
theorem rd_told {Q : VK} {E : XK} {pre : List (Addr × HO)} {st : Addr} {G H : Hp} {v : V} {f : Form} {cents : Int} (S : Ds pre st G H) (pl : ∀ c ∈ pre, Plain c.2) (hv : Dp K G v f.py) (ok : f.Ok) (c1 : 1 ≤ cents) (c2 : cents ≤ 999999999)
    (h : ∀ G' H' v, Ds pre st G' H' → Same G G' → (v = .non ∨ ∃ p xs, v = .ref p ∧ SqL K G' p xs ∧ DpAll K G' xs ((waysS cents f).map encP)) → Q v H') : spF (sp_ways K) [.int cents, v] H Q E := by
  by_cases ef : f = .any
  · subst ef
    exact rd_ways_any S hv c1 c2 (h G H .non S (Same.refl _) (.inl rfl))
  · refine rd_ways S pl hv ok c1 c2 ef fun G' H' p xs S' s' d' => ?_
    have h1 := S'.drop
    exact h _ H' (.ref p) h1.1 (s'.trans h1.2) (.inr ⟨p, xs, rfl, SqL.of upd_same, DpAll.same h1.2 d'⟩)
theorem cut_DpAll {xs : List V} {ds : List PyData} {lo hi : Option Int} {G : Hp} (h : DpAll K G xs ds) : ∃ a b, DpAll K G (cutV xs lo hi) ((ds.drop a).take b) := ⟨_, _, DpAll.take _ (DpAll.drop _ h)⟩
def sp__law_pair (K : PySem.W.Frag) : Sp := fun vs H Q _ => ∃ (st sc wt pa qa : Addr) (ps qs : List Str) (w2 : Int) (G : Hp), vs = [.ref st, .ref sc, .ref wt] ∧ DkS st G H ∧ Scr K G sc ∧ Wo K G wt pa qa ps qs w2 ∧ (∀ s, ∃ t ∈ ps, t ≠ s) ∧
  ∀ G' H' t fv gv (f : Fd) (g : Gf), DkS st G' H' → Same G G' → SqT K G' t [fv, gv] → Dp K G' fv f.py → Dp K G' gv g.py → g.Ok → Q (.ref t) H'
theorem ok__law_pair (T : Txt K mg) : FnOk P w K mg base CX0 5 T.a__law_pair T.fd__law_pair ["state", "script", "world"] (sp__law_pair K) := by
  refine T.F__law_pair.ok sc__law_pair (fun vs H Q E h => ?_) (fun cdv A outer s H vs Q E hr h => ?_)
  · obtain ⟨st, sc, wt, pa, qa, ps, qs, w2, G, rfl, _⟩ := h; rfl
  · obtain ⟨st, sc, wt, pa, qa, ps, qs, w2, G, rfl, S, hsc, W, two, q⟩ := h
    have S := S.ds
    refine ⟨_, pss_cons (ps_set (i := 3) sc__law_pair.nd rfl (.inr rfl) (pe_ix ix_list (pe_call (Dt.frame_call (ok__law_gifts T)) hr (by rfl) T.g__law_gifts T.F__law_gifts.kp T.b__law_gifts .nil pass0 (pa_cons (pv 0) (pa_cons (pv 1) (pa_cons (pv 2) (pa_cons pe_int (pa_cons pe_int pa_nil)))))) pe_int (fun _ _ => rfl)))
      (pss_cons (ps_set (i := 4) sc__law_pair.nd rfl (.inl rfl) (pe_ix ix_list (pe_call (Dt.frame_call (ok__law_funds T)) (hr.mono (by decide)) (by rfl) T.g__law_funds T.F__law_funds.kp T.b__law_funds .nil pass0 (pa_cons (pv 0) (pa_cons (pv 1) (pa_cons (pv 2) (pa_cons pe_int (pa_cons pe_int pa_nil)))))) pe_int (fun _ _ => rfl)))
      (pss_cons (ps_set (i := 5) sc__law_pair.nd rfl (.inl rfl) (pe_call (Dt.frame_call (ok__law_draw T)) (hr.mono (by decide)) (by rfl) T.g__law_draw T.F__law_draw.kp T.b__law_draw .nil pass0 (pa_cons (pv 0) (pa_cons (pv 1) (pa_cons pe_int pa_nil)))))
      (pss_cons (ps_set (i := 6) sc__law_pair.nd rfl (.inl rfl) (pe_op op_add (pv 5) (pe_ix ix_list (pe_lst (pa_cons pe_int (pa_cons pe_int (pa_cons pe_int pa_nil)))) (pe_call (Dt.frame_call (ok__law_draw T)) (hr.mono (by decide)) (by rfl) T.g__law_draw T.F__law_draw.kp T.b__law_draw .nil pass0 (pa_cons (pv 0) (pa_cons (pv 1) (pa_cons pe_int pa_nil)))) (fun _ _ => rfl))))
      (pss_cons (ps_set (i := 7) sc__law_pair.nd rfl (.inl rfl) (pe_ix ix_list (pe_lst (pa_cons (pv 5) (pa_cons (pv 6) (pa_cons (pe_op op_fdiv (pe_op op_add (pv 5) (pv 6)) pe_int) pa_nil)))) (pe_call (Dt.frame_call (ok__law_draw T)) (hr.mono (by decide)) (by rfl) T.g__law_draw T.F__law_draw.kp T.b__law_draw .nil pass0 (pa_cons (pv 0) (pa_cons (pv 1) (pa_cons pe_int pa_nil)))) (fun _ _ => rfl)))
      (pss_cons (ps_set (i := 8) sc__law_pair.nd rfl (.inl rfl) (pe_ix ix_list (pe_lc (own := [("name", 9)]) (g := gName 9) (by rfl) sc__law_pair.nd (pi_list (pe_ix ix_tup (pv 2) pe_int (fun _ _ => rfl))) (blkOk_by (own := [("name", 9)]) (N := ["state", "script", "world", "gift", "fund", "start", "end", "day", "owner", "name", "hidden", "spoil", "purposes", "told", "row", "one"]) (sc := defScope s__law_pair) (by decide +kernel)) (fun _ _ _ _ _ => pg_name (i := 9) sc__law_pair.nd rfl (by first | exact Or.inl rfl | exact Or.inr rfl)) (fun _ _ _ _ _ => pts_one (pt_cmpR op_ne (pv 9) (pe_ix (r := rIxT K) ix_tup (pv 3) pe_int (fun _ _ => rfl)) (nomark _))) (fun _ _ _ _ _ => (pv 9))) pe_int (fun _ _ => rfl)))
      (pss_cons (ps_set (i := 10) sc__law_pair.nd rfl (.inl rfl) pe_int)
      (pss_cons (ps_set (i := 11) sc__law_pair.nd rfl (.inl rfl) (pe_call (Dt.frame_call (ok__law_draw T)) (hr.mono (by decide)) (by rfl) T.g__law_draw T.F__law_draw.kp T.b__law_draw .nil pass0 (pa_cons (pv 0) (pa_cons (pv 1) (pa_cons pe_int pa_nil)))))
      (C8.pss_cut (ps_if (pt_cmpR op_eq (pv 11) pe_int (nomark _))
        (pss_one (ps_set (i := 10) sc__law_pair.nd rfl (.inl rfl) pe_int))
        (pss_one (ps_if (pt_cmpR op_eq (pv 11) pe_int (nomark _))
          (pss_one (ps_set (i := 8) sc__law_pair.nd rfl (.inl rfl) (pe_ix ix_tup (pv 3) pe_int (fun _ _ => rfl))))
          (pss_one (ps_if (PW.pt (pw_and (pt_cmpR op_eq (pv 11) pe_int (nomark _)) (pw_and1 (pt_cmpR op_gt (pv 5) pe_int (nomark _)))))
            (pss_one (ps_set (i := 7) sc__law_pair.nd rfl (.inl rfl) (pe_op op_sub (pv 5) pe_int)))
            (pss_one (ps_if (pt_cmpR op_eq (pv 11) pe_int (nomark _))
              (pss_one (ps_set (i := 7) sc__law_pair.nd rfl (.inl rfl) (pe_op op_add (pv 6) pe_int)))
              (pss_nil))))))))
      (pss_cons (ps_set (i := 12) sc__law_pair.nd rfl (.inr rfl) (pe_ix ix_tup (pv 4) pe_int (fun _ _ => rfl)))
      (pss_cons (ps_set (i := 13) sc__law_pair.nd rfl (.inl rfl) (pe_call (Dt.frame_call (ok__law_ways T)) (hr.mono (by decide)) (by rfl) T.g__law_ways T.F__law_ways.kp T.b__law_ways .nil pass0 (pa_cons (pe_ix ix_tup (pv 3) pe_int (fun _ _ => rfl)) (pa_cons (pe_ix ix_tup (pv 3) pe_int (fun _ _ => rfl)) pa_nil))))
      (C8.pss_cut (ps_if (PW.pt (pw_and (pt_cmpR op_gt (pv 11) pe_int (nomark _)) (pw_and (pt_cmpR op_notN (pv 13) pe_non (nomark _)) (pw_and1 (pt_cmpR op_gt (pe_callB call_lenS (by rfl) T.n_len PySem.boot_len (pa_cons (pv 13) pa_nil)) pe_int (nomark _))))))
        (pss_one (ps_set (i := 12) sc__law_pair.nd rfl (.inr rfl) (pe_op op_catA2 (pe_slice sl_tupA2 (pv 12) po_none (po_some pe_int)) (pe_callTy call_tuple2 (by rfl) T.n_tuple (by decide +kernel) (pa_cons (pe_lc (own := [("row", 14)]) (g := gName 14) (by rfl) sc__law_pair.nd (pi_list (pe_slice sl_list2 (pv 13) (po_some (pe_un un_neg pe_int)) po_none)) (blkOk_by (own := [("row", 14)]) (N := ["state", "script", "world", "gift", "fund", "start", "end", "day", "owner", "name", "hidden", "spoil", "purposes", "told", "row", "one"]) (sc := defScope s__law_pair) (by decide +kernel)) (fun _ _ _ _ _ => pg_name (i := 14) sc__law_pair.nd rfl (by first | exact Or.inl rfl | exact Or.inr rfl)) (fun _ _ _ _ _ => pts_one (pt_cmpR (r := rIn K true) op_notIn_seq (pe_ix (r := rIxT K) ix_tup (pv 14) pe_int (fun _ _ => rfl)) (pe_slice (r := rSlA2 K) sl_tupA2 (pv 12) po_none (po_some pe_int)) rfl)) (fun _ _ _ _ _ => (pe_ix (r := rIxT K) ix_tup (pv 14) pe_int (fun _ _ => rfl)))) pa_nil)))))
        (pss_nil))
      (pss_cons (ps_set (i := 15) sc__law_pair.nd rfl (.inl rfl) (pe_tup (pa_cons (pe_ix ix_tup (pv 3) pe_int (fun _ _ => rfl)) (pa_cons (pe_ix ix_tup (pv 3) pe_int (fun _ _ => rfl)) (pa_cons (pv 7) (pa_cons (pe_ix ix_tup (pv 3) pe_int (fun _ _ => rfl)) (pa_cons (pe_ix ix_tup (pv 3) pe_int (fun _ _ => rfl)) (pa_cons (pe_ix ix_tup (pv 3) pe_int (fun _ _ => rfl)) (pa_cons pe_non (pa_cons (pv 10) pa_nil))))))))))
      (pss_one (ps_ret (pe_tup (pa_cons (pe_op op_catA2 (pe_op op_catA2 (pe_op op_catA2 (pe_slice sl_tupA2 (pv 4) po_none (po_some pe_int)) (pe_tup (pa_cons (pv 8) pa_nil))) (pe_slice sl_tupA2 (pv 4) (po_some pe_int) (po_some pe_int))) (pe_tup (pa_cons (pv 5) (pa_cons (pv 6) (pa_cons (pv 12) pa_nil))))) (pa_cons (pv 15) pa_nil))))))))))))))))), ?_⟩
    walk_at "g"
    refine ⟨[], H, Own.nil _, plain0, st, sc, wt, pa, qa, ps, qs, w2, 1, 300, G, rfl, S.dk, hsc, W, by decide, by decide, by decide, fun G1 H1 p1 xs1 gs S1 s1 e1 d1 l1 o1 H1' w1 => ?_⟩
    rw [own_nil] at w1; subst w1
    have S1 := S1.ds
    obtain ⟨g, rfl⟩ : ∃ g, gs = [g] := List.length_eq_one_iff.mp l1
    obtain ⟨⟨gok, gc1, gc2⟩, gin⟩ := o1 g (List.mem_singleton_self g)
    obtain ⟨gv, r1, rfl, dg, d1⟩ := dpAll_cons.mp d1
    obtain rfl : r1 = [] := dpAll_nil.mp d1
    have e1H := S1.sub _ _ e1
    have hsc1 := Scr.same s1 hsc
    have W1 := W.same s1
    walk_at "g"
    refine ⟨[], H1', Own.nil _, plain0, st, sc, wt, pa, qa, ps, qs, w2, 1, 300, G1, rfl, S1.dk, hsc1, W1, by decide, by decide, by decide, fun G2 H2 p2 xs2 fs S2 s2 e2 d2 l2 o2 H2' w2' => ?_⟩
    rw [own_nil] at w2'; subst w2'
    have S2 := S2.ds
    obtain ⟨f, rfl⟩ : ∃ f, fs = [f] := List.length_eq_one_iff.mp l2
    have fl := o2 f (List.mem_singleton_self f)
    obtain ⟨fv, r2, rfl, df, d2⟩ := dpAll_cons.mp d2
    obtain rfl : r2 = [] := dpAll_nil.mp d2
    have e2H := S2.sub _ _ e2
    have hsc2 := Scr.same s2 hsc1
    have W2 := W1.same s2
    have dg := Dp.same s2 dg
    unfold Fd.py at df
    unfold Gf.py at dg
    obtain ⟨ft, zs_ft, rfl, q_ft, l0_ft⟩ := Dt.dp_tup.mp df
    obtain ⟨x0_ft, r0_ft, rfl, e0_ft, l1_ft⟩ := Dt.dpAll_cons.mp l0_ft; rw [Dt.dp_str] at e0_ft; subst e0_ft
    obtain ⟨x1_ft, r1_ft, rfl, e1_ft, l2_ft⟩ := Dt.dpAll_cons.mp l1_ft; rw [Dt.dp_str] at e1_ft; subst e1_ft
    obtain ⟨x2_ft, r2_ft, rfl, e2_ft, l3_ft⟩ := Dt.dpAll_cons.mp l2_ft; rw [Dt.dp_int] at e2_ft; subst e2_ft
    obtain ⟨x3_ft, r3_ft, rfl, e3_ft, l4_ft⟩ := Dt.dpAll_cons.mp l3_ft; rw [Dt.dp_int] at e3_ft; subst e3_ft
    obtain ⟨x4_ft, r4_ft, rfl, e4_ft, l5_ft⟩ := Dt.dpAll_cons.mp l4_ft; rw [Dt.dp_int] at e4_ft; subst e4_ft
    obtain ⟨x5_ft, r5_ft, rfl, e5_ft, l6_ft⟩ := Dt.dpAll_cons.mp l5_ft; rw [Dt.dp_int] at e5_ft; subst e5_ft
    obtain ⟨x6_ft, r6_ft, rfl, e6_ft, l7_ft⟩ := Dt.dpAll_cons.mp l6_ft; rw [Dt.dp_int] at e6_ft; subst e6_ft
    obtain ⟨x7_ft, r7_ft, rfl, e7_ft, l8_ft⟩ := Dt.dpAll_cons.mp l7_ft; rw [Dt.dp_int] at e7_ft; subst e7_ft
    obtain ⟨pv, r8_ft, rfl, d_pv, l9_ft⟩ := Dt.dpAll_cons.mp l8_ft
    rw [Dt.dpAll_nil] at l9_ft; subst l9_ft
    clear l0_ft l1_ft l2_ft l3_ft l4_ft l5_ft l6_ft l7_ft l8_ft
    obtain ⟨gt, zs_gt, rfl, q_gt, l0_gt⟩ := Dt.dp_tup.mp dg
    obtain ⟨x0_gt, r0_gt, rfl, e0_gt, l1_gt⟩ := Dt.dpAll_cons.mp l0_gt; rw [Dt.dp_str] at e0_gt; subst e0_gt
    obtain ⟨x1_gt, r1_gt, rfl, e1_gt, l2_gt⟩ := Dt.dpAll_cons.mp l1_gt; rw [Dt.dp_str] at e1_gt; subst e1_gt
    obtain ⟨x2_gt, r2_gt, rfl, e2_gt, l3_gt⟩ := Dt.dpAll_cons.mp l2_gt; rw [Dt.dp_int] at e2_gt; subst e2_gt
    obtain ⟨x3_gt, r3_gt, rfl, e3_gt, l4_gt⟩ := Dt.dpAll_cons.mp l3_gt; rw [Dt.dp_int] at e3_gt; subst e3_gt
    obtain ⟨fov, r4_gt, rfl, d_fov, l5_gt⟩ := Dt.dpAll_cons.mp l4_gt
    obtain ⟨last, r5_gt, rfl, d_last, l6_gt⟩ := Dt.dpAll_cons.mp l5_gt
    obtain ⟨x6_gt, r6_gt, rfl, e6_gt, l7_gt⟩ := Dt.dpAll_cons.mp l6_gt; rw [Dt.dp_none] at e6_gt; subst e6_gt
    obtain ⟨x7_gt, r7_gt, rfl, e7_gt, l8_gt⟩ := Dt.dpAll_cons.mp l7_gt; rw [Dt.dp_int] at e7_gt; subst e7_gt
    rw [Dt.dpAll_nil] at l8_gt; subst l8_gt
    clear l0_gt l1_gt l2_gt l3_gt l4_gt l5_gt l6_gt l7_gt
    obtain ⟨pt, pxs, rfl, q_pt, l_pt⟩ := dp_tup.mp d_pv
    rw [dpAll_strs] at l_pt; subst l_pt
    walk_at "g"
    refine rd_draw S2 hsc2 plain0 (by decide) (by decide) fun H3 start S3 a3 b3 => ?_
    walk_at "g"
    refine Dt.NewAt.ds (by assumption) fun l4 G4 H4 S4 s4 atl4 nl4 => ?_
    have hsc4 := Scr.same s4 hsc2
    walk_at "g"
    refine rd_draw S4 hsc4 plain0 (by decide) (by decide) fun H5 d5 S5 a5 b5 => ?_
    have hv : ∃ v : Int, atI [V.int 0, .int 1, .int 20] d5 = some (.int v) := by
      have : d5 = 0 ∨ d5 = 1 ∨ d5 = 2 := by omega
      rcases this with rfl | rfl | rfl <;> exact ⟨_, rfl⟩
    obtain ⟨ad, ead⟩ := hv
    refine g_ixL (SqL.of (S5.sub _ _ atl4)) ead ?_
    walk_at "g"
    refine Dt.NewAt.ds (by assumption) fun l6 G6 H6 S6 s6 atl6 nl6 => ?_
    have hsc6 := Scr.same s6 hsc4
    walk_at "g"
    refine rd_draw S6 hsc6 plain0 (by decide) (by decide) fun H7 d7 S7 a7 b7 => ?_
    have hv : ∃ v : Int, atI [V.int start, .int (start + ad), .int ((start + (start + ad)) / 2)] d7 = some (.int v) := by
      have : d7 = 0 ∨ d7 = 1 ∨ d7 = 2 := by omega
      rcases this with rfl | rfl | rfl <;> exact ⟨_, rfl⟩
    obtain ⟨day, eday⟩ := hv
    refine g_ixL (SqL.of (S7.sub _ _ atl6)) eday ?_
    have W7 := W2.same (s4.trans s6)
    have q_w := W7.top
    have hpar := W7.par
    clear S1 S2 S3 S4 S5 S6
    walk_at "g"
    intro D nD
    have p1 := W.p1
    have p2 := W.p2
    obtain ⟨dk7, hk7, w7⟩ := S7
    refine lcP (src_list ps PyData.str) PyData.str (fun i => decide (ps.getD i "" ≠ g.giver)) (fun i => ps.getD i "") w7 ⟨_, hpar, dpAll_strs.mpr rfl⟩ nD (sz5 (by omega)) ?_ ?_
    · rintro j x ys G8 H8 R Z hj s8 w8 ⟨hj', dx⟩ hR hZ
      rw [dp_str] at dx; subst dx
      rw [List.getD_eq_getElem?_getD, List.getElem?_eq_getElem hj'] at hR hZ
      walk_at "g"
      walk_at "if" <;> intro e
      · walk_at "g"
        exact hR (decide_eq_true fun z => e (congrArg V.str z)) _ _ _ w8 (Same.refl _) (.str _)
      · exact hZ (decide_eq_false fun z => z (V.str.inj e)) _ _ w8 (Same.refl _)
    intro G8 H8 ys s8 w8 d8
    have ef := range_filter_get ps (fun s => decide (s ≠ g.giver)) id ""
    simp only [id] at ef
    rw [ef, List.map_id, dpAll_strs] at d8
    subst d8
    have S8 : Ds [(D, .lst ((ps.filter fun s => decide (s ≠ g.giver)).map V.str))] st G8 H8 := ⟨dk7, hk7, w8⟩
    obtain ⟨o, r, eo⟩ : ∃ o r, ps.filter (fun s => decide (s ≠ g.giver)) = o :: r := by
      obtain ⟨t, ht, hne⟩ := two g.giver
      have := List.mem_filter (p := fun s => decide (s ≠ g.giver)).mpr ⟨ht, decide_eq_true hne⟩
      cases hq : ps.filter (fun s => decide (s ≠ g.giver)) with
      | nil => rw [hq] at this; cases this
      | cons o r => exact ⟨o, r, rfl⟩
    rw [eo] at S8
    have eD := S8.at (List.mem_cons_self ..)
    have hsc8 := Scr.same s8 hsc6
    walk_at "g"
    refine g_ixL (SqL.of eD) (show atI ((o :: r).map V.str) ((0 : Nat) : Int) = some (.str o) from atI_nat rfl) ?_
    obtain ⟨G9, S9, s9⟩ : ∃ G9, Ds [] st G9 H8 ∧ Same G8 G9 := ⟨_, S8.drop⟩
    have hsc9 := Scr.same s9 hsc8
    walk_at "g"
    refine rd_draw S9 hsc9 plain0 (by decide) (by decide) fun H10 spoil S10 a10 b10 => ?_
    walk_at "g"
    refine g_cut (fun σ H' => ∃ (hid dy : Int) (own : Str), σ = [some (.ref st), some (.ref sc), some (.ref wt), some (.ref gt), some (.ref ft), some (.int start), some (.int (start + ad)), some (.int dy), some (.str own), none, some (.int hid), some (.int spoil), none, none, none, none] ∧ H' = H10) ?_ ?_
    · walk_at "g"
      walk_at "if" <;> intro i1
      · walk_at "g"
        exact ⟨_, _, _, rfl, rfl⟩
      walk_at "g"
      walk_at "if" <;> intro i2
      · walk_at "g"
        exact ⟨_, _, _, rfl, rfl⟩
      walk_at "g"
      walk_at "if" <;> intro i3
      · walk_at "g"
        walk_at "if" <;> intro i4
        · walk_at "g"
          exact ⟨_, _, _, rfl, rfl⟩
        · walk_at "g"
          walk_at "if" <;> intro i5
          · walk_at "g"
            exact ⟨_, _, _, rfl, rfl⟩
          · walk_at "g"
            exact ⟨_, _, _, rfl, rfl⟩
      walk_at "g"
      walk_at "if" <;> intro i5
      · walk_at "g"
        exact ⟨_, _, _, rfl, rfl⟩
      · walk_at "g"
        exact ⟨_, _, _, rfl, rfl⟩
    rintro σ' H' ⟨hid, dy, own, rfl, rfl⟩
    have q_g := sqT_same ((s4.trans s6).trans (s8.trans s9)) q_gt
    have q_f := sqT_same ((s4.trans s6).trans (s8.trans s9)) q_ft
    have q_p := sqT_same ((s4.trans s6).trans (s8.trans s9)) q_pt
    have d_fo := Dp.same ((s4.trans s6).trans (s8.trans s9)) d_fov
    clear hpar w7 w8 S8 S9 eo eD ef q_w W7
    walk_at "g"
    refine rd_told S10 plain0 d_fo gok gc1 gc2 fun G11 H11 tv S11 s11 htv => ?_
    have q_g := sqT_same s11 q_g
    have q_f := sqT_same s11 q_f
    have q_p := sqT_same s11 q_p
    have d_la := Dp.same ((s4.trans s6).trans ((s8.trans s9).trans s11)) d_last
    have d_fo := Dp.same s11 d_fo
    walk_at "g"
    refine g_cut (fun σ H' => ∃ (pp : Addr) (ps' : List Str) (y14 : Option V) (G12 : Hp), σ = [some (.ref st), some (.ref sc), some (.ref wt), some (.ref gt), some (.ref ft), some (.int start), some (.int (start + ad)), some (.int dy), some (.str own), none, some (.int hid), some (.int spoil), some (.ref pp), some tv, y14, none] ∧ Ds [] st G12 H' ∧ Same G11 G12 ∧ SqT K G12 pp (ps'.map V.str)) ?_ ?_
    · walk_at "g"
      walk_at "if" <;> intro i1
      · walk_at "g"
        rcases htv with rfl | ⟨tp, txs, rfl, q_tp, d_tp⟩
        · walk_at "if" <;> intro i2
          · exact absurd rfl i2
          walk_at "g"
          exact ⟨_, _, _, _, rfl, S11, Same.refl _, q_p⟩
        · walk_at "if" <;> intro i2
          · walk_at "g"
            have e11 := sqL_same S11.sub q_tp
            walk_at "if" <;> intro i3
            · walk_at "g"
              refine rd_sl3 S11 q_p fun G12 H12 b12 S12 s12 q12 => ?_
              walk_at "g"
              refine NewAt.ds S12 fun z G13 H13 S13 s13 e13 n13 => ?_
              obtain ⟨ca, cb, dc⟩ := cut_DpAll (lo := some (-1)) (hi := none) (DpAll.same (s12.trans s13) d_tp)
              rw [← List.map_drop, ← List.map_take] at dc
              have lw := waysS_len (cents := g.cents) gok
              have lc : (((waysS g.cents g.form).drop ca).take cb).length ≤ 4 := by rw [List.length_take, List.length_drop]; omega
              generalize ((waysS g.cents g.form).drop ca).take cb = W at *
              walk_at "g"
              intro D nD
              refine lcD (src_list W encP) PyData.str (fun i bs => bs.length ≤ i) S13 ⟨_, SqL.of e13, dc⟩ nD (Nat.le_refl _) (sz5 (by omega)) ?_ ?_
              · rintro j x bs ys G14 H14 R Z hj hb _ s14 S14 ⟨hj', dx⟩ hR hZ
                obtain ⟨t2, rfl, ht2⟩ := dp_P dx
                walk_at "g"
                refine rd_sl3 S14 (sqT_same (s12.trans (s13.trans s14)) q_p) fun G15 H15 b15 S15 s15 q15 => ?_
                walk_at "g"
                refine ⟨_, _, rfl, .inr (sqT_same S15.sub q15), rfl, strs_flat _, ?_⟩
                rw [if_pos rfl, inV_str]
                refine ⟨_, rfl, ?_⟩
                walk_at "if" <;> intro i5
                · walk_at "g"
                  exact hR _ _ _ _ S15 s15 (.str _) (by rw [List.length_append]; exact Nat.succ_le_succ hb)
                · exact hZ _ _ S15 s15 (Nat.le_succ_of_le hb)
              intro G14 H14 ys bs s14 S14 d14 hb
              rw [dpAll_strs] at d14
              subst d14
              have eD := S14.at (List.mem_cons_self ..)
              walk_at "g"
              obtain ⟨G15, S15, s15⟩ : ∃ G15, Ds [] st G15 H14 ∧ Same G14 G15 := ⟨_, S14.drop⟩
              refine NewAt.ds S15 fun c16 G16 H16 S16 s16 e16 n16 => ?_
              walk_at "g"
              have sb := s13.trans (s14.trans (s15.trans s16))
              refine rd_cat S16 (sqT_same sb q12) (SqT.of e16) (by rw [List.length_take]; omega) fun G17 H17 c17 S17 s17 q17 => ?_
              walk_at "g"
              exact ⟨_, _, _, _, rfl, S17, s12.trans (sb.trans s17), q17⟩
            · walk_at "g"
              exact ⟨_, _, _, _, rfl, S11, Same.refl _, q_p⟩
          · cases i2
      · walk_at "g"
        exact ⟨_, _, _, _, rfl, S11, Same.refl _, q_p⟩
    rintro σ' H' ⟨pp, ps', y14, G12, rfl, S12, s12, q_pp⟩
    have q_g := sqT_same s12 q_g
    have q_f := sqT_same s12 q_f
    have d_la := Dp.same s12 d_la
    have d_fo := Dp.same s12 d_fo
    have eg := sqT_same S12.sub q_g
    have ef := sqT_same S12.sub q_f
    walk_at "g"
    refine Dt.NewAt.ds (by assumption) fun on G13 H13 S13 s13 aton non => ?_
    have q_g := sqT_same s13 q_g
    have q_f := sqT_same s13 q_f
    have d_la := Dp.same s13 d_la
    have d_fo := Dp.same s13 d_fo
    have q_pp := sqT_same s13 q_pp
    walk_at "g"
    refine rd_slN (ys := [V.str f.nm]) S13 q_f (.inl (by show HT.sIx 9 9 (some 1) ≠ 9; decide)) rfl fun G14 H14 b14 S14 s14 q14 => ?_
    walk_at "g"
    refine Dt.NewAt.ds (by assumption) fun u G15 H15 S15 s15 atu nu => ?_
    walk_at "g"
    refine rd_catN S15 (sqT_same s15 q14) (SqT.of atu) (by show (2 : Nat) ≤ 1000; decide) fun G16 H16 b16 S16 s16 q16 => ?_
    walk_at "g"
    have q_f := sqT_same (s14.trans (s15.trans s16)) q_f
    refine rd_slN (ys := [V.int f.cap, V.int f.each, V.int f.n, V.int f.d]) S16 q_f (.inl (by show HT.sIx 9 9 (some 6) ≠ 9; decide)) rfl fun G17 H17 b17 S17 s17 q17 => ?_
    walk_at "g"
    refine rd_catN S17 (sqT_same s17 q16) q17 (by show (6 : Nat) ≤ 1000; decide) fun G18 H18 b18 S18 s18 q18 => ?_
    walk_at "g"
    refine Dt.NewAt.ds (by assumption) fun x G19 H19 S19 s19 atx nx => ?_
    walk_at "g"
    refine rd_catN S19 (sqT_same s19 q18) (SqT.of atx) (by show (9 : Nat) ≤ 1000; decide) fun G20 H20 b20 S20 s20 q20 => ?_
    walk_at "g"
    refine Dt.NewAt.ds (by assumption) fun y G21 H21 S21 s21 aty ny => ?_
    refine q G21 H21 y (.ref b20) (.ref on) ⟨f.nm, own, f.cap, f.each, f.n, f.d, start, start + ad, ps'⟩ ⟨g.nm, g.giver, dy, g.cents, g.form, g.last, hid⟩ S21.dk ?_ (SqT.of aty) ?_ ?_ ⟨gok, gc1, gc2⟩
    · exact ((s1.trans s2).trans (s4.trans s6)).trans (((s8.trans s9).trans (s11.trans s12)).trans (((s13.trans s14).trans (s15.trans s16)).trans (((s17.trans s18).trans (s19.trans s20)).trans s21)))
    · exact Dp.tup (sqT_same s21 q20) (.cons (.str _) (.cons (.str _) (.cons (.int _) (.cons (.int _) (.cons (.int _) (.cons (.int _) (.cons (.int _) (.cons (.int _) (.cons (Dp.tup (sqT_same (((s14.trans s15).trans (s16.trans s17)).trans ((s18.trans s19).trans (s20.trans s21))) q_pp) (dpAll_strs.mpr rfl)) .nil)))))))))
    · have sb := ((s14.trans s15).trans (s16.trans s17)).trans ((s18.trans s19).trans (s20.trans s21))
      exact Dp.tup (sqT_same sb (SqT.of aton)) (.cons (.str _) (.cons (.str _) (.cons (.int _) (.cons (.int _) (.cons (Dp.same sb d_fo) (.cons (Dp.same sb d_la) (.cons .non (.cons (.int _) .nil))))))))

end
end K55

namespace K55
open PySem PySem.Spec PyProof.Rows L2 Go Dt
set_option maxHeartbeats 8000000
local macro_rules | `(tactic| walk_at "ne") => `(tactic| first
  | assumption
  | (refine Ne.symm ?_; assumption)
  | exact (Go.free_upd (by assumption)).2
  | exact (Go.free_upd (by assumption)).2.symm
  | exact Go.ne_fr (by assumption) (by walk_at "hp")
  | exact (Go.ne_fr (by assumption) (by walk_at "hp")).symm)
local macro_rules | `(tactic| walk_at "fr") => `(tactic| first
  | assumption
  | exact (Go.free_upd (by assumption)).1
  | exact (Go.free_upd (Go.free_upd (by assumption)).1).1
  | exact Same.free (by assumption) (by walk_at "fr"))
local macro_rules | `(tactic| walk_at "hp") => `(tactic| first
  | assumption
  | with_reducible exact upd_same
  | ((with_reducible show upd _ _ _ _ = _); exact Go.at_upd (by walk_at "ne") (by walk_at "hp"))
  | exact (by assumption : Same _ _) _ _ (by walk_at "hp")
  | exact Dt.Own.at (by assumption) (List.mem_cons_self ..)
  | exact Dt.Own.at (by assumption) (List.mem_cons_of_mem _ (List.mem_cons_self ..))
  | exact Dt.Own.at (by assumption) (List.mem_cons_of_mem _ (List.mem_cons_of_mem _ (List.mem_cons_self ..)))
  | exact Dt.Ts.at (by assumption) (List.mem_cons_self ..)
  | exact Dt.Ts.at (by assumption) (List.mem_cons_of_mem _ (List.mem_cons_self ..))
  | exact Dt.Ds.at (by assumption) (List.mem_cons_self ..)
  | exact Dt.Ds.at (by assumption) (List.mem_cons_of_mem _ (List.mem_cons_self ..))
  | exact (Dt.Own.sub (by assumption)) _ _ (by walk_at "hp")
  | exact (Dt.TkS.sub (by assumption)) _ _ (by walk_at "hp")
  | exact (Dt.Ts.sub (by assumption)) _ _ (by walk_at "hp")
  | exact (Dt.DkS.sub (by assumption)) _ _ (by walk_at "hp")
  | exact (Dt.Ds.sub (by assumption)) _ _ (by walk_at "hp")
  | exact (by assumption : Go.Kp _ _ _) _ _ (by walk_at "ne") (by walk_at "hp")
  | exact (by assumption : Go.Kp2 _ _ _ _) _ _ (by walk_at "ne") (by walk_at "ne") (by walk_at "hp"))
local macro_rules | `(tactic| walk_at "sq") => `(tactic| first
  | assumption
  | ((with_reducible show SqL _ (upd _ _ _) _ _); exact (by assumption : ∀ o, SqL _ (upd _ _ o) _ _) _)
  | ((with_reducible show SqL _ _ _ _); exact SqL.of (by walk_at "hp"))
  | ((with_reducible show SqT _ _ _ _); exact SqT.of (by walk_at "hp"))
  | ((with_reducible show SqL _ (upd _ _ _) _ _); exact Go.sqL_new (by walk_at "fr") (by walk_at "sq"))
  | ((with_reducible show SqT _ (upd _ _ _) _ _); exact Go.sqT_new (by walk_at "fr") (by walk_at "sq"))
  | ((with_reducible show SqL _ (upd _ _ _) _ _); exact Go.sqL_ne (by walk_at "ne") (by walk_at "sq"))
  | ((with_reducible show SqL _ _ _ _); exact Go.sqL_same (by assumption) (by walk_at "sq"))
  | ((with_reducible show SqT _ _ _ _); exact Go.sqT_same (by assumption) (by walk_at "sq"))
  | ((with_reducible show SqL _ _ _ _); exact Go.sqL_same (Dt.Own.sub (by assumption)) (by walk_at "sq"))
  | ((with_reducible show SqT _ _ _ _); exact Go.sqT_same (Dt.Own.sub (by assumption)) (by walk_at "sq"))
  | ((with_reducible show SqL _ _ _ _); exact Go.sqL_same (Dt.TkS.sub (by assumption)) (by walk_at "sq"))
  | ((with_reducible show SqL _ _ _ _); exact Go.sqL_same (Dt.Ts.sub (by assumption)) (by walk_at "sq"))
  | ((with_reducible show SqT _ _ _ _); exact Go.sqT_same (Dt.TkS.sub (by assumption)) (by walk_at "sq"))
  | ((with_reducible show SqT _ _ _ _); exact Go.sqT_same (Dt.Ts.sub (by assumption)) (by walk_at "sq"))
  | ((with_reducible show SqL _ _ _ _); exact Go.sqL_same (Dt.DkS.sub (by assumption)) (by walk_at "sq"))
  | ((with_reducible show SqL _ _ _ _); exact Go.sqL_same (Dt.Ds.sub (by assumption)) (by walk_at "sq"))
  | ((with_reducible show SqT _ _ _ _); exact Go.sqT_same (Dt.DkS.sub (by assumption)) (by walk_at "sq"))
  | ((with_reducible show SqT _ _ _ _); exact Go.sqT_same (Dt.Ds.sub (by assumption)) (by walk_at "sq"))
  | ((with_reducible show SqL _ _ _ _); exact Go.sqL_kp (by assumption) (by walk_at "ne") (by walk_at "sq"))
  | ((with_reducible show SqT _ _ _ _); exact Go.sqT_kp (by assumption) (by walk_at "ne") (by walk_at "sq")))
local macro_rules | `(tactic| walk_at "dp") => `(tactic| first
  | assumption
  | with_reducible exact L2.Dp.int _
  | with_reducible exact L2.Dp.str _
  | with_reducible exact L2.Dp.non
  | with_reducible exact L2.Dp.bl _
  | with_reducible exact L2.DpAll.nil
  | ((with_reducible show L2.Dp _ _ _ _); exact Dt.Dp.same (by assumption) (by walk_at "dp"))
  | ((with_reducible show L2.DpAll _ _ _ _); exact Dt.DpAll.same (by assumption) (by walk_at "dp"))
  | ((with_reducible show L2.Dp _ _ _ _); exact Dt.Dp.same (Dt.Own.sub (by assumption)) (by walk_at "dp"))
  | ((with_reducible show L2.DpAll _ _ _ _); exact Dt.DpAll.same (Dt.Own.sub (by assumption)) (by walk_at "dp"))
  | ((with_reducible show L2.Dp _ _ _ _); exact Dt.Dp.same (Dt.TkS.sub (by assumption)) (by walk_at "dp"))
  | ((with_reducible show L2.Dp _ _ _ _); exact Dt.Dp.same (Dt.Ts.sub (by assumption)) (by walk_at "dp"))
  | ((with_reducible show L2.DpAll _ _ _ _); exact Dt.DpAll.same (Dt.TkS.sub (by assumption)) (by walk_at "dp"))
  | ((with_reducible show L2.DpAll _ _ _ _); exact Dt.DpAll.same (Dt.Ts.sub (by assumption)) (by walk_at "dp"))
  | ((with_reducible show L2.Dp _ _ _ _); exact Dt.Dp.same (Dt.DkS.sub (by assumption)) (by walk_at "dp"))
  | ((with_reducible show L2.Dp _ _ _ _); exact Dt.Dp.same (Dt.Ds.sub (by assumption)) (by walk_at "dp"))
  | ((with_reducible show L2.DpAll _ _ _ _); exact Dt.DpAll.same (Dt.DkS.sub (by assumption)) (by walk_at "dp"))
  | ((with_reducible show L2.DpAll _ _ _ _); exact Dt.DpAll.same (Dt.Ds.sub (by assumption)) (by walk_at "dp"))
  | ((with_reducible show L2.Dp _ _ _ _); exact L2.Dp.tup (by walk_at "sq") (by walk_at "dp"))
  | ((with_reducible show L2.Dp _ _ _ _); exact L2.Dp.lst (by walk_at "sq") (by walk_at "dp"))
  | with_reducible exact L2.DpAll.cons (by walk_at "dp") (by walk_at "dp")
  | ((with_reducible show Dt.Scr _ _ _); exact Dt.Scr.same (by assumption) (by walk_at "dp"))
  | exact Dt.dpAll_ints.mpr rfl
  | exact Dt.dpAll_strs.mpr rfl
  | exact Dt.dpAll_bools.mpr rfl)
local macro_rules | `(tactic| walk_at "ci") => `(tactic| first
  | exact .inr ⟨by decide, by decide⟩
  | exact .inl ⟨by decide, by decide⟩
  | exact ⟨by decide, by decide, by decide⟩
  | decide
  | omega
  | exact ⟨by omega, by omega⟩
  | exact .inl ⟨by omega, by omega⟩
  | exact .inr ⟨by omega, by omega⟩)
local macro_rules | `(tactic| walk_at "g0") => `(tactic| first
  | with_reducible refine Go.g_seq ?_
  | ((with_reducible show tVar _ _ _ _); refine ⟨_, rfl, ?_⟩)
  | with_reducible refine Go.g_c ?_
  | with_reducible refine Go.g_op ?_
  | with_reducible refine Go.g_asg ?_
  | with_reducible refine Go.g_name ?_
  | with_reducible refine Go.g_cons ?_
  | with_reducible refine Dt.g_orV ?_
  | with_reducible refine Dt.g_andV ?_
  | with_reducible refine Dt.g_notV ?_
  | with_reducible refine Dt.g_lst2 ?_
  | with_reducible refine Dt.g_tup2 ?_
  | with_reducible refine Go.g_for ?_
  | with_reducible refine Go.g_rng1 ?_
  | with_reducible refine Go.g_rng2 ?_
  | with_reducible refine Go.g_rng3 ?_
  | with_reducible refine Go.g_list ?_
  | with_reducible refine Go.g_itup ?_
  | with_reducible refine Go.g_enum ?_
  | ((with_reducible show tPar _ _ _ _ _ _); unfold tPar)
  | ((with_reducible show ∃ v w, [_, _] = [v, w] ∧ _); refine ⟨_, _, rfl, ?_⟩)
  | with_reducible refine Go.g_zip ?_
  | with_reducible refine Go.g_augS ?_
  | with_reducible refine Go.g_lc ?_
  | with_reducible refine Go.g_nil ?_
  | with_reducible refine Go.g_cb ?_
  | with_reducible refine Go.g_call ?_
  | with_reducible refine Go.g_ret ?_
  | with_reducible refine Go.g_next ?_
  | with_reducible refine Go.g_drop ?_
  | with_reducible refine Go.g_un ?_
  | with_reducible refine Go.g_test ?_
  | with_reducible refine Go.g_tB ?_
  | with_reducible refine Go.g_ifs ?_
  | with_reducible refine Go.g_if ?_
  | with_reducible refine Go.g_and ?_
  | with_reducible refine Go.g_or ?_
  | with_reducible refine Go.g_not ?_
  | with_reducible refine Go.g_sl ?_
  | with_reducible refine Go.g_nopart ?_
  | with_reducible refine Go.g_part ?_
  | ((with_reducible show ∃ k, V.bl _ = V.bl k ∧ _); refine ⟨_, rfl, ?_⟩)
  | ((with_reducible show ∃ k, V.int _ = V.int k ∧ _); refine ⟨_, rfl, ?_⟩)
  | with_reducible refine Go.g_bm ?_
  | with_reducible refine Go.g_yes ?_
  | ((with_reducible show rI0 _ _ _ _ _); refine ⟨_, _, rfl, rfl, ?_⟩)
  | ((with_reducible show rI _ _ _ _ _ _); refine ⟨_, _, rfl, rfl, ?_, ?_⟩; (focus walk_at "ci"))
  | ((with_reducible show rU _ _ _ _); refine ⟨_, rfl, ?_⟩)
  | ((with_reducible show V.non = V.non ∧ _); refine ⟨rfl, ?_⟩)
  | ((with_reducible show rIsB _ _ _ _); refine ⟨_, _, rfl, rfl, ?_⟩)
  | ((with_reducible show rNotB _ _ _ _); refine ⟨_, _, rfl, rfl, ?_⟩)
  | ((with_reducible show rEq _ _ _ _); refine ⟨rfl, ?_⟩)
  | ((with_reducible show rNe _ _ _ _); refine ⟨rfl, ?_⟩)
  | ((with_reducible show rIxL _ _ _ _ _); refine Go.g_ixL (by walk_at "sq") (by rfl) ?_)
  | ((with_reducible show rIxT _ _ _ _ _); refine Go.g_ixT (by walk_at "sq") (by rfl) ?_)
  | ((with_reducible show rSetL _ _ _ _ _); refine Go.g_setL (by walk_at "hp") (by rfl) ?_)
  | ((with_reducible show ∃ p ys, [V.ref _] = [V.ref p] ∧ (SqL _ _ _ _ ∨ SqT _ _ _ _) ∧ _); refine ⟨_, _, rfl, .inl (by walk_at "sq"), ?_⟩)
  | ((with_reducible show (∃ i, [V.int _] = [V.int i] ∧ _) ∨ _); refine .inl ⟨_, rfl, ?_⟩)
  | ((with_reducible show ∃ (c : Nat) (z : Str), V.str _ = V.str ⟨#[c]⟩ ∧ V.str _ = V.str z ∧ _); refine ⟨_, _, rfl, rfl, ?_⟩)
  | ((with_reducible show ∃ x : Str, [V.str _] = [V.str x] ∧ Str.length x = 1 ∧ _); refine ⟨_, rfl, rfl, ?_⟩)
  | ((with_reducible show ∃ z : Str, [V.str _] = [V.str z] ∧ Str.length z ≤ sizeLine ∧ _); refine ⟨_, rfl, by assumption, ?_⟩)
  | ((with_reducible show rSlS _ _ _ _ _); refine ⟨_, rfl, by assumption, ?_⟩)
  | ((with_reducible show gTup _ _ _ _ _ _ _); refine Go.g_gtup (by walk_at "sq") (by rfl) ?_)
  | ((with_reducible show gCons _ _ _ _ _ _); refine ⟨_, _, rfl, ?_⟩)
  | ((with_reducible show gNil _ _ _ _); refine ⟨rfl, ?_⟩)
  | ((with_reducible show rLenS _ _ _ _); refine Go.g_lenL (by walk_at "sq") ?_)
  | ((with_reducible show rListOf _ _ _ _); refine Go.g_listL (by walk_at "sq") ?_)
  | ((with_reducible show Dt.rList2 _ _ _ _); refine ⟨_, _, rfl, .inl (by walk_at "sq"), ?_⟩)
  | ((with_reducible show Dt.rTuple2 _ _ _ _); refine ⟨_, _, rfl, by walk_at "sq", ?_⟩)
  | ((with_reducible show Dt.rSlL2 _ _ _ _ _ _); refine ⟨_, _, rfl, by walk_at "sq", ?_⟩)
  | ((with_reducible show wipe _ _ = wipe _ _ ∧ _); refine ⟨rfl, ?_⟩)
  | ((with_reducible show if true = true then _ else _); refine iteT ?_)
  | ((with_reducible show if false = true then _ else _); refine iteF ?_)
  | ((with_reducible show ∃ a b xs ys, [V.ref _, V.ref _] = [V.ref a, V.ref b] ∧ SqL _ _ a xs ∧ SqL _ _ b ys ∧ _); refine ⟨_, _, _, _, rfl, by walk_at "sq", by walk_at "sq", ?_⟩)
  | ((with_reducible show ∃ a xs, [V.ref _] = [V.ref a] ∧ SqL _ _ a xs ∧ _); refine ⟨_, _, rfl, by walk_at "sq", ?_⟩)
  | ((with_reducible show ∃ a, V.ref _ = V.ref a ∧ (∃ xs, SqL _ _ a xs) ∧ _); refine ⟨_, rfl, ⟨_, by walk_at "sq"⟩, ?_⟩)
  | ((with_reducible show ∃ a, V.ref _ = V.ref a ∧ (∃ xs, SqT _ _ a xs) ∧ _); refine ⟨_, rfl, ⟨_, by walk_at "sq"⟩, ?_⟩)
  | ((with_reducible show ∃ j : Int, [V.int _] = [V.int j] ∧ _ ≤ j ∧ j < _ ∧ _); refine ⟨_, rfl, by omega, by omega, ?_⟩)
  | ((with_reducible show ∃ i j : Int, [V.int _, V.int _] = [V.int i, V.int j] ∧ (_ ≤ i ∧ i < _ ∧ _ ≤ j ∧ j < _) ∧ _); refine ⟨_, _, rfl, ⟨by omega, by omega, by omega, by omega⟩, ?_⟩)
  | ((with_reducible show ∃ i j : Int, [V.int _, V.int _] = [V.int i, V.int j] ∧ _); refine ⟨_, _, rfl, ?_⟩)
  | ((with_reducible show ∃ i : Int, [V.int _] = [V.int i] ∧ _); refine ⟨_, rfl, ?_⟩)
  | ((with_reducible show _ ≤ sizeLine ∧ _); refine ⟨by first | decide | (simp only [List.length_cons, List.length_nil]; decide), ?_⟩))
local macro_rules | `(tactic| walk_at "g1") => `(tactic| first | walk_at "g0" | with_reducible refine Go.g_sub ?_)
local macro_rules | `(tactic| walk_at "g") => `(tactic| repeat walk_at "g1")
local macro_rules | `(tactic| walk_at "v") => `(tactic| repeat walk_at "g0")
local macro_rules | `(tactic| walk_at "if") => `(tactic| first
  | with_reducible refine @Go.g_itd _ _ _ _ ?_ ?_
  | with_reducible refine @Go.g_itnd _ _ _ _ ?_ ?_
  | with_reducible refine Go.g_ite ?_ ?_)

section
variable {P : Program} {w : World} {K : PySem.W.Frag} {mg : Str → Option Value} {base : Heap}
def sp_law (K : PySem.W.Frag) : Sp := fun vs H Q _ => ∃ (sc : Addr) (ns : List Int), vs = [.ref sc] ∧ SqL K H sc (ns.map V.int) ∧ ns.length ≤ 63 ∧ ∀ H', Q (.bl true) H'
theorem law_start {K : PySem.W.Frag} {H : Hp} {a : Addr} {ns : List Int} (hl : ns.length ≤ 63) (hO : Only H) (hS : SqL K H a (ns.map V.int)) : sp_law K [.ref a] H (fun v _ => v = .bl true) fun _ _ _ => False :=
  ⟨a, ns, rfl, hS, hl, fun _ => rfl⟩
theorem ok_law (T : Txt K mg) : FnOk P w K mg base CX0 6 T.a_law T.fd_law ["script"] (sp_law K) := by
  refine T.F_law.ok sc_law (fun vs H Q E h => ?_) (fun cdv A outer s H vs Q E hr h => ?_)
  · obtain ⟨sc, ns, rfl, _⟩ := h; rfl
  · obtain ⟨sc, ns, rfl, hS, hlen, q⟩ := h
    refine ⟨_, pss_cons (ps_set (i := 1) sc_law.nd rfl (.inl rfl) (pe_lst (pa_cons pe_int (pa_cons pe_int pa_nil))))
      (pss_cons (ps_set (i := 2) sc_law.nd rfl (.inl rfl) (pe_call (Dt.frame_call (ok__law_world T)) (hr.mono (by decide)) (by rfl) T.g__law_world T.F__law_world.kp T.b__law_world .nil pass0 (pa_cons (pv 1) (pa_cons (pv 0) pa_nil))))
      (pss_cons (ps_for PassesOwn.never rfl (pi_range1 (by rfl) T.n_range (pa_cons pe_int pa_nil)) (pg_name (i := 3) sc_law.nd rfl (.inl rfl))
        (pss_cons (ps_asg (pe_call (Dt.frame_call (ok__law_pair T)) hr (by rfl) T.g__law_pair T.F__law_pair.kp T.b__law_pair .nil pass0 (pa_cons (pv 1) (pa_cons (pv 0) (pa_cons (pv 2) pa_nil)))) (pg_tup rfl (pgs_cons (pg_name (i := 4) sc_law.nd rfl (.inl rfl)) (pgs_cons (pg_name (i := 5) sc_law.nd rfl (.inl rfl)) pgs_nil))))
        (pss_cons (ps_set (i := 6) sc_law.nd rfl (.inl rfl) (pe_call (Dt.frame_call (ok_may_match T)) (hr.mono (by decide)) (by rfl) T.g_may_match T.F_may_match.kp T.b_may_match .nil pass0 (pa_cons (pv 4) (pa_cons (pv 5) pa_nil))))
        (pss_cons (ps_set (i := 7) sc_law.nd rfl (.inl rfl) (pe_call (Dt.frame_call (ok__law_may T)) (hr.mono (by decide)) (by rfl) T.g__law_may T.F__law_may.kp T.b__law_may .nil pass0 (pa_cons (pv 4) (pa_cons (pv 5) pa_nil))))
        (pss_one (ps_if (PW.pt (pw_or (PW.pt (pw_and (pt_val (pv 7)) (pw_and1 (pt_cmpR op_notBl (pv 6) pe_bl (nomark _))))) (pw_or1 (PW.pt (pw_and (pt_not (pt_val (pv 7))) (pw_and1 (pt_cmpR op_notBl (pv 6) pe_bl (nomark _))))))))
          (pss_one (ps_ret pe_bl))
          (pss_nil)))))))
      (pss_one (ps_ret pe_bl)))), ?_⟩
    walk_at "g"
    refine NewAt.owc (Own.nil H) fun st H0 w0 n0 => ?_
    have S0 : Ds [] st H H0 := ⟨_, ⟨0, 0, rfl⟩, w0⟩
    have hsc : Scr K H sc := ⟨ns, hS, hlen⟩
    walk_at "g"
    refine ⟨[], H0, Own.nil _, plain0, st, sc, H, rfl, S0.dk, hsc, fun G1 H1 wt pa qa ps qs w2 S1 s1 W1 two H1' w1 => ?_⟩
    rw [own_nil] at w1; subst w1
    have hsc1 := Scr.same s1 hsc
    walk_at "g"
    refine forD (src_range (K := K)) (fun i σ' pre G' => pre = [] ∧ ∃ (y3 y4 y5 y6 y7 : Option V), σ' = [some (.ref sc), some (.ref st), some (.ref wt), y3, y4, y5, y6, y7] ∧ Wo K G' wt pa qa ps qs w2 ∧ Scr K G' sc) S1.ds trivial ⟨rfl, _, _, _, _, _, rfl, W1, hsc1⟩ ?_ ?_
    · rintro i x σ' pre G' G2 H2 hi _ ⟨rfl, y3, y4, y5, y6, y7, rfl, W2, hsc2⟩ s2 S2 ⟨hi', rfl⟩ N hN
      have W2 := W2.same s2
      have hsc2 := Scr.same s2 hsc2
      walk_at "g"
      refine ⟨[], H2, Own.nil _, plain0, st, sc, wt, pa, qa, ps, qs, w2, G2, rfl, S2.dk, hsc2, W2, two, fun G3 H3 t fv gv f g S3 s3 q3 df dg ok H3' w3 => ?_⟩
      rw [own_nil] at w3; subst w3
      have S3 := S3.ds
      have e3 := sqT_same S3.sub q3
      have W3 := W2.same s3
      have hsc3 := Scr.same s3 hsc2
      walk_at "g"
      refine ⟨[], _, Own.nil _, plain0, fv, gv, f, g, rfl, Dp.same S3.sub df, Dp.same S3.sub dg, ok, fun H4 s4 H4' w4 => ?_⟩
      rw [own_nil] at w4; subst w4
      obtain ⟨G4, S4, s4'⟩ := S3.grow s4
      walk_at "g"
      refine ⟨[], _, Own.nil _, plain0, fv, gv, f, g, rfl, Dp.same (s4'.trans S4.sub) df, Dp.same (s4'.trans S4.sub) dg, ok, fun H5 s5 H5' w5 => ?_⟩
      rw [own_nil] at w5; subst w5
      obtain ⟨G5, S5, s5'⟩ := S4.grow s5
      have W5 := W3.same (s4'.trans s5')
      have hsc5 := Scr.same (s4'.trans s5') hsc3
      cases hm : mayS f g
      · walk_at "g"
        rw [if_pos (by decide)]
        walk_at "g"
        rw [if_neg (by decide)]
        walk_at "g"
        exact hN _ _ _ _ S5 (s2.trans (s3.trans (s4'.trans s5'))) ⟨rfl, _, _, _, _, _, rfl, W5, hsc5⟩
      · walk_at "g"
        rw [if_neg (by decide)]
        walk_at "g"
        rw [if_neg (by decide)]
        walk_at "g"
        exact hN _ _ _ _ S5 (s2.trans (s3.trans (s4'.trans s5'))) ⟨rfl, _, _, _, _, _, rfl, W5, hsc5⟩
    · rintro σ' H' pre' G' S' _ ⟨rfl, y3, y4, y5, y6, y7, rfl, _⟩
      walk_at "g"
      exact q _

end
end K55

namespace K55
open PySem PySem.Spec PyProof.Rows L2 Go
set_option maxHeartbeats 8000000
theorem all_end {P : Program} {w : World} {K : PySem.W.Frag} {h : Heap} {mg : Str → Option Value} {fa : Addr} (X : K.In h) (G : h.Ns mainGlobals mg) (hfa : mg "law" = some (.ref fa))
    {f0 : Addr} {od0 an0 : Option Addr} {sl0 : Array (Option Value)} {oc0 kV0 dc0 pm0 cd0 ct0 : Value}
    (a0 : PySem.W.nsIn K mainGlobals "split" = some (some (.ref f0))) (l0 : K.lookup f0 = some ⟨oc0, od0, .func (PySem.W.fnOf "split" "split" (defArgs s_split) (defBody s_split) (defScope s_split) .none kV0 dc0 pm0 an0 cd0 ct0), sl0⟩) (c0 : PySem.W.codeIn K cd0 "split" = true) (k0 : PySem.W.keepIn K (.ref f0) = true)
    {f1 : Addr} {od1 an1 : Option Addr} {sl1 : Array (Option Value)} {oc1 kV1 dc1 pm1 cd1 ct1 : Value}
    (a1 : PySem.W.nsIn K mainGlobals "_law_draw" = some (some (.ref f1))) (l1 : K.lookup f1 = some ⟨oc1, od1, .func (PySem.W.fnOf "_law_draw" "_law_draw" (defArgs s__law_draw) (defBody s__law_draw) (defScope s__law_draw) .none kV1 dc1 pm1 an1 cd1 ct1), sl1⟩) (c1 : PySem.W.codeIn K cd1 "_law_draw" = true) (k1 : PySem.W.keepIn K (.ref f1) = true)
    {f2 : Addr} {od2 an2 : Option Addr} {sl2 : Array (Option Value)} {oc2 kV2 dc2 pm2 cd2 ct2 : Value}
    (a2 : PySem.W.nsIn K mainGlobals "_law_ways" = some (some (.ref f2))) (l2 : K.lookup f2 = some ⟨oc2, od2, .func (PySem.W.fnOf "_law_ways" "_law_ways" (defArgs s__law_ways) (defBody s__law_ways) (defScope s__law_ways) .none kV2 dc2 pm2 an2 cd2 ct2), sl2⟩) (c2 : PySem.W.codeIn K cd2 "_law_ways" = true) (k2 : PySem.W.keepIn K (.ref f2) = true)
    {f3 : Addr} {od3 an3 : Option Addr} {sl3 : Array (Option Value)} {oc3 kV3 dc3 pm3 cd3 ct3 : Value}
    (a3 : PySem.W.nsIn K mainGlobals "ways" = some (some (.ref f3))) (l3 : K.lookup f3 = some ⟨oc3, od3, .func (PySem.W.fnOf "ways" "ways" (defArgs s_ways) (defBody s_ways) (defScope s_ways) .none kV3 dc3 pm3 an3 cd3 ct3), sl3⟩) (c3 : PySem.W.codeIn K cd3 "ways" = true) (k3 : PySem.W.keepIn K (.ref f3) = true)
    {f4 : Addr} {od4 an4 : Option Addr} {sl4 : Array (Option Value)} {oc4 kV4 dc4 pm4 cd4 ct4 : Value}
    (a4 : PySem.W.nsIn K mainGlobals "_law_pick" = some (some (.ref f4))) (l4 : K.lookup f4 = some ⟨oc4, od4, .func (PySem.W.fnOf "_law_pick" "_law_pick" (defArgs s__law_pick) (defBody s__law_pick) (defScope s__law_pick) .none kV4 dc4 pm4 an4 cd4 ct4), sl4⟩) (c4 : PySem.W.codeIn K cd4 "_law_pick" = true) (k4 : PySem.W.keepIn K (.ref f4) = true)
    {f5 : Addr} {od5 an5 : Option Addr} {sl5 : Array (Option Value)} {oc5 kV5 dc5 pm5 cd5 ct5 : Value}
    (a5 : PySem.W.nsIn K mainGlobals "_law_name" = some (some (.ref f5))) (l5 : K.lookup f5 = some ⟨oc5, od5, .func (PySem.W.fnOf "_law_name" "_law_name" (defArgs s__law_name) (defBody s__law_name) (defScope s__law_name) .none kV5 dc5 pm5 an5 cd5 ct5), sl5⟩) (c5 : PySem.W.codeIn K cd5 "_law_name" = true) (k5 : PySem.W.keepIn K (.ref f5) = true)
    {f6 : Addr} {od6 an6 : Option Addr} {sl6 : Array (Option Value)} {oc6 kV6 dc6 pm6 cd6 ct6 : Value}
    (a6 : PySem.W.nsIn K mainGlobals "_law_some" = some (some (.ref f6))) (l6 : K.lookup f6 = some ⟨oc6, od6, .func (PySem.W.fnOf "_law_some" "_law_some" (defArgs s__law_some) (defBody s__law_some) (defScope s__law_some) .none kV6 dc6 pm6 an6 cd6 ct6), sl6⟩) (c6 : PySem.W.codeIn K cd6 "_law_some" = true) (k6 : PySem.W.keepIn K (.ref f6) = true)
    {f7 : Addr} {od7 an7 : Option Addr} {sl7 : Array (Option Value)} {oc7 kV7 dc7 pm7 cd7 ct7 : Value}
    (a7 : PySem.W.nsIn K mainGlobals "_law_may" = some (some (.ref f7))) (l7 : K.lookup f7 = some ⟨oc7, od7, .func (PySem.W.fnOf "_law_may" "_law_may" (defArgs s__law_may) (defBody s__law_may) (defScope s__law_may) .none kV7 dc7 pm7 an7 cd7 ct7), sl7⟩) (c7 : PySem.W.codeIn K cd7 "_law_may" = true) (k7 : PySem.W.keepIn K (.ref f7) = true)
    {f8 : Addr} {od8 an8 : Option Addr} {sl8 : Array (Option Value)} {oc8 kV8 dc8 pm8 cd8 ct8 : Value}
    (a8 : PySem.W.nsIn K mainGlobals "may_match" = some (some (.ref f8))) (l8 : K.lookup f8 = some ⟨oc8, od8, .func (PySem.W.fnOf "may_match" "may_match" (defArgs s_may_match) (defBody s_may_match) (defScope s_may_match) .none kV8 dc8 pm8 an8 cd8 ct8), sl8⟩) (c8 : PySem.W.codeIn K cd8 "may_match" = true) (k8 : PySem.W.keepIn K (.ref f8) = true)
    {f9 : Addr} {od9 an9 : Option Addr} {sl9 : Array (Option Value)} {oc9 kV9 dc9 pm9 cd9 ct9 : Value}
    (a9 : PySem.W.nsIn K mainGlobals "_law_names" = some (some (.ref f9))) (l9 : K.lookup f9 = some ⟨oc9, od9, .func (PySem.W.fnOf "_law_names" "_law_names" (defArgs s__law_names) (defBody s__law_names) (defScope s__law_names) .none kV9 dc9 pm9 an9 cd9 ct9), sl9⟩) (c9 : PySem.W.codeIn K cd9 "_law_names" = true) (k9 : PySem.W.keepIn K (.ref f9) = true)
    {f10 : Addr} {od10 an10 : Option Addr} {sl10 : Array (Option Value)} {oc10 kV10 dc10 pm10 cd10 ct10 : Value}
    (a10 : PySem.W.nsIn K mainGlobals "_law_form" = some (some (.ref f10))) (l10 : K.lookup f10 = some ⟨oc10, od10, .func (PySem.W.fnOf "_law_form" "_law_form" (defArgs s__law_form) (defBody s__law_form) (defScope s__law_form) .none kV10 dc10 pm10 an10 cd10 ct10), sl10⟩) (c10 : PySem.W.codeIn K cd10 "_law_form" = true) (k10 : PySem.W.keepIn K (.ref f10) = true)
    {f11 : Addr} {od11 an11 : Option Addr} {sl11 : Array (Option Value)} {oc11 kV11 dc11 pm11 cd11 ct11 : Value}
    (a11 : PySem.W.nsIn K mainGlobals "_law_funds" = some (some (.ref f11))) (l11 : K.lookup f11 = some ⟨oc11, od11, .func (PySem.W.fnOf "_law_funds" "_law_funds" (defArgs s__law_funds) (defBody s__law_funds) (defScope s__law_funds) .none kV11 dc11 pm11 an11 cd11 ct11), sl11⟩) (c11 : PySem.W.codeIn K cd11 "_law_funds" = true) (k11 : PySem.W.keepIn K (.ref f11) = true)
    {f12 : Addr} {od12 an12 : Option Addr} {sl12 : Array (Option Value)} {oc12 kV12 dc12 pm12 cd12 ct12 : Value}
    (a12 : PySem.W.nsIn K mainGlobals "_law_gifts" = some (some (.ref f12))) (l12 : K.lookup f12 = some ⟨oc12, od12, .func (PySem.W.fnOf "_law_gifts" "_law_gifts" (defArgs s__law_gifts) (defBody s__law_gifts) (defScope s__law_gifts) .none kV12 dc12 pm12 an12 cd12 ct12), sl12⟩) (c12 : PySem.W.codeIn K cd12 "_law_gifts" = true) (k12 : PySem.W.keepIn K (.ref f12) = true)
    {f13 : Addr} {od13 an13 : Option Addr} {sl13 : Array (Option Value)} {oc13 kV13 dc13 pm13 cd13 ct13 : Value}
    (a13 : PySem.W.nsIn K mainGlobals "_law_world" = some (some (.ref f13))) (l13 : K.lookup f13 = some ⟨oc13, od13, .func (PySem.W.fnOf "_law_world" "_law_world" (defArgs s__law_world) (defBody s__law_world) (defScope s__law_world) .none kV13 dc13 pm13 an13 cd13 ct13), sl13⟩) (c13 : PySem.W.codeIn K cd13 "_law_world" = true) (k13 : PySem.W.keepIn K (.ref f13) = true)
    {f14 : Addr} {od14 an14 : Option Addr} {sl14 : Array (Option Value)} {oc14 kV14 dc14 pm14 cd14 ct14 : Value}
    (a14 : PySem.W.nsIn K mainGlobals "_law_pair" = some (some (.ref f14))) (l14 : K.lookup f14 = some ⟨oc14, od14, .func (PySem.W.fnOf "_law_pair" "_law_pair" (defArgs s__law_pair) (defBody s__law_pair) (defScope s__law_pair) .none kV14 dc14 pm14 an14 cd14 ct14), sl14⟩) (c14 : PySem.W.codeIn K cd14 "_law_pair" = true) (k14 : PySem.W.keepIn K (.ref f14) = true)
    {f15 : Addr} {od15 an15 : Option Addr} {sl15 : Array (Option Value)} {oc15 kV15 dc15 pm15 cd15 ct15 : Value}
    (a15 : PySem.W.nsIn K mainGlobals "law" = some (some (.ref f15))) (l15 : K.lookup f15 = some ⟨oc15, od15, .func (PySem.W.fnOf "law" "law" (defArgs s_law) (defBody s_law) (defScope s_law) .none kV15 dc15 pm15 an15 cd15 ct15), sl15⟩) (c15 : PySem.W.codeIn K cd15 "law" = true) (k15 : PySem.W.keepIn K (.ref f15) = true)
    (z0 : PySem.W.nsIn K mainGlobals "any" = some none)
    (z1 : PySem.W.nsIn K mainGlobals "int" = some none)
    (z2 : PySem.W.nsIn K mainGlobals "len" = some none)
    (z3 : PySem.W.nsIn K mainGlobals "list" = some none)
    (z4 : PySem.W.nsIn K mainGlobals "min" = some none)
    (z5 : PySem.W.nsIn K mainGlobals "range" = some none)
    (z6 : PySem.W.nsIn K mainGlobals "sorted" = some none)
    (z7 : PySem.W.nsIn K mainGlobals "str" = some none)
    (z8 : PySem.W.nsIn K mainGlobals "sum" = some none)
    (z9 : PySem.W.nsIn K mainGlobals "tuple" = some none)
    : ∃ fd : FuncData, (∀ (s : Shared) (v : Value), BindsTo s fd ⟨[v], []⟩ [("script", v)]) ∧ ∀ base : Heap, K.In base → base.Ns mainGlobals mg → FnOk P w K mg base CX0 6 fa fd ["script"] (sp_law K) := by
  have e := hfa.symm.trans (PySem.W.mg_of X G a15)
  cases e
  have F0 := fun_mk (st := s_split) l0 c0 k0
  have F1 := fun_mk (st := s__law_draw) l1 c1 k1
  have F2 := fun_mk (st := s__law_ways) l2 c2 k2
  have F3 := fun_mk (st := s_ways) l3 c3 k3
  have F4 := fun_mk (st := s__law_pick) l4 c4 k4
  have F5 := fun_mk (st := s__law_name) l5 c5 k5
  have F6 := fun_mk (st := s__law_some) l6 c6 k6
  have F7 := fun_mk (st := s__law_may) l7 c7 k7
  have F8 := fun_mk (st := s_may_match) l8 c8 k8
  have F9 := fun_mk (st := s__law_names) l9 c9 k9
  have F10 := fun_mk (st := s__law_form) l10 c10 k10
  have F11 := fun_mk (st := s__law_funds) l11 c11 k11
  have F12 := fun_mk (st := s__law_gifts) l12 c12 k12
  have F13 := fun_mk (st := s__law_world) l13 c13 k13
  have F14 := fun_mk (st := s__law_pair) l14 c14 k14
  have F15 := fun_mk (st := s_law) l15 c15 k15
  exact ⟨PySem.W.fnOf "law" "law" (defArgs s_law) (defBody s_law) (defScope s_law) .none kV15 dc15 pm15 an15 cd15 ct15, fun s v => .of_eq rfl, fun base _ _ => ok_law (P := P) (w := w) (base := base) { a_split := f0, fd_split := _, F_split := F0, b_split := F0.binds (ps := ["amount", "weights"]) (fun _ _ _ _ _ _ us hl => match us, hl with | [_, _], _ => rfl), g_split := PySem.W.mg_of X G a0, a__law_draw := f1, fd__law_draw := _, F__law_draw := F1, b__law_draw := F1.binds (ps := ["state", "script", "size"]) (fun _ _ _ _ _ _ us hl => match us, hl with | [_, _, _], _ => rfl), g__law_draw := PySem.W.mg_of X G a1, a__law_ways := f2, fd__law_ways := _, F__law_ways := F2, b__law_ways := F2.binds (ps := ["cents", "form"]) (fun _ _ _ _ _ _ us hl => match us, hl with | [_, _], _ => rfl), g__law_ways := PySem.W.mg_of X G a2, a_ways := f3, fd_ways := _, F_ways := F3, b_ways := F3.binds (ps := ["cents", "form"]) (fun _ _ _ _ _ _ us hl => match us, hl with | [_, _], _ => rfl), g_ways := PySem.W.mg_of X G a3, a__law_pick := f4, fd__law_pick := _, F__law_pick := F4, b__law_pick := F4.binds (ps := ["state", "script", "items"]) (fun _ _ _ _ _ _ us hl => match us, hl with | [_, _, _], _ => rfl), g__law_pick := PySem.W.mg_of X G a4, a__law_name := f5, fd__law_name := _, F__law_name := F5, b__law_name := F5.binds (ps := ["state", "script", "at"]) (fun _ _ _ _ _ _ us hl => match us, hl with | [_, _, _], _ => rfl), g__law_name := PySem.W.mg_of X G a5, a__law_some := f6, fd__law_some := _, F__law_some := F6, b__law_some := F6.binds (ps := ["state", "script", "items", "most"]) (fun _ _ _ _ _ _ us hl => match us, hl with | [_, _, _, _], _ => rfl), g__law_some := PySem.W.mg_of X G a6, a__law_may := f7, fd__law_may := _, F__law_may := F7, b__law_may := F7.binds (ps := ["fund", "gift"]) (fun _ _ _ _ _ _ us hl => match us, hl with | [_, _], _ => rfl), g__law_may := PySem.W.mg_of X G a7, a_may_match := f8, fd_may_match := _, F_may_match := F8, b_may_match := F8.binds (ps := ["fund", "gift"]) (fun _ _ _ _ _ _ us hl => match us, hl with | [_, _], _ => rfl), g_may_match := PySem.W.mg_of X G a8, a__law_names := f9, fd__law_names := _, F__law_names := F9, b__law_names := F9.binds (ps := ["state", "script", "many"]) (fun _ _ _ _ _ _ us hl => match us, hl with | [_, _, _], _ => rfl), g__law_names := PySem.W.mg_of X G a9, a__law_form := f10, fd__law_form := _, F__law_form := F10, b__law_form := F10.binds (ps := ["state", "script", "purposes"]) (fun _ _ _ _ _ _ us hl => match us, hl with | [_, _, _], _ => rfl), g__law_form := PySem.W.mg_of X G a10, a__law_funds := f11, fd__law_funds := _, F__law_funds := F11, b__law_funds := F11.binds (ps := ["state", "script", "world", "many", "greatest"]) (fun _ _ _ _ _ _ us hl => match us, hl with | [_, _, _, _, _], _ => rfl), g__law_funds := PySem.W.mg_of X G a11, a__law_gifts := f12, fd__law_gifts := _, F__law_gifts := F12, b__law_gifts := F12.binds (ps := ["state", "script", "world", "many", "greatest"]) (fun _ _ _ _ _ _ us hl => match us, hl with | [_, _, _, _, _], _ => rfl), g__law_gifts := PySem.W.mg_of X G a12, a__law_world := f13, fd__law_world := _, F__law_world := F13, b__law_world := F13.binds (ps := ["state", "script"]) (fun _ _ _ _ _ _ us hl => match us, hl with | [_, _], _ => rfl), g__law_world := PySem.W.mg_of X G a13, a__law_pair := f14, fd__law_pair := _, F__law_pair := F14, b__law_pair := F14.binds (ps := ["state", "script", "world"]) (fun _ _ _ _ _ _ us hl => match us, hl with | [_, _, _], _ => rfl), g__law_pair := PySem.W.mg_of X G a14, a_law := fa, fd_law := _, F_law := F15, b_law := F15.binds (ps := ["script"]) (fun _ _ _ _ _ _ us hl => match us, hl with | [_], _ => rfl), g_law := PySem.W.mg_of X G a15, n_any := PySem.W.mg_none_of X G z0, n_int := PySem.W.mg_none_of X G z1, n_len := PySem.W.mg_none_of X G z2, n_list := PySem.W.mg_none_of X G z3, n_min := PySem.W.mg_none_of X G z4, n_range := PySem.W.mg_none_of X G z5, n_sorted := PySem.W.mg_none_of X G z6, n_str := PySem.W.mg_none_of X G z7, n_sum := PySem.W.mg_none_of X G z8, n_tuple := PySem.W.mg_none_of X G z9 }⟩

end K55
open PySem PySem.W PyProof.Rows
set_option maxHeartbeats 0 in
theorem PySem.Challenge.cw_everycoin_k55_what_a_fund_may_match_holds : PySem.Challenge.rw_everycoin_k55_what_a_fund_may_match.Holds := by
  w_on; o_law; k_head; (case hw => w_witness2)
  k_fill
  refine L2.walk_of (l := PySem.Challenge.rw_everycoin_k55_what_a_fund_may_match) (n := 63) (k := 6) (x := "script") (CX := fun _ => L2.CX0) (sp := fun w => K55.sp_law _) rfl (by decide) rfl ⟨rfl, by decide, by decide⟩ (fun w h Y => PySem.W.kIn_of Y) ?F (fun _ _ a ns hl hO hS => K55.law_start hl hO hS) (fun _ _ _ _ _ h => h)
  case F =>
    intro w mg fa h KX G hmg
    refine' K55.all_end KX G hmg ?a0 ?l0 ?c0 ?k0 ?a1 ?l1 ?c1 ?k1 ?a2 ?l2 ?c2 ?k2 ?a3 ?l3 ?c3 ?k3 ?a4 ?l4 ?c4 ?k4 ?a5 ?l5 ?c5 ?k5 ?a6 ?l6 ?c6 ?k6 ?a7 ?l7 ?c7 ?k7 ?a8 ?l8 ?c8 ?k8 ?a9 ?l9 ?c9 ?k9 ?a10 ?l10 ?c10 ?k10 ?a11 ?l11 ?c11 ?k11 ?a12 ?l12 ?c12 ?k12 ?a13 ?l13 ?c13 ?k13 ?a14 ?l14 ?c14 ?k14 ?a15 ?l15 ?c15 ?k15 ?z0 ?z1 ?z2 ?z3 ?z4 ?z5 ?z6 ?z7 ?z8 ?z9
    (case a0 => k_is); (case l0 => k_is); (case c0 => k_is); (case k0 => k_is); (case a1 => k_is); (case l1 => k_is); (case c1 => k_is); (case k1 => k_is); (case a2 => k_is); (case l2 => k_is); (case c2 => k_is); (case k2 => k_is); (case a3 => k_is); (case l3 => k_is); (case c3 => k_is); (case k3 => k_is); (case a4 => k_is); (case l4 => k_is); (case c4 => k_is); (case k4 => k_is); (case a5 => k_is); (case l5 => k_is); (case c5 => k_is); (case k5 => k_is); (case a6 => k_is); (case l6 => k_is); (case c6 => k_is); (case k6 => k_is); (case a7 => k_is); (case l7 => k_is); (case c7 => k_is); (case k7 => k_is); (case a8 => k_is); (case l8 => k_is); (case c8 => k_is); (case k8 => k_is); (case a9 => k_is); (case l9 => k_is); (case c9 => k_is); (case k9 => k_is); (case a10 => k_is); (case l10 => k_is); (case c10 => k_is); (case k10 => k_is); (case a11 => k_is); (case l11 => k_is); (case c11 => k_is); (case k11 => k_is); (case a12 => k_is); (case l12 => k_is); (case c12 => k_is); (case k12 => k_is); (case a13 => k_is); (case l13 => k_is); (case c13 => k_is); (case k13 => k_is); (case a14 => k_is); (case l14 => k_is); (case c14 => k_is); (case k14 => k_is); (case a15 => k_is); (case l15 => k_is); (case c15 => k_is); (case k15 => k_is); (case z0 => k_is); (case z1 => k_is); (case z2 => k_is); (case z3 => k_is); (case z4 => k_is); (case z5 => k_is); (case z6 => k_is); (case z7 => k_is); (case z8 => k_is); (case z9 => k_is)
