import PyProof.Rows.All
import Wide.All
import OpenK.AllK
import Wide.FinOn
import HandS.ForMost
import HandS.Flt
import HandS.RaiseMore
import HandS.Wide
import HandS.TupAny
import HandS.Codes
import HandS.Conv
import PyProof.ListStr
import HandS.IsInst
import PySem.Challenge.RW_everycoin_k32_running_splits
set_option Elab.async false
set_option linter.all false
set_option maxRecDepth 100000
namespace Go
open PySem PySem.Spec PyProof.Rows L2
/-- kept but for st -/
def Kp (st : Addr) (H H' : Hp) : Prop := ∀ b o, b ≠ st → H b = some o → H' b = some o
theorem Kp.refl (st : Addr) (H : Hp) : Kp st H H := fun _ _ _ h => h
theorem Kp.trans {st : Addr} {H H1 H2 : Hp} (a : Kp st H H1) (b : Kp st H1 H2) : Kp st H H2 := fun c o n h => b c o n (a c o n h)
theorem Kp.new {st p : Addr} {H H1 : Hp} {o : HO} (a : Kp st H H1) (h : H1 p = none) : Kp st H (upd H1 p o) := fun b u n e => by
  rw [upd_ne (ne_of_none (a b u n e) h)]; exact a b u n e
theorem Kp.at {st : Addr} {H H1 : Hp} {o : HO} (a : Kp st H H1) : Kp st H (upd H1 st o) := fun b u n e => by
  rw [upd_ne n]; exact a b u n e
theorem Kp.mut {st p : Addr} {H H1 : Hp} {o : HO} (a : Kp st H H1) (h : H p = none) : Kp st H (upd H1 p o) := fun b u n e => by
  rw [upd_ne (ne_of_none e h)]; exact a b u n e
theorem Kp.of_same {st : Addr} {H H1 : Hp} (a : Same H H1) : Kp st H H1 := fun b u _ e => a b u e
theorem Same.new {p : Addr} {H H1 : Hp} {o : HO} (a : Same H H1) (h : H1 p = none) : Same H (upd H1 p o) := fun b u e => by
  rw [upd_ne (ne_of_none (a b u e) h)]; exact a b u e
theorem Same.mut {p : Addr} {H H1 : Hp} {o : HO} (a : Same H H1) (h : H p = none) : Same H (upd H1 p o) := fun b u e => by
  rw [upd_ne (ne_of_none e h)]; exact a b u e
theorem ne_fr {H : Hp} {a b : Addr} {o : HO} (h : H b = none) (e : H a = some o) : a ≠ b := ne_of_none e h
theorem free_upd {H : Hp} {p q : Addr} {o : HO} (h : upd H p o q = none) : H q = none ∧ q ≠ p := by
  by_cases e : q = p
  · rw [e, upd_same] at h; cases h
  · rw [upd_ne e] at h; exact ⟨h, e⟩
theorem at_upd {H : Hp} {p q : Addr} {o : HO} {u : Option HO} (n : q ≠ p) (h : H q = u) : upd H p o q = u := by rw [upd_ne n]; exact h
section
variable {K : PySem.W.Frag} {H H1 : Hp} {a p st : Addr} {o : HO} {xs : List V}
theorem sqL_ext (k : ∀ u, H a = some u → H1 a = some u) (h : SqL K H a xs) : SqL K H1 a xs := by
  rcases h with (h | ⟨o, h⟩) | h
  · exact .inl (.inl (k _ h))
  · exact .inl (.inr ⟨o, k _ h⟩)
  · exact .inr h
theorem sqT_ext (k : ∀ u, H a = some u → H1 a = some u) (h : SqT K H a xs) : SqT K H1 a xs := by
  rcases h with (h | ⟨o, h⟩) | h
  · exact .inl (.inl (k _ h))
  · exact .inl (.inr ⟨o, k _ h⟩)
  · exact .inr h
theorem sqL_new (n : H p = none) (h : SqL K H a xs) : SqL K (upd H p o) a xs := sqL_ext (fun u e => at_upd (ne_of_none e n) e) h
theorem sqT_new (n : H p = none) (h : SqT K H a xs) : SqT K (upd H p o) a xs := sqT_ext (fun u e => at_upd (ne_of_none e n) e) h
theorem sqL_ne (n : a ≠ p) (h : SqL K H a xs) : SqL K (upd H p o) a xs := sqL_ext (fun u e => at_upd n e) h
theorem sqT_ne (n : a ≠ p) (h : SqT K H a xs) : SqT K (upd H p o) a xs := sqT_ext (fun u e => at_upd n e) h
theorem sqL_same (s : Same H H1) (h : SqL K H a xs) : SqL K H1 a xs := sqL_ext (fun u e => s _ _ e) h
theorem sqT_same (s : Same H H1) (h : SqT K H a xs) : SqT K H1 a xs := sqT_ext (fun u e => s _ _ e) h
theorem sqL_kp (s : Kp st H H1) (n : a ≠ st) (h : SqL K H a xs) : SqL K H1 a xs := sqL_ext (fun u e => s _ _ n e) h
theorem sqT_kp (s : Kp st H H1) (n : a ≠ st) (h : SqT K H a xs) : SqT K H1 a xs := sqT_ext (fun u e => s _ _ n e) h
end
theorem atI_some {α : Type} {xs : List α} {i : Int} (h0 : 0 ≤ i) (h1 : i < xs.length) : atI xs i = some (xs[i.toNat]'(by omega)) := by
  obtain ⟨j, rfl⟩ := Int.eq_ofNat_of_zero_le h0
  exact atI_nat (List.getElem?_eq_getElem (by omega))
theorem atI_map {α β : Type} {f : α → β} {xs : List α} {i : Int} (h0 : 0 ≤ i) (h1 : i < xs.length) : atI (xs.map f) i = some (f (xs[i.toNat]'(by omega))) := by
  rw [atI_some h0 (by rw [List.length_map]; exact h1), List.getElem_map]
theorem ixN_some {n : Nat} {i : Int} (h0 : 0 ≤ i) (h1 : i < n) : ixN n i = some i.toNat := by
  unfold ixN; rw [if_pos h0, if_pos h1]
/-- what is frozen stays -/
def Fz (H H' : Hp) : Prop := ∀ b o u, H b = some (.frz o u) → H' b = some (.frz o u)
theorem Fz.refl (H : Hp) : Fz H H := fun _ _ _ h => h
theorem Fz.trans {H H1 H2 : Hp} (a : Fz H H1) (b : Fz H1 H2) : Fz H H2 := fun c o u h => b c o u (a c o u h)
theorem Fz.new {H : Hp} {p : Addr} {o : HO} (h : H p = none) : Fz H (upd H p o) := fun b x u e => at_upd (ne_of_none e h) e
theorem Fz.set {H : Hp} {p : Addr} {o o' : HO} (h : H p = some o) (n : ∀ x u, o ≠ .frz x u) : Fz H (upd H p o') := fun b x u e => at_upd (fun z => by subst z; rw [h] at e; exact n _ _ (Option.some.inj e)) e
theorem Fz.setL {H : Hp} {p : Addr} {xs : List V} {o' : HO} (h : H p = some (.lst xs)) : Fz H (upd H p o') := Fz.set h fun _ _ z => nomatch z
theorem Fz.of_same {H H1 : Hp} (s : Same H H1) : Fz H H1 := fun b o u e => s b _ e
theorem Fz.of_kp {H H1 : Hp} {st : Addr} {xs : List V} (h : H st = some (.lst xs)) (k : Kp st H H1) : Fz H H1 := fun b o u e => k b _ (fun z => by subst z; rw [h] at e; cases e) e
/-- the state of the draws: [turns, rest] at st; the script may be read while what is frozen stays -/
def St (K : PySem.W.Frag) (H : Hp) (st sc : Addr) (ns : List Int) : Prop :=
  (∃ n s : Int, H st = some (.lst [.int n, .int s])) ∧ (∀ H', Fz H H' → SqL K H' sc (ns.map V.int)) ∧ ns.length ≤ 63
section
variable {K : PySem.W.Frag} {H H1 : Hp} {st sc l : Addr} {ns : List Int} {o : HO}
theorem St.to (S : St K H st sc ns) (f : Fz H H1) (e : H1 st = H st) : St K H1 st sc ns := by
  obtain ⟨⟨n, s, h⟩, h1, h3⟩ := S
  exact ⟨⟨n, s, by rw [e]; exact h⟩, fun H' k => h1 _ (f.trans k), h3⟩
theorem St.ne (S : St K H st sc ns) (h : H l = none) : l ≠ st := by
  obtain ⟨⟨n, s, e⟩, _⟩ := S
  exact (ne_of_none e h).symm
theorem St.new (S : St K H st sc ns) (h : H l = none) : St K (upd H l o) st sc ns := S.to (Fz.new h) (upd_ne (S.ne h).symm)
theorem St.same (S : St K H st sc ns) (s : Same H H1) : St K H1 st sc ns := by
  obtain ⟨n, x, e⟩ := S.1
  exact S.to (Fz.of_same s) (by rw [e]; exact s _ _ e)
theorem St.setL (S : St K H st sc ns) {xs : List V} (h : H l = some (.lst xs)) (n : l ≠ st) : St K (upd H l o) st sc ns := S.to (Fz.setL h) (upd_ne n.symm)
theorem St.kp (S : St K H st sc ns) (k : Kp st H H1) (e : ∃ n s : Int, H1 st = some (.lst [.int n, .int s])) : St K H1 st sc ns := by
  obtain ⟨n, s, h⟩ := S.1
  exact ⟨e, fun H' f => S.2.1 _ ((Fz.of_kp h k).trans f), S.2.2⟩
/-- the law's start: the script -/
theorem St.start (hl : ns.length ≤ 63) (hS : (∃ o, H sc = some (.frz o (.lst (ns.map V.int)))) ∨ ∀ H', SqL K H' sc (ns.map V.int)) (n : H st = none) : St K (upd H st (.lst [.int 0, .int 0])) st sc ns := by
  refine ⟨⟨0, 0, upd_same⟩, fun H' f => ?_, hl⟩
  rcases hS with ⟨o, h⟩ | h
  · exact .inl (.inr ⟨o, f _ _ _ (at_upd (ne_of_none h n) h)⟩)
  · exact h H'
end
/-- the promise of a law over a script -/
def spL (K : PySem.W.Frag) : Sp := fun vs H Q _ => ∃ (sc : Addr) (ns : List Int), vs = [.ref sc] ∧ ((∃ o, H sc = some (.frz o (.lst (ns.map V.int)))) ∨ ∀ H', SqL K H' sc (ns.map V.int)) ∧ ns.length ≤ 63 ∧ ∀ H', Q (.bl true) H'
theorem spL_start {K : PySem.W.Frag} {H : Hp} {a : Addr} {ns : List Int} (hl : ns.length ≤ 63) (hO : Only H) (hS : SqL K H a (ns.map V.int)) : spL K [.ref a] H (fun v _ => v = .bl true) fun _ _ _ => False := by
  refine ⟨a, ns, rfl, ?_, hl, fun _ => rfl⟩
  rcases hS with (h | ⟨o, h⟩) | h
  · rcases hO a with z | ⟨o, xs, z⟩
    · rw [h] at z; cases z
    · rw [h] at z; cases z
  · exact .inl ⟨o, h⟩
  · exact .inr fun H' => .inr h
/-! ### one step of a reading -/
section
variable {σ : L2.St} {H : Hp}
theorem g_seq {t u : TS} {D : Ends} (h : t { D with nx := u D } σ H) : tSeq t u D σ H := h
theorem g_asg {te : TE} {g : TG} {D : Ends} (h : te σ H fun x H1 => g x σ H1 D.nx) : tAsg te g D σ H := h
theorem g_name {i : Nat} {v : V} {Q : L2.St → Hp → Prop} (h : Q (σ.set i (some v)) H) : gName i v σ H Q := h
theorem g_sub {to ti : TE} {t : TSet} {v : V} {Q : L2.St → Hp → Prop} (h : to σ H fun o H1 => ti σ H1 fun i H2 => t o i v H2 fun H3 => Q σ H3) : gSub to ti t v σ H Q := h
theorem g_op {r : R2} {ta tb : TE} {Q : VK} (h : ta σ H fun x H1 => tb σ H1 fun y H2 => r x y H2 Q) : tOp r ta tb σ H Q := h
theorem g_un {r : V → Hp → VK → Prop} {ta : TE} {Q : VK} (h : ta σ H fun x H1 => r x H1 Q) : tUn r ta σ H Q := h
theorem g_c {v : V} {Q : VK} (h : Q v H) : tC v σ H Q := h
theorem g_cb {r : List V → Hp → VK → Prop} {t : TA} {Q : VK} (h : t σ H fun vs H1 => r vs H1 Q) : tCB r t σ H Q := h
theorem g_call {sp : Sp} {dvs : List V} {E : XK} {t : TA} {Q : VK} (h : t σ H fun vs H1 => sp (vs ++ dvs) H1 Q E) : tCall sp dvs E t σ H Q := h
theorem g_cons {ta : TE} {tr : TA} {Q : List V → Hp → Prop} (h : ta σ H fun x H1 => tr σ H1 fun xs H2 => Q (x :: xs) H2) : tCons ta tr σ H Q := h
theorem g_nil {Q : List V → Hp → Prop} (h : Q [] H) : tNil σ H Q := h
theorem g_test {t : TE} {Q : Bool → Hp → Prop} (h : t σ H fun x H' => ∃ k, x = .bl k ∧ Q k H') : tTest t σ H Q := h
theorem g_tB {t : TE} {Q : Bool → Hp → Prop} (h : t σ H fun x H' => ∃ k, x = .bl k ∧ Q k H') : tB t σ H Q := h
theorem g_bl {b : Bool} {Q : Bool → Hp → Prop} (h : Q b H) : ∃ k, V.bl b = .bl k ∧ Q k H := ⟨b, rfl, h⟩
theorem g_ifs {c : TT} {t u : TS} {D : Ends} (h : c σ H fun b H1 => if b = true then t D σ H1 else u D σ H1) : tIfS c t u D σ H := h
theorem g_if {c : TT} {t u : TE} {Q : VK} (h : c σ H fun b H1 => if b = true then t σ H1 Q else u σ H1 Q) : tIf c t u σ H Q := h
theorem g_and {t u : TT} {Q : Bool → Hp → Prop} (h : t σ H fun c H1 => if c = true then u σ H1 Q else Q false H1) : tAnd t u σ H Q := h
theorem g_or {t u : TT} {Q : Bool → Hp → Prop} (h : t σ H fun c H1 => if c = true then Q true H1 else u σ H1 Q) : tOr t u σ H Q := h
theorem g_not {t : TT} {Q : Bool → Hp → Prop} (h : t σ H fun c H1 => Q (!c) H1) : tNot t σ H Q := h
theorem g_ret {te : TE} {D : Ends} (h : te σ H D.rt) : tRet te D σ H := h
theorem g_next {D : Ends} (h : D.nx σ H) : tNext D σ H := h
theorem g_drop {te : TE} {D : Ends} (h : te σ H fun _ H1 => D.nx σ H1) : tDrop te D σ H := h
theorem g_sl {r : V → Option Int → Option Int → Hp → VK → Prop} {te : TE} {tl th : TO} {Q : VK} (h : te σ H fun x H1 => tl σ H1 fun l H2 => th σ H2 fun u H3 => r x l u H3 Q) : tSl r te tl th σ H Q := h
theorem g_nopart {Q : Option Int → Hp → Prop} (h : Q none H) : tNoPart σ H Q := h
theorem g_part {t : TE} {Q : Option Int → Hp → Prop} (h : t σ H fun x H1 => ∃ i, x = .int i ∧ Q (some i) H1) : tPart t σ H Q := h
theorem g_int {i : Int} {Q : Int → Hp → Prop} (h : Q i H) : ∃ k, V.int i = .int k ∧ Q k H := ⟨i, rfl, h⟩
theorem g_bm {K : PySem.W.Frag} {T : String} {r : V → List V → Hp → VK → Prop} {to : TE} {t : TA} {Q : VK} (h : to σ H fun x H1 => tyV K T x H1 ∧ t σ H1 fun xs H2 => r x xs H2 Q) : tBM K T r to t σ H Q := h
theorem g_yes {Q : Bool → Hp → Prop} (h : Q true H) : tYes σ H Q := h
theorem g_ixL {K : PySem.W.Frag} {p : Addr} {xs : List V} {i : Int} {v : V} {Q : VK} (h : SqL K H p xs) (e : atI xs i = some v) (q : Q v H) : rIxL K (.ref p) (.int i) H Q := ⟨_, _, _, _, rfl, rfl, h, e, q⟩
theorem g_ixT {K : PySem.W.Frag} {p : Addr} {xs : List V} {i : Int} {v : V} {Q : VK} (h : SqT K H p xs) (e : atI xs i = some v) (q : Q v H) : rIxT K (.ref p) (.int i) H Q := ⟨_, _, _, _, rfl, rfl, h, e, q⟩
theorem g_setL {p : Addr} {xs : List V} {k : Int} {j : Nat} {v : V} {Q : Hp → Prop} (h : H p = some (.lst xs)) (e : ixN xs.length k = some j) (q : Q (upd H p (.lst (xs.set j v)))) : rSetL (.ref p) (.int k) v H Q := ⟨_, _, _, _, rfl, rfl, h, e, q⟩
/-- a for's turns, over what it walks -/
def ForW (J : It) (g : TG) (tb : TS) (D : Ends) (σ : L2.St) (H1 : Hp) : Prop := ∃ W : Nat → Nat → L2.St → Hp → Prop, (∃ m, W 0 m σ H1) ∧ ∀ i m σ H, W i m σ H →
  (J.stop i H ∧ D.nx σ H) ∨ (J.go i H ∧ ∃ N : L2.St → Hp → Prop, (∀ σ' H', N σ' H' → ∃ m', m' < m ∧ W (i + 1) m' σ' H') ∧ ∀ x H', J.yld i H x H' → g x σ H' fun σ2 H2 => tb { D with nx := N, ct := N, bk := D.nx } σ2 H2)
theorem g_for {wi : TI} {g : TG} {tb : TS} {D : Ends} (h : wi σ H fun J H1 => ForW J g tb D σ H1) : tFor wi g tb D σ H := h
theorem g_rng1 {ta : TA} {R : It → Hp → Prop} (h : ta σ H fun vs H1 => ∃ j : Int, vs = [.int j] ∧ -(2 ^ 62) ≤ j ∧ j < 2 ^ 62 ∧ R (Itr 0 j.toNat) H1) : iRng1 ta σ H R := h
theorem g_rng2 {ta : TA} {R : It → Hp → Prop} (h : ta σ H fun vs H1 => ∃ i j : Int, vs = [.int i, .int j] ∧ (-(2 ^ 62) ≤ i ∧ i < 2 ^ 62 ∧ -(2 ^ 62) ≤ j ∧ j < 2 ^ 62) ∧ R (Itr i (j - i).toNat) H1) : iRng2 ta σ H R := h
theorem g_rng3 {ta : TA} {R : It → Hp → Prop} (h : ta σ H fun vs H1 => ∃ (i j c : Int) (n : Nat), vs = [.int i, .int j, .int c] ∧ RgC i j c n ∧ R (Itc i c n) H1) : iRng3 ta σ H R := h
theorem g_list {K : PySem.W.Frag} {tl : TE} {R : It → Hp → Prop} (h : tl σ H fun x H1 => ∃ a, x = .ref a ∧ (∃ xs, SqL K H1 a xs) ∧ R (Itl K a) H1) : iList K tl σ H R := h
theorem g_itup {K : PySem.W.Frag} {tl : TE} {R : It → Hp → Prop} (h : tl σ H fun x H1 => ∃ a, x = .ref a ∧ (∃ xs, SqT K H1 a xs) ∧ R (Itt K a) H1) : iTup K tl σ H R := h
theorem forW_list {K : PySem.W.Frag} {a : Addr} (xs : List V) {g : TG} {tb : TS} {D : Ends} (Pv : Nat → L2.St → Hp → Prop) (h0 : Pv 0 σ H) (hl : ∀ i σ H, i ≤ xs.length → Pv i σ H → SqL K H a xs)
    (hs : ∀ i x σ H, xs[i]? = some x → Pv i σ H → g x σ H fun σ2 H2 => tb { D with nx := Pv (i + 1), ct := Pv (i + 1), bk := D.nx } σ2 H2) (hd : ∀ σ H, Pv xs.length σ H → D.nx σ H) : ForW (Itl K a) g tb D σ H := for_list Pv h0 hl hs hd
theorem forW_tup {K : PySem.W.Frag} {a : Addr} (xs : List V) {g : TG} {tb : TS} {D : Ends} (Pv : Nat → L2.St → Hp → Prop) (h0 : Pv 0 σ H) (hl : ∀ i σ H, i ≤ xs.length → Pv i σ H → SqT K H a xs)
    (hs : ∀ i x σ H, xs[i]? = some x → Pv i σ H → g x σ H fun σ2 H2 => tb { D with nx := Pv (i + 1), ct := Pv (i + 1), bk := D.nx } σ2 H2) (hd : ∀ σ H, Pv xs.length σ H → D.nx σ H) : ForW (Itt K a) g tb D σ H := for_tup Pv h0 hl hs hd
theorem forW_range {lo : Int} {n : Nat} {g : TG} {tb : TS} {D : Ends} (Pv : Nat → L2.St → Hp → Prop) (h0 : Pv 0 σ H)
    (hs : ∀ i σ H, i < n → Pv i σ H → g (.int (lo + i)) σ H fun σ2 H2 => tb { D with nx := Pv (i + 1), ct := Pv (i + 1), bk := D.nx } σ2 H2) (hd : ∀ σ H, Pv n σ H → D.nx σ H) : ForW (Itr lo n) g tb D σ H := for_range Pv h0 hs hd
theorem forW_rangeC {lo c : Int} {n : Nat} {g : TG} {tb : TS} {D : Ends} (Pv : Nat → L2.St → Hp → Prop) (h0 : Pv 0 σ H)
    (hs : ∀ i σ H, i < n → Pv i σ H → g (.int (lo + (i : Nat) * c)) σ H fun σ2 H2 => tb { D with nx := Pv (i + 1), ct := Pv (i + 1), bk := D.nx } σ2 H2) (hd : ∀ σ H, Pv n σ H → D.nx σ H) : ForW (Itc lo c n) g tb D σ H := for_rangeC Pv h0 hs hd
theorem forW_enum {K : PySem.W.Frag} {a : Addr} (xs : List V) {g : TG} {tb : TS} {D : Ends} (Pv : Nat → L2.St → Hp → Prop) (h0 : Pv 0 σ H) (hl : ∀ i σ H, i ≤ xs.length → Pv i σ H → SqL K H a xs)
    (hs : ∀ i x T σ H, xs[i]? = some x → H T = none → Pv i σ H → g (.ref T) σ (upd H T (.tup [.int (i : Nat), x])) fun σ2 H2 => tb { D with nx := Pv (i + 1), ct := Pv (i + 1), bk := D.nx } σ2 H2) (hd : ∀ σ H, Pv xs.length σ H → D.nx σ H) :
    ForW (Ite K a) g tb D σ H := by
  refine ⟨fun i m σ H => m = xs.length - i ∧ i ≤ xs.length ∧ Pv i σ H, ⟨xs.length, by simp, Nat.zero_le _, h0⟩, ?_⟩
  rintro i m σ H ⟨rfl, hi, p⟩
  have q := hl i σ H hi p
  by_cases e : i = xs.length
  · subst e
    exact .inl ⟨⟨xs, q, Nat.le_refl _⟩, hd σ H p⟩
  · have lt : i < xs.length := by omega
    refine .inr ⟨⟨xs, _, q, List.getElem?_eq_getElem lt⟩, Pv (i + 1), fun σ' H' p' => ⟨_, by omega, rfl, lt, p'⟩, ?_⟩
    rintro v H' ⟨T, x, rfl, nT, rfl, at_i⟩
    exact hs i x T σ H (at_i xs q) nT p
/-- a comprehension's turns -/
def LcW (J : It) (g : TG) (tt : TT) (te : TE) (vs : List Nat) (σ : L2.St) (H1 : Hp) (D : Addr) (Qd : Hp → Prop) : Prop := ∃ W : Nat → Nat → Hp → Prop, (∃ m, W 0 m (upd H1 D (.lst []))) ∧ ∀ i m H, W i m H →
  (J.stop i H ∧ Qd H) ∨ (J.go i H ∧ ∃ Nx : Hp → Prop, (∀ H', Nx H' → ∃ m', m' < m ∧ W (i + 1) m' H') ∧ ∀ x H', J.yld i H x H' → g x (wipe σ vs) H' fun σ2 H2 => wipe σ2 vs = wipe σ vs ∧ tt σ2 H2 fun b H3 =>
    if b = true then te σ2 H3 fun y H4 => ∃ acc, H4 D = some (.lst acc) ∧ acc.length < sizeLine ∧ Nx (upd H4 D (.lst (acc ++ [y]))) else Nx H3)
theorem g_lc {wi : TI} {g : TG} {tt : TT} {te : TE} {vs : List Nat} {Q : VK} (h : wi σ H fun J H1 => ∀ D, H1 D = none → LcW J g tt te vs σ H1 D fun H' => Q (.ref D) H') : tLc wi g tt te vs σ H Q := h
theorem lcW_list {K : PySem.W.Frag} {a : Addr} (xs : List V) {g : TG} {tt : TT} {te : TE} {vs : List Nat} {H1 : Hp} {D : Addr} {Qd : Hp → Prop} (Pv : Nat → Hp → Prop) (h0 : Pv 0 (upd H1 D (.lst []))) (hl : ∀ i H, i ≤ xs.length → Pv i H → SqL K H a xs)
    (hs : ∀ i x H, xs[i]? = some x → Pv i H → g x (wipe σ vs) H fun σ2 H2 => wipe σ2 vs = wipe σ vs ∧ tt σ2 H2 fun b H3 =>
      if b = true then te σ2 H3 fun y H4 => ∃ acc, H4 D = some (.lst acc) ∧ acc.length < sizeLine ∧ Pv (i + 1) (upd H4 D (.lst (acc ++ [y]))) else Pv (i + 1) H3) (hd : ∀ H, Pv xs.length H → Qd H) : LcW (Itl K a) g tt te vs σ H1 D Qd := lc_list Pv h0 hl hs hd
theorem lcW_range {lo : Int} {n : Nat} {g : TG} {tt : TT} {te : TE} {vs : List Nat} {H1 : Hp} {D : Addr} {Qd : Hp → Prop} (Pv : Nat → Hp → Prop) (h0 : Pv 0 (upd H1 D (.lst [])))
    (hs : ∀ i H, i < n → Pv i H → g (.int (lo + i)) (wipe σ vs) H fun σ2 H2 => wipe σ2 vs = wipe σ vs ∧ tt σ2 H2 fun b H3 =>
      if b = true then te σ2 H3 fun y H4 => ∃ acc, H4 D = some (.lst acc) ∧ acc.length < sizeLine ∧ Pv (i + 1) (upd H4 D (.lst (acc ++ [y]))) else Pv (i + 1) H3) (hd : ∀ H, Pv n H → Qd H) : LcW (Itr lo n) g tt te vs σ H1 D Qd := lc_range Pv h0 hs hd
/-- a comprehension over a list, no test, an element that changes nothing -/
theorem lcW_pure {K : PySem.W.Frag} {a : Addr} (xs : List V) (f : Nat → V) {g : TG} {te : TE} {vs : List Nat} {H1 : Hp} {D : Addr} {Qd : Hp → Prop} (nD : H1 D = none) (hA : SqL K H1 a xs) (hlen : xs.length ≤ 1000)
    (hs : ∀ i x H (R : VK) (Z : Hp → Prop), xs[i]? = some x → Same H1 H → R (f i) H → g x (wipe σ vs) H fun σ2 H2 => wipe σ2 vs = wipe σ vs ∧ tYes σ2 H2 fun b H3 => if b = true then te σ2 H3 R else Z H3)
    (hd : ∀ H, Same H1 H → H D = some (.lst ((List.range xs.length).map f)) → Qd H) : LcW (Itl K a) g tYes te vs σ H1 D Qd := by
  refine lcW_list xs (fun i H => Same H1 H ∧ H D = some (.lst ((List.range i).map f))) ⟨Same.new (Same.refl H1) nD, upd_same⟩ (fun i H _ h => sqL_same h.1 hA) ?_ (fun H h => hd H h.1 h.2)
  rintro i x H hx ⟨s, e⟩
  have hi : i < xs.length := (List.getElem?_eq_some_iff.mp hx).1
  refine hs i x H _ _ hx s ⟨_, e, by rw [List.length_map, List.length_range]; exact small1000 (by omega), Same.mut s nD, ?_⟩
  rw [upd_same, List.range_succ, List.map_append]; rfl
theorem g_gtup {K : PySem.W.Frag} {a : Addr} {xs : List V} {n : Nat} {t : TGs} {Q : L2.St → Hp → Prop} (h : SqT K H a xs) (e : xs.length = n) (q : t xs σ H Q) : gTup K n t (.ref a) σ H Q := ⟨_, _, rfl, h, e, q⟩
theorem g_enum {K : PySem.W.Frag} {ta : TA} {R : It → Hp → Prop} (h : ta σ H fun vs H1 => ∃ a xs, vs = [.ref a] ∧ SqL K H1 a xs ∧ R (Ite K a) H1) : iEnum K ta σ H R := h
/-- a comprehension over zip of two lists, no test, an element that changes nothing -/
theorem lcW_zip {K : PySem.W.Frag} {a b : Addr} (xs ys : List V) (f : Nat → V) {g : TG} {te : TE} {vs : List Nat} {H1 : Hp} {D : Addr} {Qd : Hp → Prop} (nD : H1 D = none) (hA : SqL K H1 a xs) (hB : SqL K H1 b ys) (hlen : xs.length ≤ 1000) (hle : ys.length = xs.length)
    (hs : ∀ i x y T H (R : VK) (Z : Hp → Prop), xs[i]? = some x → ys[i]? = some y → Same H1 H → H T = none → R (f i) (upd H T (.tup [x, y])) → g (.ref T) (wipe σ vs) (upd H T (.tup [x, y])) fun σ2 H2 => wipe σ2 vs = wipe σ vs ∧ tYes σ2 H2 fun b H3 => if b = true then te σ2 H3 R else Z H3)
    (hd : ∀ H, Same H1 H → H D = some (.lst ((List.range xs.length).map f)) → Qd H) : LcW (Itz K a b) g tYes te vs σ H1 D Qd := by
  refine ⟨fun i m H => m = xs.length - i ∧ i ≤ xs.length ∧ Same H1 H ∧ H D = some (.lst ((List.range i).map f)), ⟨xs.length, by simp, Nat.zero_le _, Same.new (Same.refl H1) nD, upd_same⟩, ?_⟩
  rintro i m H ⟨rfl, hi, s, e⟩
  have qa := sqL_same s hA
  have qb := sqL_same s hB
  by_cases ei : i = xs.length
  · subst ei
    exact .inl ⟨⟨xs, ys, qa, qb, .inl (Nat.le_refl _)⟩, hd H s e⟩
  · have lt : i < xs.length := by omega
    refine .inr ⟨⟨xs, ys, _, _, qa, qb, List.getElem?_eq_getElem lt, List.getElem?_eq_getElem (by omega)⟩, fun H' => i + 1 ≤ xs.length ∧ Same H1 H' ∧ H' D = some (.lst ((List.range (i + 1)).map f)), fun H' p => ⟨_, by omega, rfl, p.1, p.2⟩, ?_⟩
    rintro v H' ⟨T, x, y, rfl, nT, rfl, hx, hy⟩
    have nDT : D ≠ T := ne_of_none e nT
    refine hs i x y T H _ _ (hx xs qa) (hy ys qb) s nT ⟨_, at_upd nDT e, by rw [List.length_map, List.length_range]; exact small1000 (by omega), by omega, Same.mut (Same.new s nT) nD, ?_⟩
    rw [upd_same, List.range_succ, List.map_append]; rfl
theorem g_zip {K : PySem.W.Frag} {ta : TA} {R : It → Hp → Prop} (h : ta σ H fun vs H1 => ∃ a b xs ys, vs = [.ref a, .ref b] ∧ SqL K H1 a xs ∧ SqL K H1 b ys ∧ R (Itz K a b) H1) : iZip K ta σ H R := h
/-- while, by a word with its number -/
theorem whileW {c : TT} {tb : TS} {D : Ends} (Pv : Nat → L2.St → Hp → Prop) {m0 : Nat} (h0 : Pv m0 σ H)
    (hs : ∀ m σ H, Pv m σ H → c σ H fun b H1 => if b = true then ∃ N : L2.St → Hp → Prop, (∀ σ' H', N σ' H' → ∃ m', m' < m ∧ Pv m' σ' H') ∧ tb { D with nx := N, ct := N, bk := D.nx } σ H1 else D.nx σ H1) : tWhile c tb D σ H :=
  ⟨Pv, ⟨m0, h0⟩, hs⟩
theorem g_lst {t : TA} {Q : VK} (h : t σ H fun xs H1 => xs.length ≤ sizeLine ∧ ∀ p, H1 p = none → Q (.ref p) (upd H1 p (.lst xs))) : tLst t σ H Q := h
theorem g_tup {t : TA} {Q : VK} (h : t σ H fun xs H1 => xs.length ≤ sizeLine ∧ ∀ p, H1 p = none → Q (.ref p) (upd H1 p (.tup xs))) : tTup t σ H Q := h
theorem g_cut {t u : TS} {D : Ends} (Mid : L2.St → Hp → Prop) (h1 : t { D with nx := Mid } σ H) (h2 : ∀ σ' H', Mid σ' H' → u D σ' H') : C8.tCut t u D σ H := ⟨Mid, h1, h2⟩
theorem g_aug {i : Nat} {te : TE} {ti : TIp} {D : Ends} {x : V} (e : σ[i]? = some (some x)) (h : te σ H fun y H1 => ti x y H1 fun z H2 => D.nx (σ.set i (some z)) H2) : tAug i te ti D σ H := ⟨x, e, h⟩
theorem g_ite {b : Bool} {A B : Prop} (h1 : b = true → A) (h2 : b = false → B) : if b = true then A else B := by
  cases b
  · exact iteF (h2 rfl)
  · exact iteT (h1 rfl)
theorem g_itd {c : Prop} [Decidable c] {A B : Prop} (h1 : c → A) (h2 : ¬ c → B) : if decide c = true then A else B := by
  by_cases h : c
  · rw [decide_eq_true h]; exact iteT (h1 h)
  · rw [decide_eq_false h]; exact iteF (h2 h)
theorem g_itnd {c : Prop} [Decidable c] {A B : Prop} (h1 : ¬ c → A) (h2 : c → B) : if (!decide c) = true then A else B := by
  by_cases h : c
  · rw [decide_eq_true h]; exact iteF (h2 h)
  · rw [decide_eq_false h]; exact iteT (h1 h)
end
/-- len of a list or tuple -/
def rLenS (K : PySem.W.Frag) : List V → Hp → VK → Prop := fun xs H Q => ∃ p ys, xs = [.ref p] ∧ (SqL K H p ys ∨ SqT K H p ys) ∧ Q (.int ys.length) H
theorem call_lenS {X : Cx} : CallR X (.builtin "len") (rLenS X.K) := call_len_seq
theorem g_lenL {K : PySem.W.Frag} {H : Hp} {p : Addr} {ys : List V} {Q : VK} (h : SqL K H p ys) (q : Q (.int ys.length) H) : rLenS K [.ref p] H Q := ⟨_, _, rfl, .inl h, q⟩
/-- list(list or tuple) -/
def rListOf (K : PySem.W.Frag) : List V → Hp → VK → Prop := fun xs H Q => ∃ p ys, xs = [.ref p] ∧ (SqL K H p ys ∨ SqT K H p ys) ∧ ∀ l, H l = none → Q (.ref l) (upd H l (.lst ys))
theorem call_listS {X : Cx} : CallR X (.type "list") (rListOf X.K) := call_list_of
theorem g_listL {K : PySem.W.Frag} {H : Hp} {p : Addr} {ys : List V} {Q : VK} (h : SqL K H p ys) (q : ∀ l, H l = none → Q (.ref l) (upd H l (.lst ys))) : rListOf K [.ref p] H Q := ⟨_, _, rfl, .inl h, q⟩
/-- xs[i] read ahead of xs[i] op= e -/
def rGetL (K : PySem.W.Frag) : V → V → Hp → VK → Prop := fun x y H Q => ∃ p xs i v, x = .ref p ∧ y = .int i ∧ 0 ≤ i ∧ SqL K H p xs ∧ atI xs i = some v ∧ Q v H
theorem get_list {X : Cx} : PGet X (rGetL X.K) := by
  intro pins s σ H x y v u Q I rx ry h
  obtain ⟨p, xs, i, z, rfl, rfl, h0, hq, he, q⟩ := h
  cases rx
  obtain ⟨t, rfl⟩ := ry
  obtain ⟨its, r, pl, hz⟩ := I.list hq
  obtain ⟨j, h1, h2, h3, h4, h5⟩ := atI_get he
  obtain ⟨w, ew, rw'⟩ := r.get h2
  have hl := r.length
  have hj : i.toNat = j := by
    rw [seqIndex_of h0 h5] at h1
    exact Option.some.inj h1
  have hn := line63
  refine wpAny_getItem_list (x := w) pl.isList h0 (by omega) (by rw [hj]; simpa using ew) ⟨z, H, I, rw', q⟩
theorem g_augS {to ti te : TE} {tget : V → V → Hp → VK → Prop} {tip : TIp} {tset : TSet} {D : Ends} {σ : L2.St} {H : Hp}
    (h : to σ H fun o H1 => ti σ H1 fun i H2 => tget o i H2 fun x H3 => te σ H3 fun y H4 => tip x y H4 fun z H5 => tset o i z H5 fun H6 => D.nx σ H6) : tAugS to ti te tget tip tset D σ H := h
theorem g_getL {K : PySem.W.Frag} {H : Hp} {p : Addr} {xs : List V} {i : Int} {v : V} {Q : VK} (h0 : 0 ≤ i) (h : SqL K H p xs) (e : atI xs i = some v) (q : Q v H) : rGetL K (.ref p) (.int i) H Q := ⟨_, _, _, _, rfl, rfl, h0, h, e, q⟩
/-- kept but for a and b -/
def Kp2 (a b : Addr) (H H' : Hp) : Prop := ∀ c o, c ≠ a → c ≠ b → H c = some o → H' c = some o
theorem Kp2.refl (a b : Addr) (H : Hp) : Kp2 a b H H := fun _ _ _ _ h => h
theorem Kp2.trans {a b : Addr} {H H1 H2 : Hp} (x : Kp2 a b H H1) (y : Kp2 a b H1 H2) : Kp2 a b H H2 := fun c o h1 h2 e => y c o h1 h2 (x c o h1 h2 e)
theorem Kp2.at1 {a b : Addr} {H H1 : Hp} {o : HO} (x : Kp2 a b H H1) : Kp2 a b H (upd H1 a o) := fun c u h1 h2 e => at_upd h1 (x c u h1 h2 e)
theorem Kp2.at2 {a b : Addr} {H H1 : Hp} {o : HO} (x : Kp2 a b H H1) : Kp2 a b H (upd H1 b o) := fun c u h1 h2 e => at_upd h2 (x c u h1 h2 e)
theorem Kp2.new {a b p : Addr} {H H1 : Hp} {o : HO} (x : Kp2 a b H H1) (n : H1 p = none) : Kp2 a b H (upd H1 p o) := fun c u h1 h2 e => at_upd (ne_of_none (x c u h1 h2 e) n) (x c u h1 h2 e)
theorem Kp2.of_same {a b : Addr} {H H1 : Hp} (s : Same H H1) : Kp2 a b H H1 := fun c o _ _ e => s c o e
/-- the state of the takes: [turns, cells] at st, the cells at ce -/
def TSt (H : Hp) (st ce : Addr) : Prop := (∃ n : Int, H st = some (.lst [.int n, .ref ce])) ∧ ∃ cells : List Int, H ce = some (.lst (cells.map V.int)) ∧ 1 ≤ cells.length
theorem TSt.same {H H1 : Hp} {st ce : Addr} (S : TSt H st ce) (s : Same H H1) : TSt H1 st ce := by
  obtain ⟨⟨n, e1⟩, cells, e2, l⟩ := S
  exact ⟨⟨n, s _ _ e1⟩, cells, s _ _ e2, l⟩
theorem TSt.new {H : Hp} {st ce p : Addr} {o : HO} (S : TSt H st ce) (n : H p = none) : TSt (upd H p o) st ce := S.same (Same.new (Same.refl _) n)
theorem TSt.ne {H : Hp} {st ce p : Addr} (S : TSt H st ce) (n : H p = none) : p ≠ st ∧ p ≠ ce := by
  obtain ⟨⟨_, e1⟩, _, e2, _⟩ := S
  exact ⟨(ne_of_none e1 n).symm, (ne_of_none e2 n).symm⟩
theorem TSt.set {H : Hp} {st ce p : Addr} {o : HO} (S : TSt H st ce) (n : p ≠ st ∧ p ≠ ce) : TSt (upd H p o) st ce := by
  obtain ⟨⟨m, e1⟩, cells, e2, l⟩ := S
  exact ⟨⟨m, at_upd n.1.symm e1⟩, cells, at_upd n.2.symm e2, l⟩
/-- a test, what follows shown once -/
def tCutT (t : TT) : TT := fun σ H Q => ∃ M : Bool → Hp → Prop, t σ H M ∧ ∀ b H', M b H' → Q b H'
theorem pt_cutT {X : Cx} {e : Expr} {t : TT} (h : PT X e t) : PT X e (tCutT t) := ⟨fun pins s σ H Q I hq => by
  obtain ⟨M, h1, h2⟩ := hq
  exact thn (h.run pins s σ H M I h1) fun b s' ⟨H', I', q⟩ => ⟨H', I', h2 _ _ q⟩⟩
/-- an expression, what follows shown once -/
def tCutE (t : TE) : TE := fun σ H Q => ∃ M : VK, t σ H M ∧ ∀ b H', M b H' → Q b H'
theorem pe_cutE {X : Cx} {e : Expr} {t : TE} (h : PE X e t) : PE X e (tCutE t) := ⟨fun pins s σ H Q I hq => by
  obtain ⟨M, h1, h2⟩ := hq
  exact thn (h.run pins s σ H M I h1) fun u s' ⟨v, H', I', r, q⟩ => ⟨v, H', I', r, h2 _ _ q⟩⟩
/-- list(text) -/
theorem call_list_strV {X : Cx} (hc : X.calm = true) : CallR X (.type "list") (fun xs H Q => ∃ z : Str, xs = [.str z] ∧ z.length ≤ sizeLine ∧ ∀ l, H l = none → Q (.ref l) (upd H l (.lst (z.cps.toList.map fun c => V.str ⟨#[c]⟩)))) := by
  intro pins s σ H xs us Q I r h
  obtain ⟨z, rfl, hz, q⟩ := h
  obtain ⟨u, rfl, t, rfl⟩ := vals1 r
  refine PySem.call_list_str (I.ok.hd hc) z t (fun h' tk acc' c' hk e hi => ?_) hz
  refine ⟨.ref s.heap.objs.size, upd H s.heap.objs.size (.lst (z.cps.toList.map fun c => V.str ⟨#[c]⟩)), I.laid hk (Nat.le_refl _) (show ObjOk X.prog X.w _ _ _ (.lst (z.cps.toList.map fun c => V.str ⟨#[c]⟩)) from ⟨?_, acc'.toList, c', ?_, ?_⟩), rfl, q _ (I.hok.fresh (Nat.le_refl _))⟩
  · rw [List.length_map]; exact hz
  · refine vals_of_at (by rw [List.length_map, Array.length_toList, Array.length_toList, hi.1]) fun j x w h1 h2 => ?_
    obtain ⟨c, u, hcj, rfl⟩ := hi.2 j w (by rw [← Array.getElem?_toList]; exact h2)
    rw [List.getElem?_map, Array.getElem?_toList, hcj] at h1
    cases h1
    exact ⟨u, rfl⟩
  · exact e
end Go
namespace K32
/-! the mathematics: a running split -/
def at0 (l : List Int) (k : Nat) : Int := l.getD k 0
theorem at0_get {l : List Int} {k : Nat} (h : k < l.length) : at0 l k = l[k] := by
  unfold at0; rw [List.getD_eq_getElem?_getD, List.getElem?_eq_getElem h]; rfl
theorem lessAt : ∀ {p q : List Int}, p.length = q.length → p.sum < q.sum → ∃ j, j < p.length ∧ at0 p j < at0 q j := by
  intro p
  induction p with
  | nil =>
    intro q hl hs
    cases q with
    | nil => simp at hs
    | cons _ _ => simp at hl
  | cons a p ih =>
    intro q hl hs
    cases q with
    | nil => simp at hl
    | cons b q =>
      rw [List.sum_cons, List.sum_cons] at hs
      by_cases h : a < b
      · exact ⟨0, by simp, h⟩
      · obtain ⟨j, h1, h2⟩ := ih (q := q) (by simpa using hl) (by omega)
        exact ⟨j + 1, by simp; omega, h2⟩
/-- of two different lists with one sum: somewhere more, somewhere less -/
theorem differ : ∀ {p q : List Int}, p.length = q.length → p.sum = q.sum → p ≠ q → ∃ i j, i < p.length ∧ j < p.length ∧ at0 q i < at0 p i ∧ at0 p j < at0 q j := by
  have less : ∀ {p q : List Int}, p.length = q.length → p.sum < q.sum → ∃ j, j < p.length ∧ at0 p j < at0 q j := by
    intro p
    induction p with
    | nil =>
      intro q hl hs
      cases q with
      | nil => simp at hs
      | cons _ _ => simp at hl
    | cons a p ih =>
      intro q hl hs
      cases q with
      | nil => simp at hl
      | cons b q =>
        rw [List.sum_cons, List.sum_cons] at hs
        by_cases h : a < b
        · exact ⟨0, by simp, h⟩
        · obtain ⟨j, h1, h2⟩ := ih (q := q) (by simpa using hl) (by omega)
          exact ⟨j + 1, by simp; omega, h2⟩
  intro p
  induction p with
  | nil =>
    intro q hl _ hne
    cases q with
    | nil => exact absurd rfl hne
    | cons _ _ => simp at hl
  | cons a p ih =>
    intro q hl hs hne
    cases q with
    | nil => simp at hl
    | cons b q =>
      have hl' : p.length = q.length := by simpa using hl
      rw [List.sum_cons, List.sum_cons] at hs
      rcases Int.lt_trichotomy a b with h | h | h
      · obtain ⟨i, h1, h2⟩ := less (p := q) (q := p) hl'.symm (by omega)
        exact ⟨i + 1, 0, by simp; omega, by simp, h2, h⟩
      · subst h
        obtain ⟨i, j, h1, h2, h3, h4⟩ := ih hl' (by omega) (fun e => hne (by rw [e]))
        exact ⟨i + 1, j + 1, by simp; omega, by simp; omega, h3, h4⟩
      · obtain ⟨j, h1, h2⟩ := less (p := p) (q := q) hl' (by omega)
        exact ⟨0, j + 1, by simp, by simp; omega, h, h2⟩
theorem at0_map {f : Int → Int} {l : List Int} {k : Nat} (h : k < l.length) : at0 (l.map f) k = f (at0 l k) := by
  rw [at0_get (by rw [List.length_map]; exact h), at0_get h, List.getElem_map]
theorem at0_set {l : List Int} {k j : Nat} {v : Int} (h : k < l.length) : at0 (l.set k v) j = if j = k then v else at0 l j := by
  unfold at0
  rw [List.getD_eq_getElem?_getD, List.getD_eq_getElem?_getD, List.getElem?_set]
  by_cases e : k = j
  · subst e; rw [if_pos rfl, if_pos h, if_pos rfl]; rfl
  · rw [if_neg e, if_neg (fun z => e z.symm)]
theorem sum_set : ∀ {l : List Int} {k : Nat} {v : Int}, k < l.length → (l.set k v).sum = l.sum - at0 l k + v
  | [], _, _, h => by simp at h
  | a :: l, 0, v, _ => by show (v :: l).sum = _; rw [List.sum_cons, List.sum_cons]; show v + l.sum = a + l.sum - a + v; omega
  | a :: l, k + 1, v, h => by
    show (a :: l.set k v).sum = _
    rw [List.sum_cons, List.sum_cons, sum_set (by simpa using h)]
    show a + (l.sum - at0 l k + v) = a + l.sum - at0 l k + v
    omega
/-- the last cent of i came after the next cent of j -/
def badPair (_ : Int) (w p : List Int) (i j : Nat) : Bool :=
  decide (at0 p i > 0) && (decide (2 * (at0 p i * at0 w j) - at0 w j > 2 * (at0 p j * at0 w i) + at0 w i) || (decide (2 * (at0 p i * at0 w j) - at0 w j = 2 * (at0 p j * at0 w i) + at0 w i) && decide (j < i)))
structure Fair (A : Int) (w p : List Int) : Prop where
  len : p.length = w.length
  pos : ∀ k, k < p.length → 0 ≤ at0 p k
  sum : p.sum = A
  pair : ∀ i j, i < p.length → j < p.length → badPair A w p i j = false
theorem badPair_iff {A : Int} {w p : List Int} {i j : Nat} : badPair A w p i j = false ↔ (0 < at0 p i → 2 * (at0 p i * at0 w j) - at0 w j ≤ 2 * (at0 p j * at0 w i) + at0 w i ∧ (2 * (at0 p i * at0 w j) - at0 w j = 2 * (at0 p j * at0 w i) + at0 w i → i ≤ j)) := by
  unfold badPair
  rw [Bool.and_eq_false_iff, Bool.or_eq_false_iff, Bool.and_eq_false_iff, decide_eq_false_iff_not, decide_eq_false_iff_not, decide_eq_false_iff_not, decide_eq_false_iff_not]
  omega
theorem mul_up {a b x : Int} (h : a + 1 ≤ b) (hx : 0 ≤ x) : a * x + x ≤ b * x := by
  have := Int.mul_le_mul_of_nonneg_right h hx
  rw [Int.add_mul, Int.one_mul] at this
  exact this
/-- one answer alone is fair -/
theorem Fair.unique {A : Int} {w p q : List Int} (hw : ∀ k, k < w.length → 1 ≤ at0 w k) (hp : Fair A w p) (hq : Fair A w q) : p = q := by
  by_cases hne : p = q
  · exact hne
  · exfalso
    obtain ⟨i, j, hi, hj, h1, h2⟩ := differ (hp.len.trans hq.len.symm) (hp.sum.trans hq.sum.symm) hne
    have hi' : i < q.length := by rw [hq.len, ← hp.len]; exact hi
    have hj' : j < q.length := by rw [hq.len, ← hp.len]; exact hj
    have p1 := hp.pos j hj
    have p2 := hq.pos i hi'
    have c1 := badPair_iff.mp (hp.pair i j hi hj) (by omega)
    have c2 := badPair_iff.mp (hq.pair j i hj' hi') (by omega)
    have wi := hw i (by rw [← hp.len]; exact hi)
    have wj := hw j (by rw [← hp.len]; exact hj)
    have e1 := mul_up (a := at0 q i) (b := at0 p i) (x := at0 w j) (by omega) (by omega)
    have e2 := mul_up (a := at0 p j) (b := at0 q j) (x := at0 w i) (by omega) (by omega)
    generalize at0 p i * at0 w j = x1 at *
    generalize at0 q i * at0 w j = x2 at *
    generalize at0 p j * at0 w i = x3 at *
    generalize at0 q j * at0 w i = x4 at *
    have t1 : i ≤ j := c1.2 (by omega)
    have t2 : j ≤ i := c2.2 (by omega)
    have : i = j := by omega
    subst this
    omega
/-- i comes before j, or is j -/
def Before (w p : List Int) (i j : Nat) : Prop := 2 * (at0 p i * at0 w j) + at0 w j < 2 * (at0 p j * at0 w i) + at0 w i ∨ (2 * (at0 p i * at0 w j) + at0 w j = 2 * (at0 p j * at0 w i) + at0 w i ∧ i ≤ j)
/-- the best of the first n -/
structure BestTo (w p : List Int) (n b : Nat) : Prop where
  lt : b < max n 1
  all : ∀ j, j < n → Before w p b j
theorem cross {a b c x y z : Int} (hx : 0 < x) (hy : 0 < y) (hz : 0 < z) (h1 : a * y < b * x) (h2 : b * z ≤ c * y) : a * z < c * x := by
  have e1 : a * y * z < b * x * z := Int.mul_lt_mul_of_pos_right h1 hz
  have e2 : b * z * x ≤ c * y * x := Int.mul_le_mul_of_nonneg_right h2 (Int.le_of_lt hx)
  refine Int.lt_of_mul_lt_mul_right (a := y) ?_ (Int.le_of_lt hy)
  have r1 : a * z * y = a * y * z := Int.mul_right_comm _ _ _
  have r2 : b * x * z = b * z * x := Int.mul_right_comm _ _ _
  have r3 : c * x * y = c * y * x := Int.mul_right_comm _ _ _
  omega
theorem nx_mul {a x : Int} : (2 * a + 1) * x = 2 * (a * x) + x := by rw [Int.add_mul, Int.mul_assoc, Int.one_mul]
theorem ls_mul {a x : Int} : (2 * a - 1) * x = 2 * (a * x) - x := by rw [Int.sub_mul, Int.mul_assoc, Int.one_mul]
theorem BestTo.keep {w p : List Int} {n b : Nat} (B : BestTo w p n b) (h : ¬ (2 * at0 p n + 1) * at0 w b < (2 * at0 p b + 1) * at0 w n) : BestTo w p (n + 1) b := by
  have := B.lt
  rw [nx_mul, nx_mul] at h
  refine ⟨by omega, fun j hj => ?_⟩
  by_cases e : j = n
  · subst e
    unfold Before
    omega
  · exact B.all j (by omega)
theorem BestTo.new {w p : List Int} {n b : Nat} (hw : ∀ k, k < w.length → 1 ≤ at0 w k) (hn : n < w.length) (B : BestTo w p n b) (h : (2 * at0 p n + 1) * at0 w b < (2 * at0 p b + 1) * at0 w n) : BestTo w p (n + 1) n := by
  have := B.lt
  refine ⟨by omega, fun j hj => ?_⟩
  by_cases e : j = n
  · subst e
    exact .inr ⟨rfl, Nat.le_refl _⟩
  · have b1 := B.all j (by omega)
    have w1 := hw n hn
    have w2 := hw b (by omega)
    have w3 := hw j (by omega)
    have c : (2 * at0 p b + 1) * at0 w j ≤ (2 * at0 p j + 1) * at0 w b := by
      rw [nx_mul, nx_mul]
      rcases b1 with b1 | b1 <;> omega
    have := cross (by omega) (by omega) (by omega) h c
    rw [nx_mul, nx_mul] at this
    exact .inl this
theorem BestTo.start (w p : List Int) : BestTo w p 1 0 := ⟨by omega, fun j hj => by
  obtain rfl : j = 0 := by omega
  exact .inr ⟨rfl, Nat.le_refl _⟩⟩
theorem BestTo.zero (w p : List Int) : BestTo w p 0 0 := ⟨by omega, fun j hj => by omega⟩
theorem best_ex {w p : List Int} (hw : ∀ k, k < w.length → 1 ≤ at0 w k) : ∀ n, n ≤ w.length → ∃ b, BestTo w p n b
  | 0, _ => ⟨0, .zero w p⟩
  | n + 1, h => by
    obtain ⟨b, B⟩ := best_ex hw n (by omega)
    by_cases e : (2 * at0 p n + 1) * at0 w b < (2 * at0 p b + 1) * at0 w n
    · exact ⟨n, B.new hw (by omega) e⟩
    · exact ⟨b, B.keep e⟩
/-- the next cent -/
theorem Fair.next {A : Int} {w p : List Int} {b : Nat} (F : Fair A w p) (hw : ∀ k, k < w.length → 1 ≤ at0 w k) (hl : 1 ≤ w.length) (B : BestTo w p w.length b) : Fair (A + 1) w (p.set b (at0 p b + 1)) := by
  have lb : b < w.length := by have := B.lt; omega
  have lp : b < p.length := by rw [F.len]; exact lb
  have wb := hw b lb
  refine ⟨by rw [List.length_set, F.len], fun k hk => ?_, by rw [sum_set lp, F.sum]; omega, fun i j hi hj => badPair_iff.mpr fun h0 => ?_⟩
  · rw [List.length_set] at hk
    rw [at0_set lp]
    have := F.pos b lp
    have := F.pos k hk
    split <;> omega
  · rw [List.length_set] at hi hj
    have wi := hw i (by rw [← F.len]; exact hi)
    have wj := hw j (by rw [← F.len]; exact hj)
    rw [at0_set lp] at h0 ⊢
    rw [at0_set lp]
    by_cases ei : i = b
    · subst ei
      rw [if_pos rfl]
      by_cases ej : j = i
      · subst ej
        rw [if_pos rfl, Int.add_mul, Int.one_mul]
        omega
      · rw [if_neg ej, Int.add_mul, Int.one_mul]
        have := B.all j (by rw [← F.len]; exact hj)
        unfold Before at this
        omega
    · rw [if_neg ei] at h0 ⊢
      have c := badPair_iff.mp (F.pair i j hi hj) h0
      by_cases ej : j = b
      · subst ej
        rw [if_pos rfl, Int.add_mul, Int.one_mul]
        omega
      · rw [if_neg ej]; exact c
theorem at0_rep (n k : Nat) : at0 (List.replicate n 0) k = 0 := by
  unfold at0
  rw [List.getD_eq_getElem?_getD, List.getElem?_replicate]
  split <;> rfl
theorem sum_rep : ∀ n : Nat, (List.replicate n (0 : Int)).sum = 0
  | 0 => rfl
  | n + 1 => by rw [List.replicate_succ, List.sum_cons, sum_rep n]; rfl
theorem Fair.zero (w : List Int) : Fair 0 w (List.replicate w.length 0) :=
  ⟨List.length_replicate, fun k _ => by rw [at0_rep]; omega, sum_rep _, fun i j _ _ => badPair_iff.mpr fun h => by rw [at0_rep] at h; omega⟩
theorem Fair.ex {w : List Int} (hw : ∀ k, k < w.length → 1 ≤ at0 w k) (hl : 1 ≤ w.length) : ∀ n : Nat, ∃ p, Fair (n : Int) w p
  | 0 => ⟨_, .zero w⟩
  | n + 1 => by
    obtain ⟨p, F⟩ := Fair.ex hw hl n
    obtain ⟨b, B⟩ := best_ex (p := p) hw w.length (Nat.le_refl _)
    exact ⟨_, F.next hw hl B⟩
/-- from below the best is one that lacks a cent -/
theorem Fair.below {A : Int} {w p x : List Int} {b : Nat} (F : Fair A w p) (hw : ∀ k, k < w.length → 1 ≤ at0 w k) (hl : 1 ≤ w.length) (lx : x.length = w.length) (h0 : ∀ k, k < w.length → 0 ≤ at0 x k) (hx : ∀ k, k < w.length → at0 x k ≤ at0 p k) (hs : x.sum < A) (B : BestTo w x w.length b) : at0 x b < at0 p b := by
  have lb : b < w.length := by have := B.lt; omega
  by_cases h : at0 x b < at0 p b
  · exact h
  · exfalso
    have eb : at0 x b = at0 p b := by have := hx b lb; omega
    obtain ⟨j, hj, lt⟩ := lessAt (p := x) (q := p) (by rw [lx, F.len]) (by rw [F.sum]; exact hs)
    rw [lx] at hj
    have x0 := h0 j hj
    have c1 := badPair_iff.mp (F.pair j b (by rw [F.len]; exact hj) (by rw [F.len]; exact lb)) (by omega)
    have c2 := B.all j hj
    unfold Before at c2
    have wb := hw b lb
    have e1 := mul_up (a := at0 x j) (b := at0 p j) (x := at0 w b) (by omega) (by omega)
    rw [eb] at c2
    have t1 : j ≤ b ∧ b ≤ j := by omega
    have : j = b := by omega
    subst this
    omega
theorem sum_pair : ∀ {p w : List Int} {a c : Int}, p.length = w.length → (∀ k, k < w.length → 2 * (at0 p k * a) - a ≤ 2 * (c * at0 w k) + at0 w k) → 2 * (p.sum * a) - (w.length : Int) * a ≤ 2 * (c * w.sum) + w.sum
  | [], [], a, c, _, _ => by simp
  | [], _ :: _, _, _, h, _ => by simp at h
  | _ :: _, [], _, _, h, _ => by simp at h
  | x :: p, y :: w, a, c, hl, h => by
    have ih := sum_pair (p := p) (w := w) (a := a) (c := c) (by simpa using hl) fun k hk => h (k + 1) (by simpa using hk)
    have h0 : 2 * (x * a) - a ≤ 2 * (c * y) + y := h 0 (by simp)
    rw [List.sum_cons, List.sum_cons, List.length_cons, Int.add_mul, Int.mul_add c]
    have e : ((w.length + 1 : Nat) : Int) * a = (w.length : Int) * a + a := by rw [Int.natCast_add, Int.add_mul]; simp
    rw [e]
    omega
theorem le_sum : ∀ {w : List Int} {i : Nat}, (∀ k, k < w.length → 1 ≤ at0 w k) → i < w.length → at0 w i ≤ w.sum ∧ 0 ≤ w.sum
  | [], _, _, h => by simp at h
  | y :: w, i, hw, hi => by
    have y1 : 1 ≤ y := hw 0 (by simp)
    have t : ∀ k, k < w.length → 1 ≤ at0 w k := fun k hk => hw (k + 1) (by simpa using hk)
    have s0 : 0 ≤ w.sum := by
      cases w with
      | nil => simp
      | cons z w => exact (le_sum (i := 0) t (by simp)).2
    rw [List.sum_cons]
    cases i with
    | zero => show y ≤ y + w.sum ∧ 0 ≤ y + w.sum; omega
    | succ i =>
      have := le_sum (i := i) t (by simpa using hi)
      show at0 w i ≤ y + w.sum ∧ 0 ≤ y + w.sum
      omega
/-- a part has at least its share less half the number of parts and a half -/
theorem Fair.share {A : Int} {w p : List Int} (F : Fair A w p) (hw : ∀ k, k < w.length → 1 ≤ at0 w k) {i : Nat} (hi : i < w.length) : A * at0 w i / w.sum - (((w.length : Int) + 1) / 2) ≤ at0 p i := by
  have wi := hw i hi
  have s := sum_pair (p := p) (w := w) (a := at0 w i) (c := at0 p i) F.len fun k hk => by
    by_cases h : 0 < at0 p k
    · exact (badPair_iff.mp (F.pair k i (by rw [F.len]; exact hk) (by rw [F.len]; exact hi)) h).1
    · have := F.pos k (by rw [F.len]; exact hk)
      have e : at0 p k = 0 := by omega
      have := F.pos i (by rw [F.len]; exact hi)
      have wk := hw k hk
      have := Int.mul_nonneg this (show (0 : Int) ≤ at0 w k by omega)
      rw [e]; omega
  rw [F.sum] at s
  obtain ⟨l1, l0⟩ := le_sum hw hi
  have hT : 0 < w.sum := by omega
  have n1 : (w.length : Int) * at0 w i ≤ (w.length : Int) * w.sum := Int.mul_le_mul_of_nonneg_left l1 (by omega)
  have d := Int.mul_ediv_add_emod (A * at0 w i) w.sum
  have m0 := Int.emod_nonneg (A * at0 w i) (show w.sum ≠ 0 by omega)
  have e : (2 * (A * at0 w i / w.sum)) * w.sum ≤ (2 * at0 p i + 1 + (w.length : Int)) * w.sum := by
    rw [Int.add_mul, Int.add_mul, Int.mul_assoc, Int.mul_assoc, Int.one_mul]
    have : w.sum * (A * at0 w i / w.sum) = (A * at0 w i / w.sum) * w.sum := Int.mul_comm _ _
    omega
  have := Int.le_of_mul_le_mul_right e hT
  omega
theorem eq_of_le {w p x : List Int} (lx : x.length = p.length) (hx : ∀ k, k < p.length → at0 x k ≤ at0 p k) (hs : x.sum = p.sum) : x = p := by
  by_cases h : x = p
  · exact h
  · obtain ⟨i, j, hi, hj, h1, h2⟩ := differ lx hs h
    have := hx i (by rw [← lx]; exact hi)
    omega
theorem sum_le {p x : List Int} (lx : x.length = p.length) (hx : ∀ k, k < p.length → at0 x k ≤ at0 p k) : x.sum ≤ p.sum := by
  by_cases h : x.sum ≤ p.sum
  · exact h
  · obtain ⟨j, hj, lt⟩ := lessAt (p := p) (q := x) lx.symm (by omega)
    have := hx j hj
    omega
end K32

namespace K32
open PySem PySem.Spec PyProof.Rows L2 Go
def topS (i : Nat) : Stmt := PySem.Challenge.pw_everycoin_k32_running_splits.main.body.getD i (.Pass ⟨0, 0, 0, 0⟩)
abbrev s_shape_fault : Stmt := topS 1
theorem sc_shape_fault : FnScope ["amount", "weights", "parts", "k"] ["amount", "weights", "parts"] (defScope s_shape_fault) := ⟨rfl, rfl, rfl, by decide +kernel, rfl, by decide +kernel, by decide +kernel⟩
abbrev s_next_part : Stmt := topS 2
theorem sc_next_part : FnScope ["parts", "weights", "best", "k"] ["parts", "weights"] (defScope s_next_part) := ⟨rfl, rfl, rfl, by decide +kernel, rfl, by decide +kernel, by decide +kernel⟩
abbrev s__law_state : Stmt := topS 6
theorem sc__law_state : FnScope ["script", "cells", "cell"] ["script"] (defScope s__law_state) := ⟨rfl, rfl, rfl, by decide +kernel, rfl, by decide +kernel, by decide +kernel⟩
abbrev s__law_take : Stmt := topS 7
theorem sc__law_take : FnScope ["state", "most", "cells", "at", "cell", "mixed"] ["state", "most"] (defScope s__law_take) := ⟨rfl, rfl, rfl, by decide +kernel, rfl, by decide +kernel, by decide +kernel⟩
abbrev s__law_shape : Stmt := topS 8
theorem sc__law_shape : FnScope ["amount", "weights", "parts", "k"] ["amount", "weights", "parts"] (defScope s__law_shape) := ⟨rfl, rfl, rfl, by decide +kernel, rfl, by decide +kernel, by decide +kernel⟩
abbrev s__law_next : Stmt := topS 11
theorem sc__law_next : FnScope ["parts", "weights", "best", "k"] ["parts", "weights"] (defScope s__law_next) := ⟨rfl, rfl, rfl, by decide +kernel, rfl, by decide +kernel, by decide +kernel⟩
abbrev s_running : Stmt := topS 3
theorem sc_running : FnScope ["amount", "weights", "total", "back", "parts", "weight", "_"] ["amount", "weights"] (defScope s_running) := ⟨rfl, rfl, rfl, by decide +kernel, rfl, by decide +kernel, by decide +kernel⟩
abbrev s_running_fault : Stmt := topS 4
theorem sc_running_fault : FnScope ["amount", "weights", "parts", "fault", "one", "other", "last", "following"] ["amount", "weights", "parts"] (defScope s_running_fault) := ⟨rfl, rfl, rfl, by decide +kernel, rfl, by decide +kernel, by decide +kernel⟩
abbrev s__law_bent : Stmt := topS 9
theorem sc__law_bent : FnScope ["state", "parts", "row", "one", "other", "kind", "many"] ["state", "parts"] (defScope s__law_bent) := ⟨rfl, rfl, rfl, by decide +kernel, rfl, by decide +kernel, by decide +kernel⟩
abbrev s__law_weights : Stmt := topS 10
theorem sc__law_weights : FnScope ["state", "many", "kind", "row", "k"] ["state"] (defScope s__law_weights) := ⟨rfl, rfl, rfl, by decide +kernel, rfl, by decide +kernel, by decide +kernel⟩
abbrev s__law_fault : Stmt := topS 12
theorem sc__law_fault : FnScope ["amount", "weights", "parts", "found", "i", "j", "late", "early"] ["amount", "weights", "parts"] (defScope s__law_fault) := ⟨rfl, rfl, rfl, by decide +kernel, rfl, by decide +kernel, by decide +kernel⟩
abbrev s_law : Stmt := topS 13
theorem sc_law : FnScope ["script", "state", "turn", "weights", "small", "amount", "kept", "told", "plain", "k", "at", "more", "bent", "given"] ["script"] (defScope s_law) := ⟨rfl, rfl, rfl, by decide +kernel, rfl, by decide +kernel, by decide +kernel⟩
/-- what the top has left -/
structure Txt (K : PySem.W.Frag) (mg : Str → Option Value) where
  a_shape_fault : Addr
  fd_shape_fault : FuncData
  F_shape_fault : Fun K "shape_fault" "shape_fault" s_shape_fault a_shape_fault fd_shape_fault
  b_shape_fault : Binds K fd_shape_fault ["amount", "weights", "parts"] []
  g_shape_fault : mg "shape_fault" = some (.ref a_shape_fault)
  a_next_part : Addr
  fd_next_part : FuncData
  F_next_part : Fun K "next_part" "next_part" s_next_part a_next_part fd_next_part
  b_next_part : Binds K fd_next_part ["parts", "weights"] []
  g_next_part : mg "next_part" = some (.ref a_next_part)
  a__law_state : Addr
  fd__law_state : FuncData
  F__law_state : Fun K "_law_state" "_law_state" s__law_state a__law_state fd__law_state
  b__law_state : Binds K fd__law_state ["script"] []
  g__law_state : mg "_law_state" = some (.ref a__law_state)
  a__law_take : Addr
  fd__law_take : FuncData
  F__law_take : Fun K "_law_take" "_law_take" s__law_take a__law_take fd__law_take
  b__law_take : Binds K fd__law_take ["state", "most"] []
  g__law_take : mg "_law_take" = some (.ref a__law_take)
  a__law_shape : Addr
  fd__law_shape : FuncData
  F__law_shape : Fun K "_law_shape" "_law_shape" s__law_shape a__law_shape fd__law_shape
  b__law_shape : Binds K fd__law_shape ["amount", "weights", "parts"] []
  g__law_shape : mg "_law_shape" = some (.ref a__law_shape)
  a__law_next : Addr
  fd__law_next : FuncData
  F__law_next : Fun K "_law_next" "_law_next" s__law_next a__law_next fd__law_next
  b__law_next : Binds K fd__law_next ["parts", "weights"] []
  g__law_next : mg "_law_next" = some (.ref a__law_next)
  a_running : Addr
  fd_running : FuncData
  F_running : Fun K "running" "running" s_running a_running fd_running
  b_running : Binds K fd_running ["amount", "weights"] []
  g_running : mg "running" = some (.ref a_running)
  a_running_fault : Addr
  fd_running_fault : FuncData
  F_running_fault : Fun K "running_fault" "running_fault" s_running_fault a_running_fault fd_running_fault
  b_running_fault : Binds K fd_running_fault ["amount", "weights", "parts"] []
  g_running_fault : mg "running_fault" = some (.ref a_running_fault)
  a__law_bent : Addr
  fd__law_bent : FuncData
  F__law_bent : Fun K "_law_bent" "_law_bent" s__law_bent a__law_bent fd__law_bent
  b__law_bent : Binds K fd__law_bent ["state", "parts"] []
  g__law_bent : mg "_law_bent" = some (.ref a__law_bent)
  a__law_weights : Addr
  fd__law_weights : FuncData
  F__law_weights : Fun K "_law_weights" "_law_weights" s__law_weights a__law_weights fd__law_weights
  b__law_weights : Binds K fd__law_weights ["state"] []
  g__law_weights : mg "_law_weights" = some (.ref a__law_weights)
  a__law_fault : Addr
  fd__law_fault : FuncData
  F__law_fault : Fun K "_law_fault" "_law_fault" s__law_fault a__law_fault fd__law_fault
  b__law_fault : Binds K fd__law_fault ["amount", "weights", "parts"] []
  g__law_fault : mg "_law_fault" = some (.ref a__law_fault)
  a_law : Addr
  fd_law : FuncData
  F_law : Fun K "law" "law" s_law a_law fd_law
  b_law : Binds K fd_law ["script"] []
  g_law : mg "law" = some (.ref a_law)
  n_abs : mg "abs" = none
  n_int : mg "int" = none
  n_isinstance : mg "isinstance" = none
  n_len : mg "len" = none
  n_list : mg "list" = none
  n_max : mg "max" = none
  n_min : mg "min" = none
  n_range : mg "range" = none
  n_sum : mg "sum" = none

end K32

namespace K32
open PySem PySem.Spec PyProof.Rows L2 Go
set_option maxHeartbeats 8000000
local macro_rules | `(tactic| walk_at "ne") => `(tactic| first
  | assumption
  | (refine Ne.symm ?_; assumption)
  | exact (Go.free_upd (by assumption)).2
  | exact (Go.free_upd (by assumption)).2.symm
  | exact Go.ne_fr (by assumption) (by walk_at "hp")
  | exact (Go.ne_fr (by assumption) (by walk_at "hp")).symm)
local macro_rules | `(tactic| walk_at "fr") => `(tactic| first
  | assumption
  | exact (Go.free_upd (by assumption)).1
  | exact (Go.free_upd (Go.free_upd (by assumption)).1).1
  | exact Same.free (by assumption) (by walk_at "fr"))
local macro_rules | `(tactic| walk_at "hp") => `(tactic| first
  | assumption
  | with_reducible exact upd_same
  | ((with_reducible show upd _ _ _ _ = _); exact Go.at_upd (by walk_at "ne") (by walk_at "hp"))
  | exact (by assumption : Same _ _) _ _ (by walk_at "hp")
  | exact (by assumption : Go.Kp _ _ _) _ _ (by walk_at "ne") (by walk_at "hp")
  | exact (by assumption : Go.Kp2 _ _ _ _) _ _ (by walk_at "ne") (by walk_at "ne") (by walk_at "hp"))
local macro_rules | `(tactic| walk_at "sq") => `(tactic| first
  | assumption
  | ((with_reducible show SqL _ (upd _ _ _) _ _); exact (by assumption : ∀ o, SqL _ (upd _ _ o) _ _) _)
  | ((with_reducible show SqL _ _ _ _); exact SqL.of (by walk_at "hp"))
  | ((with_reducible show SqT _ _ _ _); exact SqT.of (by walk_at "hp"))
  | ((with_reducible show SqL _ (upd _ _ _) _ _); exact Go.sqL_new (by walk_at "fr") (by walk_at "sq"))
  | ((with_reducible show SqT _ (upd _ _ _) _ _); exact Go.sqT_new (by walk_at "fr") (by walk_at "sq"))
  | ((with_reducible show SqL _ (upd _ _ _) _ _); exact Go.sqL_ne (by walk_at "ne") (by walk_at "sq"))
  | exact Go.sqL_same (by assumption) (by walk_at "sq")
  | exact Go.sqT_same (by assumption) (by walk_at "sq")
  | exact Go.sqL_kp (by assumption) (by walk_at "ne") (by walk_at "sq")
  | exact Go.sqT_kp (by assumption) (by walk_at "ne") (by walk_at "sq"))
local macro_rules | `(tactic| walk_at "ci") => `(tactic| first
  | exact .inr ⟨by decide, by decide⟩
  | exact .inl ⟨by decide, by decide⟩
  | exact ⟨by decide, by decide, by decide⟩
  | decide
  | omega
  | exact ⟨by omega, by omega⟩
  | exact .inl ⟨by omega, by omega⟩
  | exact .inr ⟨by omega, by omega⟩)
local macro_rules | `(tactic| walk_at "g0") => `(tactic| first
  | with_reducible refine Go.g_seq ?_
  | ((with_reducible show tVar _ _ _ _); refine ⟨_, rfl, ?_⟩)
  | with_reducible refine Go.g_c ?_
  | with_reducible refine Go.g_op ?_
  | with_reducible refine Go.g_asg ?_
  | with_reducible refine Go.g_name ?_
  | with_reducible refine Go.g_cons ?_
  | with_reducible refine Go.g_lst ?_
  | with_reducible refine Go.g_tup ?_
  | with_reducible refine Go.g_for ?_
  | with_reducible refine Go.g_rng1 ?_
  | with_reducible refine Go.g_rng2 ?_
  | with_reducible refine Go.g_rng3 ?_
  | with_reducible refine Go.g_list ?_
  | with_reducible refine Go.g_itup ?_
  | with_reducible refine Go.g_enum ?_
  | ((with_reducible show tPar _ _ _ _ _ _); unfold tPar)
  | ((with_reducible show ∃ v w, [_, _] = [v, w] ∧ _); refine ⟨_, _, rfl, ?_⟩)
  | with_reducible refine Go.g_zip ?_
  | with_reducible refine Go.g_augS ?_
  | with_reducible refine Go.g_lc ?_
  | with_reducible refine Go.g_nil ?_
  | with_reducible refine Go.g_cb ?_
  | with_reducible refine Go.g_call ?_
  | with_reducible refine Go.g_ret ?_
  | with_reducible refine Go.g_next ?_
  | with_reducible refine Go.g_drop ?_
  | with_reducible refine Go.g_un ?_
  | with_reducible refine Go.g_test ?_
  | with_reducible refine Go.g_tB ?_
  | with_reducible refine Go.g_ifs ?_
  | with_reducible refine Go.g_if ?_
  | with_reducible refine Go.g_and ?_
  | with_reducible refine Go.g_or ?_
  | with_reducible refine Go.g_not ?_
  | with_reducible refine Go.g_sl ?_
  | with_reducible refine Go.g_nopart ?_
  | with_reducible refine Go.g_part ?_
  | ((with_reducible show ∃ k, V.bl _ = V.bl k ∧ _); refine ⟨_, rfl, ?_⟩)
  | ((with_reducible show ∃ k, V.int _ = V.int k ∧ _); refine ⟨_, rfl, ?_⟩)
  | with_reducible refine Go.g_bm ?_
  | with_reducible refine Go.g_yes ?_
  | ((with_reducible show rI0 _ _ _ _ _); refine ⟨_, _, rfl, rfl, ?_⟩)
  | ((with_reducible show rI _ _ _ _ _ _); refine ⟨_, _, rfl, rfl, ?_, ?_⟩; (focus walk_at "ci"))
  | ((with_reducible show rU _ _ _ _); refine ⟨_, rfl, ?_⟩)
  | ((with_reducible show rEq _ _ _ _); refine ⟨rfl, ?_⟩)
  | ((with_reducible show rNe _ _ _ _); refine ⟨rfl, ?_⟩)
  | ((with_reducible show rIxL _ _ _ _ _); refine Go.g_ixL (by walk_at "sq") (by rfl) ?_)
  | ((with_reducible show rIxT _ _ _ _ _); refine Go.g_ixT (by walk_at "sq") (by rfl) ?_)
  | ((with_reducible show rSetL _ _ _ _ _); refine Go.g_setL (by walk_at "hp") (by rfl) ?_)
  | ((with_reducible show ∃ p ys, [V.ref _] = [V.ref p] ∧ (SqL _ _ _ _ ∨ SqT _ _ _ _) ∧ _); refine ⟨_, _, rfl, .inl (by walk_at "sq"), ?_⟩)
  | ((with_reducible show (∃ i, [V.int _] = [V.int i] ∧ _) ∨ _); refine .inl ⟨_, rfl, ?_⟩)
  | ((with_reducible show ∃ (c : Nat) (z : Str), V.str _ = V.str ⟨#[c]⟩ ∧ V.str _ = V.str z ∧ _); refine ⟨_, _, rfl, rfl, ?_⟩)
  | ((with_reducible show ∃ x : Str, [V.str _] = [V.str x] ∧ Str.length x = 1 ∧ _); refine ⟨_, rfl, rfl, ?_⟩)
  | ((with_reducible show ∃ z : Str, [V.str _] = [V.str z] ∧ Str.length z ≤ sizeLine ∧ _); refine ⟨_, rfl, by assumption, ?_⟩)
  | ((with_reducible show rSlS _ _ _ _ _); refine ⟨_, rfl, by assumption, ?_⟩)
  | ((with_reducible show gTup _ _ _ _ _ _ _); refine Go.g_gtup (by walk_at "sq") (by rfl) ?_)
  | ((with_reducible show gCons _ _ _ _ _ _); refine ⟨_, _, rfl, ?_⟩)
  | ((with_reducible show gNil _ _ _ _); refine ⟨rfl, ?_⟩)
  | ((with_reducible show rLenS _ _ _ _); refine Go.g_lenL (by walk_at "sq") ?_)
  | ((with_reducible show rListOf _ _ _ _); refine Go.g_listL (by walk_at "sq") ?_)
  | ((with_reducible show wipe _ _ = wipe _ _ ∧ _); refine ⟨rfl, ?_⟩)
  | ((with_reducible show if true = true then _ else _); refine iteT ?_)
  | ((with_reducible show if false = true then _ else _); refine iteF ?_)
  | ((with_reducible show ∃ a b xs ys, [V.ref _, V.ref _] = [V.ref a, V.ref b] ∧ SqL _ _ a xs ∧ SqL _ _ b ys ∧ _); refine ⟨_, _, _, _, rfl, by walk_at "sq", by walk_at "sq", ?_⟩)
  | ((with_reducible show ∃ a xs, [V.ref _] = [V.ref a] ∧ SqL _ _ a xs ∧ _); refine ⟨_, _, rfl, by walk_at "sq", ?_⟩)
  | ((with_reducible show ∃ a, V.ref _ = V.ref a ∧ (∃ xs, SqL _ _ a xs) ∧ _); refine ⟨_, rfl, ⟨_, by walk_at "sq"⟩, ?_⟩)
  | ((with_reducible show ∃ a, V.ref _ = V.ref a ∧ (∃ xs, SqT _ _ a xs) ∧ _); refine ⟨_, rfl, ⟨_, by walk_at "sq"⟩, ?_⟩)
  | ((with_reducible show ∃ j : Int, [V.int _] = [V.int j] ∧ _ ≤ j ∧ j < _ ∧ _); refine ⟨_, rfl, by omega, by omega, ?_⟩)
  | ((with_reducible show ∃ i j : Int, [V.int _, V.int _] = [V.int i, V.int j] ∧ (_ ≤ i ∧ i < _ ∧ _ ≤ j ∧ j < _) ∧ _); refine ⟨_, _, rfl, ⟨by omega, by omega, by omega, by omega⟩, ?_⟩)
  | ((with_reducible show ∃ i j : Int, [V.int _, V.int _] = [V.int i, V.int j] ∧ _); refine ⟨_, _, rfl, ?_⟩)
  | ((with_reducible show ∃ i : Int, [V.int _] = [V.int i] ∧ _); refine ⟨_, rfl, ?_⟩)
  | ((with_reducible show _ ≤ sizeLine ∧ _); refine ⟨by first | decide | (simp only [List.length_cons, List.length_nil]; decide), ?_⟩))
local macro_rules | `(tactic| walk_at "g1") => `(tactic| first | walk_at "g0" | with_reducible refine Go.g_sub ?_)
local macro_rules | `(tactic| walk_at "g") => `(tactic| repeat walk_at "g1")
local macro_rules | `(tactic| walk_at "v") => `(tactic| repeat walk_at "g0")
local macro_rules | `(tactic| walk_at "if") => `(tactic| first
  | with_reducible refine @Go.g_itd _ _ _ _ ?_ ?_
  | with_reducible refine @Go.g_itnd _ _ _ _ ?_ ?_
  | with_reducible refine Go.g_ite ?_ ?_)

section
variable {P : Program} {w : World} {K : PySem.W.Frag} {mg : Str → Option Value} {base : Heap}
def sp__law_state (K : PySem.W.Frag) : Sp := fun vs H Q _ => ∃ (sc : Addr) (ns : List Int), vs = [.ref sc] ∧ SqL K H sc (ns.map V.int) ∧ ns.length ≤ 63 ∧ ∀ H' st ce, Same H H' → TSt H' st ce → st ≠ ce → Q (.ref st) H'
theorem ok__law_state (T : Txt K mg) : FnOk P w K mg base CX0 1 T.a__law_state T.fd__law_state ["script"] (sp__law_state K) := by
  refine T.F__law_state.ok sc__law_state (fun vs H Q E h => ?_) (fun cdv A outer s H vs Q E hr h => ?_)
  · obtain ⟨sc, ns, rfl, _⟩ := h; rfl
  · obtain ⟨sc, ns, rfl, hS, hlen, q⟩ := h
    refine ⟨_, pss_cons (ps_setLc (i := 1) (own := [("cell", 2)]) (g := gName 2) (by rfl) sc__law_state.nd rfl rfl (sw_true rfl rfl rfl (by decide +kernel)) (pi_list (pe_slice sl_list (pv 0) po_none (po_some pe_int))) (blkOk_by (own := [("cell", 2)]) (N := ["script", "cells", "cell"]) (sc := defScope s__law_state) (by decide +kernel)) (fun _ _ _ _ _ => pg_name (i := 2) sc__law_state.nd rfl (Or.inl rfl)) (fun _ _ _ _ _ => pts_nil) (fun _ _ _ _ _ => (pe_callB call_abs (by rfl) T.n_abs (by decide +kernel) (pa_cons (pv 2) pa_nil))))
      (C8.pss_cut (ps_if (pt_cmpR op_eq (pe_callB call_lenS (by rfl) T.n_len PySem.boot_len (pa_cons (pv 1) pa_nil)) pe_int (nomark _))
        (pss_one (ps_set (i := 1) sc__law_state.nd rfl (.inl rfl) (pe_lst (pa_cons pe_int pa_nil))))
        (pss_nil))
      (pss_one (ps_ret (pe_lst (pa_cons pe_int (pa_cons (pv 1) pa_nil)))))), ?_⟩
    walk_at "g"
    refine ⟨sc, _, rfl, hS, fun p np => ?_⟩
    have hc : ∃ ms : List Int, cutV (ns.map V.int) none (some 63) = ms.map V.int ∧ ms.length ≤ 63 := by
      unfold cutV
      rw [HT.sIx_none, show HT.sIx (ns.map V.int).length (ns.map V.int).length (some 63) = min 63 (ns.map V.int).length from HT.sIx_nat _ _ 63, List.drop_zero, ← List.map_take]
      exact ⟨_, rfl, by rw [List.length_take]; omega⟩
    obtain ⟨ms, ec, lm⟩ := hc
    rw [ec]
    have s1 : Same H (upd H p (.lst (ms.map V.int))) := Go.Same.new (Same.refl _) np
    have e1 : (upd H p (.lst (ms.map V.int))) p = some (.lst (ms.map V.int)) := upd_same
    generalize (upd H p (.lst (ms.map V.int))) = H1 at *
    clear hS ec np
    walk_at "g"
    intro ce nc
    refine lcW_pure (ms.map V.int) (fun j => .int (if ms.getD j 0 < 0 then -(ms.getD j 0) else ms.getD j 0)) nc (SqL.of e1) (by rw [List.length_map]; omega) ?_ ?_
    · intro j x H2 R Z hx s2 hR
      rw [List.getElem?_map] at hx
      obtain ⟨k, hk, rfl⟩ := Option.map_eq_some_iff.mp hx
      rw [List.getD_eq_getElem?_getD, hk] at hR
      walk_at "g"
      exact hR
    intro H2 s2 e2
    obtain ⟨cs, ecs, lcs⟩ : ∃ cs : List Int, H2 ce = some (.lst (cs.map V.int)) ∧ cs.length = ms.length :=
      ⟨(List.range (ms.map V.int).length).map fun j => (if ms.getD j 0 < 0 then -(ms.getD j 0) else ms.getD j 0), by rw [e2, List.map_map]; rfl, by simp⟩
    have s12 := s1.trans s2
    walk_at "g"
    refine g_cut (fun σ' H' => ∃ (ce : Addr) (cs : List Int) (y2 : Option V), σ' = [some (.ref sc), some (.ref ce), y2] ∧ Same H H' ∧ H' ce = some (.lst (cs.map V.int)) ∧ 1 ≤ cs.length) ?_ ?_
    · walk_at "g"
      walk_at "if" <;> intro e
      · walk_at "g"
        intro c2 n2
        exact ⟨c2, [0], _, rfl, Go.Same.new s12 n2, upd_same, by simp⟩
      · walk_at "g"
        refine ⟨ce, cs, _, rfl, s12, ecs, ?_⟩
        rw [List.length_map] at e
        have : ¬ ((cs.length : Int) = 0) := fun z => e (by rw [z])
        omega
    · rintro σ' H3 ⟨ce, cs, y2, rfl, s3, e3, l3⟩
      walk_at "g"
      intro st nst
      have ncs := ne_of_none e3 nst
      exact q _ _ ce (Go.Same.new s3 nst) ⟨⟨0, upd_same⟩, cs, at_upd ncs e3, l3⟩ ncs.symm
def sp__law_take (K : PySem.W.Frag) : Sp := fun vs H Q _ => ∃ (st ce : Addr) (most : Int), vs = [.ref st, .int most] ∧ TSt H st ce ∧ st ≠ ce ∧ 1 ≤ most ∧ most < 1000000000000000000 ∧
  ∀ H' d, Kp2 st ce H H' → TSt H' st ce → 0 ≤ d → d < most → Q (.int d) H'
theorem ok__law_take (T : Txt K mg) : FnOk P w K mg base CX0 1 T.a__law_take T.fd__law_take ["state", "most"] (sp__law_take K) := by
  refine T.F__law_take.ok sc__law_take (fun vs H Q E h => ?_) (fun cdv A outer s H vs Q E hr h => ?_)
  · obtain ⟨st, ce, most, rfl, _⟩ := h; rfl
  · obtain ⟨st, ce, most, rfl, ⟨⟨n, es⟩, cells, ec, lc⟩, hne, h1, h2, q⟩ := h
    have lm : (cells.map V.int).length = cells.length := List.length_map ..
    refine ⟨_, pss_cons (ps_set (i := 2) sc__law_take.nd rfl (.inl rfl) (pe_ix ix_list (pv 0) pe_int (fun _ _ => rfl)))
      (pss_cons (ps_set (i := 3) sc__law_take.nd rfl (.inl rfl) (pe_op op_mod (pe_ix ix_list (pv 0) pe_int (fun _ _ => rfl)) (pe_callB call_lenS (by rfl) T.n_len PySem.boot_len (pa_cons (pv 2) pa_nil))))
      (pss_cons (ps_set (i := 4) sc__law_take.nd rfl (.inl rfl) (pe_ix ix_list (pv 2) (pv 3) (fun _ _ => rfl)))
      (pss_cons (ps_if (pt_cmpR op_ge (pv 4) pe_int (nomark _))
        (pss_cons (ps_asg (pe_op op_fdivW (pv 4) (pv 1)) (pg_sub (pv 2) (pv 3) set_list))
        (pss_one (ps_ret (pe_op op_mod (pv 4) (pv 1)))))
        (pss_nil))
      (pss_cons (ps_asg (pe_op op_add (pe_ix ix_list (pv 0) pe_int (fun _ _ => rfl)) pe_int) (pg_sub (pv 0) pe_int set_list))
      (pss_cons (ps_set (i := 5) sc__law_take.nd rfl (.inl rfl) (pe_op op_mod (pe_callTy call_int1 (by rfl) T.n_int (by decide +kernel) (pa_cons (pe_op op_add (pe_op op_mul (pv 4) pe_int) (pe_op op_mul (pe_ix ix_list (pv 0) pe_int (fun _ _ => rfl)) pe_int)) pa_nil)) pe_int))
      (pss_cons (ps_set (i := 5) sc__law_take.nd rfl (.inl rfl) (pe_op op_mod (pe_callTy call_int1 (by rfl) T.n_int (by decide +kernel) (pa_cons (pe_op op_add (pe_op op_mul (pv 5) pe_int) (pe_op op_mul (pe_ix ix_list (pv 0) pe_int (fun _ _ => rfl)) pe_int)) pa_nil)) pe_int))
      (pss_one (ps_ret (pe_op op_mod (pe_op op_fdiv (pv 5) pe_int) (pv 1)))))))))), ?_⟩
    walk_at "g"
    have b0 : 0 ≤ n % ((cells.map V.int).length : Int) := Int.emod_nonneg _ (by omega)
    have b1 : n % ((cells.map V.int).length : Int) < (cells.map V.int).length := Int.emod_lt_of_pos _ (by omega)
    obtain ⟨cell, ecell⟩ : ∃ cell : Int, atI (cells.map V.int) (n % ((cells.map V.int).length : Int)) = some (.int cell) := ⟨_, atI_map b0 (by omega)⟩
    refine g_ixL (by walk_at "sq") ecell ?_
    walk_at "g"
    walk_at "if" <;> intro e
    · walk_at "g"
      refine ⟨_, _, rfl, rfl, wide_div (b := 100) (by omega) ?_ (by decide) (by decide), ?_⟩
      · have : most.natAbs < 1000000000000000000 := by omega
        exact Nat.lt_trans this (by decide)
      walk_at "g"
      refine g_setL ec (ixN_some b0 b1) ?_
      walk_at "g"
      refine q _ _ (Kp2.at2 (Kp2.refl _ _ _)) ⟨⟨n, at_upd hne es⟩, cells.set (n % ((cells.map V.int).length : Int)).toNat (cell / most), ?_, by rw [List.length_set]; exact lc⟩ (Int.emod_nonneg _ (by omega)) (Int.emod_lt_of_pos _ (by omega))
      rw [upd_same, List.map_set]
    · walk_at "g"
      refine q _ _ (Kp2.at1 (Kp2.refl _ _ _)) ⟨⟨n + 1, upd_same⟩, cells, at_upd hne.symm ec, lc⟩ (Int.emod_nonneg _ (by omega)) (Int.emod_lt_of_pos _ (by omega))

end
end K32

namespace K32
open PySem PySem.Spec PyProof.Rows L2 Go
set_option maxHeartbeats 8000000
local macro_rules | `(tactic| walk_at "ne") => `(tactic| first
  | assumption
  | (refine Ne.symm ?_; assumption)
  | exact (Go.free_upd (by assumption)).2
  | exact (Go.free_upd (by assumption)).2.symm
  | exact Go.ne_fr (by assumption) (by walk_at "hp")
  | exact (Go.ne_fr (by assumption) (by walk_at "hp")).symm)
local macro_rules | `(tactic| walk_at "fr") => `(tactic| first
  | assumption
  | exact (Go.free_upd (by assumption)).1
  | exact (Go.free_upd (Go.free_upd (by assumption)).1).1
  | exact Same.free (by assumption) (by walk_at "fr"))
local macro_rules | `(tactic| walk_at "hp") => `(tactic| first
  | assumption
  | with_reducible exact upd_same
  | ((with_reducible show upd _ _ _ _ = _); exact Go.at_upd (by walk_at "ne") (by walk_at "hp"))
  | exact (by assumption : Same _ _) _ _ (by walk_at "hp")
  | exact (by assumption : Go.Kp _ _ _) _ _ (by walk_at "ne") (by walk_at "hp")
  | exact (by assumption : Go.Kp2 _ _ _ _) _ _ (by walk_at "ne") (by walk_at "ne") (by walk_at "hp"))
local macro_rules | `(tactic| walk_at "sq") => `(tactic| first
  | assumption
  | ((with_reducible show SqL _ (upd _ _ _) _ _); exact (by assumption : ∀ o, SqL _ (upd _ _ o) _ _) _)
  | ((with_reducible show SqL _ _ _ _); exact SqL.of (by walk_at "hp"))
  | ((with_reducible show SqT _ _ _ _); exact SqT.of (by walk_at "hp"))
  | ((with_reducible show SqL _ (upd _ _ _) _ _); exact Go.sqL_new (by walk_at "fr") (by walk_at "sq"))
  | ((with_reducible show SqT _ (upd _ _ _) _ _); exact Go.sqT_new (by walk_at "fr") (by walk_at "sq"))
  | ((with_reducible show SqL _ (upd _ _ _) _ _); exact Go.sqL_ne (by walk_at "ne") (by walk_at "sq"))
  | exact Go.sqL_same (by assumption) (by walk_at "sq")
  | exact Go.sqT_same (by assumption) (by walk_at "sq")
  | exact Go.sqL_kp (by assumption) (by walk_at "ne") (by walk_at "sq")
  | exact Go.sqT_kp (by assumption) (by walk_at "ne") (by walk_at "sq"))
local macro_rules | `(tactic| walk_at "ci") => `(tactic| first
  | exact .inr ⟨by decide, by decide⟩
  | exact .inl ⟨by decide, by decide⟩
  | exact ⟨by decide, by decide, by decide⟩
  | decide
  | omega
  | exact ⟨by omega, by omega⟩
  | exact .inl ⟨by omega, by omega⟩
  | exact .inr ⟨by omega, by omega⟩)
local macro_rules | `(tactic| walk_at "g0") => `(tactic| first
  | with_reducible refine Go.g_seq ?_
  | ((with_reducible show tVar _ _ _ _); refine ⟨_, rfl, ?_⟩)
  | with_reducible refine Go.g_c ?_
  | with_reducible refine Go.g_op ?_
  | with_reducible refine Go.g_asg ?_
  | with_reducible refine Go.g_name ?_
  | with_reducible refine Go.g_cons ?_
  | with_reducible refine Go.g_lst ?_
  | with_reducible refine Go.g_tup ?_
  | with_reducible refine Go.g_for ?_
  | with_reducible refine Go.g_rng1 ?_
  | with_reducible refine Go.g_rng2 ?_
  | with_reducible refine Go.g_rng3 ?_
  | with_reducible refine Go.g_list ?_
  | with_reducible refine Go.g_itup ?_
  | with_reducible refine Go.g_enum ?_
  | ((with_reducible show tPar _ _ _ _ _ _); unfold tPar)
  | ((with_reducible show ∃ v w, [_, _] = [v, w] ∧ _); refine ⟨_, _, rfl, ?_⟩)
  | with_reducible refine Go.g_zip ?_
  | with_reducible refine Go.g_augS ?_
  | with_reducible refine Go.g_lc ?_
  | with_reducible refine Go.g_nil ?_
  | with_reducible refine Go.g_cb ?_
  | with_reducible refine Go.g_call ?_
  | with_reducible refine Go.g_ret ?_
  | with_reducible refine Go.g_next ?_
  | with_reducible refine Go.g_drop ?_
  | with_reducible refine Go.g_un ?_
  | with_reducible refine Go.g_test ?_
  | with_reducible refine Go.g_tB ?_
  | with_reducible refine Go.g_ifs ?_
  | with_reducible refine Go.g_if ?_
  | with_reducible refine Go.g_and ?_
  | with_reducible refine Go.g_or ?_
  | with_reducible refine Go.g_not ?_
  | with_reducible refine Go.g_sl ?_
  | with_reducible refine Go.g_nopart ?_
  | with_reducible refine Go.g_part ?_
  | ((with_reducible show ∃ k, V.bl _ = V.bl k ∧ _); refine ⟨_, rfl, ?_⟩)
  | ((with_reducible show ∃ k, V.int _ = V.int k ∧ _); refine ⟨_, rfl, ?_⟩)
  | with_reducible refine Go.g_bm ?_
  | with_reducible refine Go.g_yes ?_
  | ((with_reducible show rI0 _ _ _ _ _); refine ⟨_, _, rfl, rfl, ?_⟩)
  | ((with_reducible show rI _ _ _ _ _ _); refine ⟨_, _, rfl, rfl, ?_, ?_⟩; (focus walk_at "ci"))
  | ((with_reducible show rU _ _ _ _); refine ⟨_, rfl, ?_⟩)
  | ((with_reducible show rEq _ _ _ _); refine ⟨rfl, ?_⟩)
  | ((with_reducible show rNe _ _ _ _); refine ⟨rfl, ?_⟩)
  | ((with_reducible show rIxL _ _ _ _ _); refine Go.g_ixL (by walk_at "sq") (by rfl) ?_)
  | ((with_reducible show rIxT _ _ _ _ _); refine Go.g_ixT (by walk_at "sq") (by rfl) ?_)
  | ((with_reducible show rSetL _ _ _ _ _); refine Go.g_setL (by walk_at "hp") (by rfl) ?_)
  | ((with_reducible show ∃ p ys, [V.ref _] = [V.ref p] ∧ (SqL _ _ _ _ ∨ SqT _ _ _ _) ∧ _); refine ⟨_, _, rfl, .inl (by walk_at "sq"), ?_⟩)
  | ((with_reducible show (∃ i, [V.int _] = [V.int i] ∧ _) ∨ _); refine .inl ⟨_, rfl, ?_⟩)
  | ((with_reducible show ∃ (c : Nat) (z : Str), V.str _ = V.str ⟨#[c]⟩ ∧ V.str _ = V.str z ∧ _); refine ⟨_, _, rfl, rfl, ?_⟩)
  | ((with_reducible show ∃ x : Str, [V.str _] = [V.str x] ∧ Str.length x = 1 ∧ _); refine ⟨_, rfl, rfl, ?_⟩)
  | ((with_reducible show ∃ z : Str, [V.str _] = [V.str z] ∧ Str.length z ≤ sizeLine ∧ _); refine ⟨_, rfl, by assumption, ?_⟩)
  | ((with_reducible show rSlS _ _ _ _ _); refine ⟨_, rfl, by assumption, ?_⟩)
  | ((with_reducible show gTup _ _ _ _ _ _ _); refine Go.g_gtup (by walk_at "sq") (by rfl) ?_)
  | ((with_reducible show gCons _ _ _ _ _ _); refine ⟨_, _, rfl, ?_⟩)
  | ((with_reducible show gNil _ _ _ _); refine ⟨rfl, ?_⟩)
  | ((with_reducible show rLenS _ _ _ _); refine Go.g_lenL (by walk_at "sq") ?_)
  | ((with_reducible show rListOf _ _ _ _); refine Go.g_listL (by walk_at "sq") ?_)
  | ((with_reducible show wipe _ _ = wipe _ _ ∧ _); refine ⟨rfl, ?_⟩)
  | ((with_reducible show if true = true then _ else _); refine iteT ?_)
  | ((with_reducible show if false = true then _ else _); refine iteF ?_)
  | ((with_reducible show ∃ a b xs ys, [V.ref _, V.ref _] = [V.ref a, V.ref b] ∧ SqL _ _ a xs ∧ SqL _ _ b ys ∧ _); refine ⟨_, _, _, _, rfl, by walk_at "sq", by walk_at "sq", ?_⟩)
  | ((with_reducible show ∃ a xs, [V.ref _] = [V.ref a] ∧ SqL _ _ a xs ∧ _); refine ⟨_, _, rfl, by walk_at "sq", ?_⟩)
  | ((with_reducible show ∃ a, V.ref _ = V.ref a ∧ (∃ xs, SqL _ _ a xs) ∧ _); refine ⟨_, rfl, ⟨_, by walk_at "sq"⟩, ?_⟩)
  | ((with_reducible show ∃ a, V.ref _ = V.ref a ∧ (∃ xs, SqT _ _ a xs) ∧ _); refine ⟨_, rfl, ⟨_, by walk_at "sq"⟩, ?_⟩)
  | ((with_reducible show ∃ j : Int, [V.int _] = [V.int j] ∧ _ ≤ j ∧ j < _ ∧ _); refine ⟨_, rfl, by omega, by omega, ?_⟩)
  | ((with_reducible show ∃ i j : Int, [V.int _, V.int _] = [V.int i, V.int j] ∧ (_ ≤ i ∧ i < _ ∧ _ ≤ j ∧ j < _) ∧ _); refine ⟨_, _, rfl, ⟨by omega, by omega, by omega, by omega⟩, ?_⟩)
  | ((with_reducible show ∃ i j : Int, [V.int _, V.int _] = [V.int i, V.int j] ∧ _); refine ⟨_, _, rfl, ?_⟩)
  | ((with_reducible show ∃ i : Int, [V.int _] = [V.int i] ∧ _); refine ⟨_, rfl, ?_⟩)
  | ((with_reducible show _ ≤ sizeLine ∧ _); refine ⟨by first | decide | (simp only [List.length_cons, List.length_nil]; decide), ?_⟩))
local macro_rules | `(tactic| walk_at "g1") => `(tactic| first | walk_at "g0" | with_reducible refine Go.g_sub ?_)
local macro_rules | `(tactic| walk_at "g") => `(tactic| repeat walk_at "g1")
local macro_rules | `(tactic| walk_at "v") => `(tactic| repeat walk_at "g0")
local macro_rules | `(tactic| walk_at "if") => `(tactic| first
  | with_reducible refine @Go.g_itd _ _ _ _ ?_ ?_
  | with_reducible refine @Go.g_itnd _ _ _ _ ?_ ?_
  | with_reducible refine Go.g_ite ?_ ?_)

section
variable {P : Program} {w : World} {K : PySem.W.Frag} {mg : Str → Option Value} {base : Heap}
structure WOk (A : Int) (w : List Int) : Prop where
  l1 : 1 ≤ w.length
  l2 : w.length ≤ 40
  lo : ∀ k, k < w.length → 1 ≤ at0 w k
  hi : ∀ k, k < w.length → at0 w k ≤ 1000000
  a0 : 0 ≤ A
  a1 : A ≤ 10000000000000000
theorem sum_bounds : ∀ {w : List Int}, (∀ k, k < w.length → 1 ≤ at0 w k) → (∀ k, k < w.length → at0 w k ≤ 1000000) → (w.length : Int) ≤ w.sum ∧ w.sum ≤ 1000000 * (w.length : Int)
  | [], _, _ => by simp
  | x :: w, h1, h2 => by
    obtain ⟨a, b⟩ := sum_bounds (w := w) (fun k hk => h1 (k + 1) (by simpa using hk)) (fun k hk => h2 (k + 1) (by simpa using hk))
    have c := h1 0 (by simp)
    have d := h2 0 (by simp)
    have c : 1 ≤ x := c
    have d : x ≤ 1000000 := d
    rw [List.sum_cons, List.length_cons]
    omega
theorem WOk.sum {A : Int} {w : List Int} (W : WOk A w) : 0 < w.sum ∧ w.sum ≤ 40000000 := by
  have := sum_bounds W.lo W.hi
  have := W.l1
  have := W.l2
  omega
theorem mem_at0 {w : List Int} {x : Int} (h : x ∈ w) : ∃ k, k < w.length ∧ at0 w k = x := by
  obtain ⟨k, hk, e⟩ := List.getElem_of_mem h
  exact ⟨k, hk, by rw [at0_get hk]; exact e⟩
theorem at0_at {l : List Int} {i : Int} {k : Nat} (e : i = (k : Int)) (h : k < l.length) : atI (l.map V.int) i = some (.int (at0 l k)) := by
  subst e
  refine atI_nat ?_
  rw [List.getElem?_map, List.getElem?_eq_getElem h, at0_get h]; rfl
theorem at0_map? {l : List Int} {i : Nat} {x : V} (h : (l.map V.int)[i]? = some x) : i < l.length ∧ x = .int (at0 l i) := by
  rw [List.getElem?_map] at h
  obtain ⟨k, hk, rfl⟩ := Option.map_eq_some_iff.mp h
  obtain ⟨hi, e⟩ := List.getElem?_eq_some_iff.mp hk
  exact ⟨hi, by rw [at0_get hi, e]⟩
theorem range_at0 (l : List Int) (f : Int → Int) : ((List.range l.length).map fun j => f (at0 l j)) = l.map f := by
  refine List.ext_getElem? fun i => ?_
  rw [List.getElem?_map, List.getElem?_map]
  by_cases h : i < l.length
  · rw [List.getElem?_range h, List.getElem?_eq_getElem h, Option.map_some, Option.map_some, at0_get h]
  · rw [List.getElem?_eq_none (by simp; omega), List.getElem?_eq_none (by omega)] <;> rfl
theorem range_len (n : Nat) (f : Nat → Int) : ((List.range n).map f).length = n := by rw [List.length_map, List.length_range]
theorem range_at (n : Nat) (f : Nat → Int) {k : Nat} (h : k < n) : at0 ((List.range n).map f) k = f k := by
  rw [at0_get (by rw [range_len]; exact h), List.getElem_map, List.getElem_range]
theorem ints_flat (l : List Int) : (l.map V.int).all flatV = true := by
  rw [List.all_map]; exact List.all_eq_true.mpr fun _ _ => rfl
theorem set_map {xs : List Int} {j : Nat} {v : Int} : (xs.map V.int).set j (.int v) = (xs.set j v).map V.int := by rw [List.map_set]
theorem least {P : Nat → Prop} (h : ∃ n, P n) : ∃ n, P n ∧ ∀ k, k < n → ¬ P k := by
  obtain ⟨n, hn⟩ := h
  induction n using Nat.strongRecOn with
  | ind n ih =>
    by_cases e : ∃ k, k < n ∧ P k
    · obtain ⟨k, hk, pk⟩ := e
      exact ih k hk pk
    · exact ⟨n, hn, fun k hk pk => e ⟨k, hk, pk⟩⟩
theorem ne_of_int {a b : Addr} (h : a ≠ b) : b ≠ a := h.symm

end
end K32

namespace K32
open PySem PySem.Spec PyProof.Rows L2 Go
set_option maxHeartbeats 8000000
local macro_rules | `(tactic| walk_at "ne") => `(tactic| first
  | assumption
  | (refine Ne.symm ?_; assumption)
  | exact (Go.free_upd (by assumption)).2
  | exact (Go.free_upd (by assumption)).2.symm
  | exact Go.ne_fr (by assumption) (by walk_at "hp")
  | exact (Go.ne_fr (by assumption) (by walk_at "hp")).symm)
local macro_rules | `(tactic| walk_at "fr") => `(tactic| first
  | assumption
  | exact (Go.free_upd (by assumption)).1
  | exact (Go.free_upd (Go.free_upd (by assumption)).1).1
  | exact Same.free (by assumption) (by walk_at "fr"))
local macro_rules | `(tactic| walk_at "hp") => `(tactic| first
  | assumption
  | with_reducible exact upd_same
  | ((with_reducible show upd _ _ _ _ = _); exact Go.at_upd (by walk_at "ne") (by walk_at "hp"))
  | exact (by assumption : Same _ _) _ _ (by walk_at "hp")
  | exact (by assumption : Go.Kp _ _ _) _ _ (by walk_at "ne") (by walk_at "hp")
  | exact (by assumption : Go.Kp2 _ _ _ _) _ _ (by walk_at "ne") (by walk_at "ne") (by walk_at "hp"))
local macro_rules | `(tactic| walk_at "sq") => `(tactic| first
  | assumption
  | ((with_reducible show SqL _ (upd _ _ _) _ _); exact (by assumption : ∀ o, SqL _ (upd _ _ o) _ _) _)
  | ((with_reducible show SqL _ _ _ _); exact SqL.of (by walk_at "hp"))
  | ((with_reducible show SqT _ _ _ _); exact SqT.of (by walk_at "hp"))
  | ((with_reducible show SqL _ (upd _ _ _) _ _); exact Go.sqL_new (by walk_at "fr") (by walk_at "sq"))
  | ((with_reducible show SqT _ (upd _ _ _) _ _); exact Go.sqT_new (by walk_at "fr") (by walk_at "sq"))
  | ((with_reducible show SqL _ (upd _ _ _) _ _); exact Go.sqL_ne (by walk_at "ne") (by walk_at "sq"))
  | exact Go.sqL_same (by assumption) (by walk_at "sq")
  | exact Go.sqT_same (by assumption) (by walk_at "sq")
  | exact Go.sqL_kp (by assumption) (by walk_at "ne") (by walk_at "sq")
  | exact Go.sqT_kp (by assumption) (by walk_at "ne") (by walk_at "sq"))
local macro_rules | `(tactic| walk_at "ci") => `(tactic| first
  | exact .inr ⟨by decide, by decide⟩
  | exact .inl ⟨by decide, by decide⟩
  | exact ⟨by decide, by decide, by decide⟩
  | decide
  | omega
  | exact ⟨by omega, by omega⟩
  | exact .inl ⟨by omega, by omega⟩
  | exact .inr ⟨by omega, by omega⟩)
local macro_rules | `(tactic| walk_at "g0") => `(tactic| first
  | with_reducible refine Go.g_seq ?_
  | ((with_reducible show tVar _ _ _ _); refine ⟨_, rfl, ?_⟩)
  | with_reducible refine Go.g_c ?_
  | with_reducible refine Go.g_op ?_
  | with_reducible refine Go.g_asg ?_
  | with_reducible refine Go.g_name ?_
  | with_reducible refine Go.g_cons ?_
  | with_reducible refine Go.g_lst ?_
  | with_reducible refine Go.g_tup ?_
  | with_reducible refine Go.g_for ?_
  | with_reducible refine Go.g_rng1 ?_
  | with_reducible refine Go.g_rng2 ?_
  | with_reducible refine Go.g_rng3 ?_
  | with_reducible refine Go.g_list ?_
  | with_reducible refine Go.g_itup ?_
  | with_reducible refine Go.g_enum ?_
  | ((with_reducible show tPar _ _ _ _ _ _); unfold tPar)
  | ((with_reducible show ∃ v w, [_, _] = [v, w] ∧ _); refine ⟨_, _, rfl, ?_⟩)
  | with_reducible refine Go.g_zip ?_
  | with_reducible refine Go.g_augS ?_
  | with_reducible refine Go.g_lc ?_
  | with_reducible refine Go.g_nil ?_
  | with_reducible refine Go.g_cb ?_
  | with_reducible refine Go.g_call ?_
  | with_reducible refine Go.g_ret ?_
  | with_reducible refine Go.g_next ?_
  | with_reducible refine Go.g_drop ?_
  | with_reducible refine Go.g_un ?_
  | with_reducible refine Go.g_test ?_
  | with_reducible refine Go.g_tB ?_
  | with_reducible refine Go.g_ifs ?_
  | with_reducible refine Go.g_if ?_
  | with_reducible refine Go.g_and ?_
  | with_reducible refine Go.g_or ?_
  | with_reducible refine Go.g_not ?_
  | with_reducible refine Go.g_sl ?_
  | with_reducible refine Go.g_nopart ?_
  | with_reducible refine Go.g_part ?_
  | ((with_reducible show ∃ k, V.bl _ = V.bl k ∧ _); refine ⟨_, rfl, ?_⟩)
  | ((with_reducible show ∃ k, V.int _ = V.int k ∧ _); refine ⟨_, rfl, ?_⟩)
  | with_reducible refine Go.g_bm ?_
  | with_reducible refine Go.g_yes ?_
  | ((with_reducible show rI0 _ _ _ _ _); refine ⟨_, _, rfl, rfl, ?_⟩)
  | ((with_reducible show rI _ _ _ _ _ _); refine ⟨_, _, rfl, rfl, ?_, ?_⟩; (focus walk_at "ci"))
  | ((with_reducible show rU _ _ _ _); refine ⟨_, rfl, ?_⟩)
  | ((with_reducible show rEq _ _ _ _); refine ⟨rfl, ?_⟩)
  | ((with_reducible show rNe _ _ _ _); refine ⟨rfl, ?_⟩)
  | ((with_reducible show rIxL _ _ _ _ _); refine Go.g_ixL (by walk_at "sq") (by rfl) ?_)
  | ((with_reducible show rIxT _ _ _ _ _); refine Go.g_ixT (by walk_at "sq") (by rfl) ?_)
  | ((with_reducible show rSetL _ _ _ _ _); refine Go.g_setL (by walk_at "hp") (by rfl) ?_)
  | ((with_reducible show ∃ p ys, [V.ref _] = [V.ref p] ∧ (SqL _ _ _ _ ∨ SqT _ _ _ _) ∧ _); refine ⟨_, _, rfl, .inl (by walk_at "sq"), ?_⟩)
  | ((with_reducible show (∃ i, [V.int _] = [V.int i] ∧ _) ∨ _); refine .inl ⟨_, rfl, ?_⟩)
  | ((with_reducible show ∃ (c : Nat) (z : Str), V.str _ = V.str ⟨#[c]⟩ ∧ V.str _ = V.str z ∧ _); refine ⟨_, _, rfl, rfl, ?_⟩)
  | ((with_reducible show ∃ x : Str, [V.str _] = [V.str x] ∧ Str.length x = 1 ∧ _); refine ⟨_, rfl, rfl, ?_⟩)
  | ((with_reducible show ∃ z : Str, [V.str _] = [V.str z] ∧ Str.length z ≤ sizeLine ∧ _); refine ⟨_, rfl, by assumption, ?_⟩)
  | ((with_reducible show rSlS _ _ _ _ _); refine ⟨_, rfl, by assumption, ?_⟩)
  | ((with_reducible show gTup _ _ _ _ _ _ _); refine Go.g_gtup (by walk_at "sq") (by rfl) ?_)
  | ((with_reducible show gCons _ _ _ _ _ _); refine ⟨_, _, rfl, ?_⟩)
  | ((with_reducible show gNil _ _ _ _); refine ⟨rfl, ?_⟩)
  | ((with_reducible show rLenS _ _ _ _); refine Go.g_lenL (by walk_at "sq") ?_)
  | ((with_reducible show rListOf _ _ _ _); refine Go.g_listL (by walk_at "sq") ?_)
  | ((with_reducible show wipe _ _ = wipe _ _ ∧ _); refine ⟨rfl, ?_⟩)
  | ((with_reducible show if true = true then _ else _); refine iteT ?_)
  | ((with_reducible show if false = true then _ else _); refine iteF ?_)
  | ((with_reducible show ∃ a b xs ys, [V.ref _, V.ref _] = [V.ref a, V.ref b] ∧ SqL _ _ a xs ∧ SqL _ _ b ys ∧ _); refine ⟨_, _, _, _, rfl, by walk_at "sq", by walk_at "sq", ?_⟩)
  | ((with_reducible show ∃ a xs, [V.ref _] = [V.ref a] ∧ SqL _ _ a xs ∧ _); refine ⟨_, _, rfl, by walk_at "sq", ?_⟩)
  | ((with_reducible show ∃ a, V.ref _ = V.ref a ∧ (∃ xs, SqL _ _ a xs) ∧ _); refine ⟨_, rfl, ⟨_, by walk_at "sq"⟩, ?_⟩)
  | ((with_reducible show ∃ a, V.ref _ = V.ref a ∧ (∃ xs, SqT _ _ a xs) ∧ _); refine ⟨_, rfl, ⟨_, by walk_at "sq"⟩, ?_⟩)
  | ((with_reducible show ∃ j : Int, [V.int _] = [V.int j] ∧ _ ≤ j ∧ j < _ ∧ _); refine ⟨_, rfl, by omega, by omega, ?_⟩)
  | ((with_reducible show ∃ i j : Int, [V.int _, V.int _] = [V.int i, V.int j] ∧ (_ ≤ i ∧ i < _ ∧ _ ≤ j ∧ j < _) ∧ _); refine ⟨_, _, rfl, ⟨by omega, by omega, by omega, by omega⟩, ?_⟩)
  | ((with_reducible show ∃ i j : Int, [V.int _, V.int _] = [V.int i, V.int j] ∧ _); refine ⟨_, _, rfl, ?_⟩)
  | ((with_reducible show ∃ i : Int, [V.int _] = [V.int i] ∧ _); refine ⟨_, rfl, ?_⟩)
  | ((with_reducible show _ ≤ sizeLine ∧ _); refine ⟨by first | decide | (simp only [List.length_cons, List.length_nil]; decide), ?_⟩))
local macro_rules | `(tactic| walk_at "g1") => `(tactic| first | walk_at "g0" | with_reducible refine Go.g_sub ?_)
local macro_rules | `(tactic| walk_at "g") => `(tactic| repeat walk_at "g1")
local macro_rules | `(tactic| walk_at "v") => `(tactic| repeat walk_at "g0")
local macro_rules | `(tactic| walk_at "if") => `(tactic| first
  | with_reducible refine @Go.g_itd _ _ _ _ ?_ ?_
  | with_reducible refine @Go.g_itnd _ _ _ _ ?_ ?_
  | with_reducible refine Go.g_ite ?_ ?_)

section
variable {P : Program} {w : World} {K : PySem.W.Frag} {mg : Str → Option Value} {base : Heap}
/-! what is wrong with parts, first -/
inductive Fau where
  | ok | len | part (k : Nat) | sum | pair (i j : Nat)
def Fau.py : Fau → PyData
  | .ok => .none
  | .len => .tuple [.str "length"]
  | .part k => .tuple [.str "part", .int k]
  | .sum => .tuple [.str "sum"]
  | .pair i j => .tuple [.str "pair", .int i, .int j]
def Fau.at (H : Hp) (v : V) : Fau → Prop
  | .ok => v = .non
  | .len => ∃ t, v = .ref t ∧ H t = some (.tup [.str "length"])
  | .part k => ∃ t, v = .ref t ∧ H t = some (.tup [.str "part", .int k])
  | .sum => ∃ t, v = .ref t ∧ H t = some (.tup [.str "sum"])
  | .pair i j => ∃ t, v = .ref t ∧ H t = some (.tup [.str "pair", .int i, .int j])
theorem Fau.same {H H1 : Hp} (s : Same H H1) {v : V} : ∀ {f : Fau}, f.at H v → f.at H1 v
  | .ok, h => h
  | .len, ⟨t, e, h⟩ => ⟨t, e, s _ _ h⟩
  | .part _, ⟨t, e, h⟩ => ⟨t, e, s _ _ h⟩
  | .sum, ⟨t, e, h⟩ => ⟨t, e, s _ _ h⟩
  | .pair _ _, ⟨t, e, h⟩ => ⟨t, e, s _ _ h⟩
theorem Fau.dp {K : PySem.W.Frag} {H : Hp} {v : V} : ∀ {f : Fau}, f.at H v → Dp K H v f.py
  | .ok, h => by cases (show v = V.non from h); exact .non
  | .len, ⟨t, e, h⟩ => by subst e; exact .tup (SqT.of h) (.cons (.str _) .nil)
  | .part _, ⟨t, e, h⟩ => by subst e; exact .tup (SqT.of h) (.cons (.str _) (.cons (.int _) .nil))
  | .sum, ⟨t, e, h⟩ => by subst e; exact .tup (SqT.of h) (.cons (.str _) .nil)
  | .pair _ _, ⟨t, e, h⟩ => by subst e; exact .tup (SqT.of h) (.cons (.str _) (.cons (.int _) (.cons (.int _) .nil)))
theorem Fau.shaped : ∀ f : Fau, SeqAt.shaped f.py = true
  | .ok => rfl
  | .len => by decide +kernel
  | .part _ => by simp only [SeqAt.shaped, Fau.py, PyData.canLay0, PyData.canLayAll0, PyData.depth, PyData.depthAll]; decide +kernel
  | .sum => by decide +kernel
  | .pair _ _ => by simp only [SeqAt.shaped, Fau.py, PyData.canLay0, PyData.canLayAll0, PyData.depth, PyData.depthAll]; decide +kernel
theorem Fau.refl (f : Fau) : PyData.eqv f.py f.py = true := SeqAt.eqv_refl _ (SeqAt.canLay_of_shaped f.shaped)
/-- None or a tuple -/
theorem Fau.val {H : Hp} {v : V} : ∀ {f : Fau}, f.at H v → (f = .ok ∧ v = .non) ∨ (f ≠ .ok ∧ ∃ t, v = .ref t)
  | .ok, h => .inl ⟨rfl, h⟩
  | .len, ⟨t, e, h⟩ => .inr ⟨Fau.noConfusion, t, e⟩
  | .part _, ⟨t, e, h⟩ => .inr ⟨Fau.noConfusion, t, e⟩
  | .sum, ⟨t, e, h⟩ => .inr ⟨Fau.noConfusion, t, e⟩
  | .pair _ _, ⟨t, e, h⟩ => .inr ⟨Fau.noConfusion, t, e⟩
def shapeS (A : Int) (w p : List Int) : Fau :=
  if p.length = w.length then
    match (List.range p.length).find? fun k => decide (at0 p k < 0) with
    | some k => .part k
    | none => if p.sum = A then .ok else .sum
  else .len
def pairS (A : Int) (w p : List Int) : Fau :=
  match (List.range p.length).find? fun i => (List.range p.length).any (badPair A w p i) with
  | none => .ok
  | some i => match (List.range p.length).find? (badPair A w p i) with
    | none => .ok
    | some j => .pair i j
def faultS (A : Int) (w p : List Int) : Fau := match shapeS A w p with
  | .ok => pairS A w p
  | f => f
theorem find_at {n k : Nat} {p : Nat → Bool} (h : p k = true) (hk : k < n) (hb : ∀ j, j < k → p j = false) : (List.range n).find? p = some k := by
  rw [List.find?_range_eq_some]
  exact ⟨h, List.mem_range.mpr hk, fun j hj => by rw [hb j hj]; rfl⟩
theorem find_no {n : Nat} {p : Nat → Bool} (hb : ∀ j, j < n → p j = false) : (List.range n).find? p = none := by
  rw [List.find?_range_eq_none]
  exact fun j hj => by rw [hb j hj]; rfl
theorem any_no {n : Nat} {p : Nat → Bool} (hb : ∀ j, j < n → p j = false) : (List.range n).any p = false := by
  rw [List.any_eq_false]
  intro j hj
  rw [hb j (List.mem_range.mp hj)]; exact Bool.false_ne_true
theorem any_yes {n k : Nat} {p : Nat → Bool} (hk : k < n) (h : p k = true) : (List.range n).any p = true := List.any_eq_true.mpr ⟨k, List.mem_range.mpr hk, h⟩
theorem pairS_hit {A : Int} {w p : List Int} {i j : Nat} (hi : i < p.length) (hj : j < p.length) (h : badPair A w p i j = true) (h1 : ∀ i', i' < i → ∀ j', j' < p.length → badPair A w p i' j' = false) (h2 : ∀ j', j' < j → badPair A w p i j' = false) :
    pairS A w p = .pair i j := by
  unfold pairS
  rw [find_at (k := i) (any_yes hj h) hi fun i' hi' => any_no (h1 i' hi')]
  dsimp only
  rw [find_at h hj h2]
theorem pairS_none {A : Int} {w p : List Int} (h : ∀ i, i < p.length → ∀ j, j < p.length → badPair A w p i j = false) : pairS A w p = .ok := by
  unfold pairS
  rw [find_no fun i hi => any_no (h i hi)]
theorem faultS_bad {A : Int} {w p : List Int} (h : shapeS A w p ≠ .ok) : faultS A w p = shapeS A w p := by
  unfold faultS
  split
  · rename_i e; exact absurd e h
  · rfl
theorem faultS_pair {A : Int} {w p : List Int} (h : shapeS A w p = .ok) : faultS A w p = pairS A w p := by
  unfold faultS; rw [h]
theorem shapeS_ok {A : Int} {w p : List Int} : shapeS A w p = .ok ↔ p.length = w.length ∧ (∀ k, k < p.length → 0 ≤ at0 p k) ∧ p.sum = A := by
  unfold shapeS
  by_cases h1 : p.length = w.length
  · rw [if_pos h1]
    by_cases h2 : ∃ k, k < p.length ∧ at0 p k < 0
    · obtain ⟨k, hk, hm⟩ := least h2
      rw [find_at (k := k) (decide_eq_true hk.2) hk.1 fun j hj => decide_eq_false fun z => hm j hj ⟨by omega, z⟩]
      exact ⟨fun z => (nomatch z), fun z => by have := z.2.1 k hk.1; omega⟩
    · have h2 : ∀ k, k < p.length → 0 ≤ at0 p k := fun k hk => Classical.byContradiction fun z => h2 ⟨k, hk, by omega⟩
      rw [find_no fun j hj => decide_eq_false (by have := h2 j hj; omega)]
      dsimp only
      by_cases h3 : p.sum = A
      · rw [if_pos h3]; exact ⟨fun _ => ⟨h1, h2, h3⟩, fun _ => rfl⟩
      · rw [if_neg h3]; exact ⟨fun z => (nomatch z), fun z => absurd z.2.2 h3⟩
  · rw [if_neg h1]; exact ⟨fun z => (nomatch z), fun z => absurd z.1 h1⟩
theorem faultS_ok {A : Int} {w p : List Int} : faultS A w p = .ok ↔ Fair A w p := by
  by_cases h : shapeS A w p = .ok
  · obtain ⟨h1, h2, h3⟩ := shapeS_ok.mp h
    rw [faultS_pair h]
    by_cases hp : ∃ i, i < p.length ∧ ∃ j, j < p.length ∧ badPair A w p i j = true
    · obtain ⟨i, ⟨hi, hj⟩, hm⟩ := least hp
      obtain ⟨j, ⟨hj, hb⟩, hmj⟩ := least hj
      have no : ∀ i' j', i' < i → j' < p.length → badPair A w p i' j' = false := fun i' j' a b => by
        cases e : badPair A w p i' j' with
        | false => rfl
        | true => exact absurd ⟨by omega, j', b, e⟩ (hm i' a)
      have no2 : ∀ j', j' < j → badPair A w p i j' = false := fun j' a => by
        cases e : badPair A w p i j' with
        | false => rfl
        | true => exact absurd ⟨by omega, e⟩ (hmj j' a)
      rw [pairS_hit hi hj hb (fun i' a j' b => no i' j' a b) no2]
      exact ⟨fun z => (nomatch z), fun F => by have := F.pair i j hi hj; rw [hb] at this; cases this⟩
    · have no : ∀ i, i < p.length → ∀ j, j < p.length → badPair A w p i j = false := fun i a j b => by
        cases e : badPair A w p i j with
        | false => rfl
        | true => exact absurd ⟨i, a, j, b, e⟩ hp
      rw [pairS_none no]
      exact ⟨fun _ => ⟨h1, h2, h3, fun i j a b => no i a j b⟩, fun _ => rfl⟩
  · rw [faultS_bad h]
    exact ⟨fun z => absurd z h, fun F => absurd (shapeS_ok.mpr ⟨F.len, F.pos, F.sum⟩) h⟩
def spS (K : PySem.W.Frag) (f : Int → List Int → List Int → Fau) : Sp := fun vs H Q _ => ∃ (A : Int) (wa pa : Addr) (w p : List Int), vs = [.int A, .ref wa, .ref pa] ∧ SqL K H wa (w.map V.int) ∧ SqL K H pa (p.map V.int) ∧ WOk A w ∧ p.length ≤ 100 ∧
  ∀ (H' : Hp) (v : V), Same H H' → (f A w p).at H' v → Q v H'
def sp_shape_fault (K : PySem.W.Frag) : Sp := spS K shapeS
theorem ok_shape_fault (T : Txt K mg) : FnOk P w K mg base CX0 1 T.a_shape_fault T.fd_shape_fault ["amount", "weights", "parts"] (sp_shape_fault K) := by
  refine T.F_shape_fault.ok sc_shape_fault (fun vs H Q E h => ?_) (fun cdv A outer s H vs Q E hr h => ?_)
  · obtain ⟨A, wa, pa, w, p, rfl, _⟩ := h; rfl
  · obtain ⟨A, wa, pa, w, p, rfl, hw, hp, lw, lp, q⟩ := h
    have lwm : (w.map V.int).length = w.length := List.length_map ..
    have lpm : (p.map V.int).length = p.length := List.length_map ..
    refine ⟨_, pss_cons (ps_if (pt_cmpR op_ne (pe_callB call_lenS (by rfl) T.n_len PySem.boot_len (pa_cons (pv 2) pa_nil)) (pe_callB call_lenS (by rfl) T.n_len PySem.boot_len (pa_cons (pv 1) pa_nil)) (nomark _))
        (pss_one (ps_ret (pe_tup (pa_cons pe_str pa_nil))))
        (pss_nil))
      (pss_cons (ps_for PassesOwn.never rfl (pi_range1 (by rfl) T.n_range (pa_cons (pe_callB call_lenS (by rfl) T.n_len PySem.boot_len (pa_cons (pv 2) pa_nil)) pa_nil)) (pg_name (i := 3) sc_shape_fault.nd rfl (.inl rfl))
        (pss_one (ps_if (pt_cmpR op_lt (pe_ix ix_list (pv 2) (pv 3) (fun _ _ => rfl)) pe_int (nomark _))
          (pss_one (ps_ret (pe_tup (pa_cons pe_str (pa_cons (pv 3) pa_nil)))))
          (pss_nil))))
      (pss_cons (ps_if (pt_cmpR op_ne (pe_callB (cr_sum rfl) (by rfl) T.n_sum (by decide +kernel) (pa_cons (pv 2) pa_nil)) (pv 0) (nomark _))
        (pss_one (ps_ret (pe_tup (pa_cons pe_str pa_nil))))
        (pss_nil))
      (pss_one (ps_ret pe_non)))), ?_⟩
    unfold shapeS at q
    walk_at "g"
    walk_at "if" <;> intro e
    · walk_at "g"
      intro t nt
      rw [if_neg (fun z => e (by rw [lwm, lpm, z]))] at q
      exact q _ _ (Go.Same.new (Same.refl _) nt) ⟨t, rfl, upd_same⟩
    have el : p.length = w.length := by
      have := V.int.inj e
      omega
    rw [if_pos el] at q
    walk_at "g"
    refine forW_range (fun i σ' H' => (∃ y3, σ' = [some (.int A), some (.ref wa), some (.ref pa), y3]) ∧ H = H' ∧ ∀ j, j < i → at0 p j ≥ 0)
      ⟨⟨_, rfl⟩, rfl, fun j h => by omega⟩ ?_ ?_
    · rintro i σ' _ hi ⟨⟨y3, rfl⟩, rfl, hj⟩
      have hi : i < p.length := by omega
      walk_at "g"
      refine g_ixL (by walk_at "sq") (at0_at (k := i) (by omega) (by omega)) ?_
      walk_at "g"
      walk_at "if" <;> intro e
      · walk_at "g"
        intro t nt
        rw [find_at (p := fun k => decide (at0 p k < 0)) (k := i) (decide_eq_true e) hi fun j h => decide_eq_false (by have := hj j h; omega)] at q
        refine q _ _ (Go.Same.new (Same.refl _) nt) ⟨t, rfl, ?_⟩
        rw [upd_same, Int.zero_add]
      · walk_at "g"
        refine ⟨⟨_, rfl⟩, rfl, fun j h => ?_⟩
        by_cases ej : j = i
        · subst ej; omega
        · exact hj j (by omega)
    · rintro σ' _ ⟨⟨y3, rfl⟩, rfl, hj⟩
      rw [find_no fun j h => decide_eq_false (by have := hj j (by omega); omega)] at q
      walk_at "g"
      refine ⟨pa, p, rfl, hp, ?_⟩
      walk_at "g"
      walk_at "if" <;> intro e
      · walk_at "g"
        intro t nt
        dsimp only at q
        rw [if_neg (fun z => e (by rw [z]))] at q
        exact q _ _ (Go.Same.new (Same.refl _) nt) ⟨t, rfl, upd_same⟩
      · walk_at "g"
        dsimp only at q
        rw [if_pos (V.int.inj e)] at q
        exact q _ _ (Same.refl _) rfl
def sp__law_shape (K : PySem.W.Frag) : Sp := spS K shapeS
theorem ok__law_shape (T : Txt K mg) : FnOk P w K mg base CX0 1 T.a__law_shape T.fd__law_shape ["amount", "weights", "parts"] (sp__law_shape K) := by
  refine T.F__law_shape.ok sc__law_shape (fun vs H Q E h => ?_) (fun cdv A outer s H vs Q E hr h => ?_)
  · obtain ⟨A, wa, pa, w, p, rfl, _⟩ := h; rfl
  · obtain ⟨A, wa, pa, w, p, rfl, hw, hp, lw, lp, q⟩ := h
    have lwm : (w.map V.int).length = w.length := List.length_map ..
    have lpm : (p.map V.int).length = p.length := List.length_map ..
    refine ⟨_, pss_cons (ps_if (pt_cmpR op_ne (pe_callB call_lenS (by rfl) T.n_len PySem.boot_len (pa_cons (pv 2) pa_nil)) (pe_callB call_lenS (by rfl) T.n_len PySem.boot_len (pa_cons (pv 1) pa_nil)) (nomark _))
        (pss_one (ps_ret (pe_tup (pa_cons pe_str pa_nil))))
        (pss_nil))
      (pss_cons (ps_for PassesOwn.never rfl (pi_range1 (by rfl) T.n_range (pa_cons (pe_callB call_lenS (by rfl) T.n_len PySem.boot_len (pa_cons (pv 2) pa_nil)) pa_nil)) (pg_name (i := 3) sc__law_shape.nd rfl (.inl rfl))
        (pss_one (ps_if (pt_cmpR op_lt (pe_ix ix_list (pv 2) (pv 3) (fun _ _ => rfl)) pe_int (nomark _))
          (pss_one (ps_ret (pe_tup (pa_cons pe_str (pa_cons (pv 3) pa_nil)))))
          (pss_nil))))
      (pss_one (ps_ret (pe_ifExp (pt_cmpR op_ne (pe_callB (cr_sum rfl) (by rfl) T.n_sum (by decide +kernel) (pa_cons (pv 2) pa_nil)) (pv 0) (nomark _)) (pe_tup (pa_cons pe_str pa_nil)) pe_non)))), ?_⟩
    unfold shapeS at q
    walk_at "g"
    walk_at "if" <;> intro e
    · walk_at "g"
      intro t nt
      rw [if_neg (fun z => e (by rw [lwm, lpm, z]))] at q
      exact q _ _ (Go.Same.new (Same.refl _) nt) ⟨t, rfl, upd_same⟩
    have el : p.length = w.length := by
      have := V.int.inj e
      omega
    rw [if_pos el] at q
    walk_at "g"
    refine forW_range (fun i σ' H' => (∃ y3, σ' = [some (.int A), some (.ref wa), some (.ref pa), y3]) ∧ H = H' ∧ ∀ j, j < i → at0 p j ≥ 0)
      ⟨⟨_, rfl⟩, rfl, fun j h => by omega⟩ ?_ ?_
    · rintro i σ' _ hi ⟨⟨y3, rfl⟩, rfl, hj⟩
      have hi : i < p.length := by omega
      walk_at "g"
      refine g_ixL (by walk_at "sq") (at0_at (k := i) (by omega) (by omega)) ?_
      walk_at "g"
      walk_at "if" <;> intro e
      · walk_at "g"
        intro t nt
        rw [find_at (p := fun k => decide (at0 p k < 0)) (k := i) (decide_eq_true e) hi fun j h => decide_eq_false (by have := hj j h; omega)] at q
        refine q _ _ (Go.Same.new (Same.refl _) nt) ⟨t, rfl, ?_⟩
        rw [upd_same, Int.zero_add]
      · walk_at "g"
        refine ⟨⟨_, rfl⟩, rfl, fun j h => ?_⟩
        by_cases ej : j = i
        · subst ej; omega
        · exact hj j (by omega)
    · rintro σ' _ ⟨⟨y3, rfl⟩, rfl, hj⟩
      rw [find_no fun j h => decide_eq_false (by have := hj j (by omega); omega)] at q
      walk_at "g"
      refine ⟨pa, p, rfl, hp, ?_⟩
      walk_at "g"
      walk_at "if" <;> intro e
      · walk_at "g"
        intro t nt
        dsimp only at q
        rw [if_neg (fun z => e (by rw [z]))] at q
        exact q _ _ (Go.Same.new (Same.refl _) nt) ⟨t, rfl, upd_same⟩
      · walk_at "g"
        dsimp only at q
        rw [if_pos (V.int.inj e)] at q
        exact q _ _ (Same.refl _) rfl

end
end K32

namespace K32
open PySem PySem.Spec PyProof.Rows L2 Go
set_option maxHeartbeats 8000000
local macro_rules | `(tactic| walk_at "ne") => `(tactic| first
  | assumption
  | (refine Ne.symm ?_; assumption)
  | exact (Go.free_upd (by assumption)).2
  | exact (Go.free_upd (by assumption)).2.symm
  | exact Go.ne_fr (by assumption) (by walk_at "hp")
  | exact (Go.ne_fr (by assumption) (by walk_at "hp")).symm)
local macro_rules | `(tactic| walk_at "fr") => `(tactic| first
  | assumption
  | exact (Go.free_upd (by assumption)).1
  | exact (Go.free_upd (Go.free_upd (by assumption)).1).1
  | exact Same.free (by assumption) (by walk_at "fr"))
local macro_rules | `(tactic| walk_at "hp") => `(tactic| first
  | assumption
  | with_reducible exact upd_same
  | ((with_reducible show upd _ _ _ _ = _); exact Go.at_upd (by walk_at "ne") (by walk_at "hp"))
  | exact (by assumption : Same _ _) _ _ (by walk_at "hp")
  | exact (by assumption : Go.Kp _ _ _) _ _ (by walk_at "ne") (by walk_at "hp")
  | exact (by assumption : Go.Kp2 _ _ _ _) _ _ (by walk_at "ne") (by walk_at "ne") (by walk_at "hp"))
local macro_rules | `(tactic| walk_at "sq") => `(tactic| first
  | assumption
  | ((with_reducible show SqL _ (upd _ _ _) _ _); exact (by assumption : ∀ o, SqL _ (upd _ _ o) _ _) _)
  | ((with_reducible show SqL _ _ _ _); exact SqL.of (by walk_at "hp"))
  | ((with_reducible show SqT _ _ _ _); exact SqT.of (by walk_at "hp"))
  | ((with_reducible show SqL _ (upd _ _ _) _ _); exact Go.sqL_new (by walk_at "fr") (by walk_at "sq"))
  | ((with_reducible show SqT _ (upd _ _ _) _ _); exact Go.sqT_new (by walk_at "fr") (by walk_at "sq"))
  | ((with_reducible show SqL _ (upd _ _ _) _ _); exact Go.sqL_ne (by walk_at "ne") (by walk_at "sq"))
  | exact Go.sqL_same (by assumption) (by walk_at "sq")
  | exact Go.sqT_same (by assumption) (by walk_at "sq")
  | exact Go.sqL_kp (by assumption) (by walk_at "ne") (by walk_at "sq")
  | exact Go.sqT_kp (by assumption) (by walk_at "ne") (by walk_at "sq"))
local macro_rules | `(tactic| walk_at "ci") => `(tactic| first
  | exact .inr ⟨by decide, by decide⟩
  | exact .inl ⟨by decide, by decide⟩
  | exact ⟨by decide, by decide, by decide⟩
  | decide
  | omega
  | exact ⟨by omega, by omega⟩
  | exact .inl ⟨by omega, by omega⟩
  | exact .inr ⟨by omega, by omega⟩)
local macro_rules | `(tactic| walk_at "g0") => `(tactic| first
  | with_reducible refine Go.g_seq ?_
  | ((with_reducible show tVar _ _ _ _); refine ⟨_, rfl, ?_⟩)
  | with_reducible refine Go.g_c ?_
  | with_reducible refine Go.g_op ?_
  | with_reducible refine Go.g_asg ?_
  | with_reducible refine Go.g_name ?_
  | with_reducible refine Go.g_cons ?_
  | with_reducible refine Go.g_lst ?_
  | with_reducible refine Go.g_tup ?_
  | with_reducible refine Go.g_for ?_
  | with_reducible refine Go.g_rng1 ?_
  | with_reducible refine Go.g_rng2 ?_
  | with_reducible refine Go.g_rng3 ?_
  | with_reducible refine Go.g_list ?_
  | with_reducible refine Go.g_itup ?_
  | with_reducible refine Go.g_enum ?_
  | ((with_reducible show tPar _ _ _ _ _ _); unfold tPar)
  | ((with_reducible show ∃ v w, [_, _] = [v, w] ∧ _); refine ⟨_, _, rfl, ?_⟩)
  | with_reducible refine Go.g_zip ?_
  | with_reducible refine Go.g_augS ?_
  | with_reducible refine Go.g_lc ?_
  | with_reducible refine Go.g_nil ?_
  | with_reducible refine Go.g_cb ?_
  | with_reducible refine Go.g_call ?_
  | with_reducible refine Go.g_ret ?_
  | with_reducible refine Go.g_next ?_
  | with_reducible refine Go.g_drop ?_
  | with_reducible refine Go.g_un ?_
  | with_reducible refine Go.g_test ?_
  | with_reducible refine Go.g_tB ?_
  | with_reducible refine Go.g_ifs ?_
  | with_reducible refine Go.g_if ?_
  | with_reducible refine Go.g_and ?_
  | with_reducible refine Go.g_or ?_
  | with_reducible refine Go.g_not ?_
  | with_reducible refine Go.g_sl ?_
  | with_reducible refine Go.g_nopart ?_
  | with_reducible refine Go.g_part ?_
  | ((with_reducible show ∃ k, V.bl _ = V.bl k ∧ _); refine ⟨_, rfl, ?_⟩)
  | ((with_reducible show ∃ k, V.int _ = V.int k ∧ _); refine ⟨_, rfl, ?_⟩)
  | with_reducible refine Go.g_bm ?_
  | with_reducible refine Go.g_yes ?_
  | ((with_reducible show rI0 _ _ _ _ _); refine ⟨_, _, rfl, rfl, ?_⟩)
  | ((with_reducible show rI _ _ _ _ _ _); refine ⟨_, _, rfl, rfl, ?_, ?_⟩; (focus walk_at "ci"))
  | ((with_reducible show rU _ _ _ _); refine ⟨_, rfl, ?_⟩)
  | ((with_reducible show rEq _ _ _ _); refine ⟨rfl, ?_⟩)
  | ((with_reducible show rNe _ _ _ _); refine ⟨rfl, ?_⟩)
  | ((with_reducible show rIxL _ _ _ _ _); refine Go.g_ixL (by walk_at "sq") (by rfl) ?_)
  | ((with_reducible show rIxT _ _ _ _ _); refine Go.g_ixT (by walk_at "sq") (by rfl) ?_)
  | ((with_reducible show rSetL _ _ _ _ _); refine Go.g_setL (by walk_at "hp") (by rfl) ?_)
  | ((with_reducible show ∃ p ys, [V.ref _] = [V.ref p] ∧ (SqL _ _ _ _ ∨ SqT _ _ _ _) ∧ _); refine ⟨_, _, rfl, .inl (by walk_at "sq"), ?_⟩)
  | ((with_reducible show (∃ i, [V.int _] = [V.int i] ∧ _) ∨ _); refine .inl ⟨_, rfl, ?_⟩)
  | ((with_reducible show ∃ (c : Nat) (z : Str), V.str _ = V.str ⟨#[c]⟩ ∧ V.str _ = V.str z ∧ _); refine ⟨_, _, rfl, rfl, ?_⟩)
  | ((with_reducible show ∃ x : Str, [V.str _] = [V.str x] ∧ Str.length x = 1 ∧ _); refine ⟨_, rfl, rfl, ?_⟩)
  | ((with_reducible show ∃ z : Str, [V.str _] = [V.str z] ∧ Str.length z ≤ sizeLine ∧ _); refine ⟨_, rfl, by assumption, ?_⟩)
  | ((with_reducible show rSlS _ _ _ _ _); refine ⟨_, rfl, by assumption, ?_⟩)
  | ((with_reducible show gTup _ _ _ _ _ _ _); refine Go.g_gtup (by walk_at "sq") (by rfl) ?_)
  | ((with_reducible show gCons _ _ _ _ _ _); refine ⟨_, _, rfl, ?_⟩)
  | ((with_reducible show gNil _ _ _ _); refine ⟨rfl, ?_⟩)
  | ((with_reducible show rLenS _ _ _ _); refine Go.g_lenL (by walk_at "sq") ?_)
  | ((with_reducible show rListOf _ _ _ _); refine Go.g_listL (by walk_at "sq") ?_)
  | ((with_reducible show wipe _ _ = wipe _ _ ∧ _); refine ⟨rfl, ?_⟩)
  | ((with_reducible show if true = true then _ else _); refine iteT ?_)
  | ((with_reducible show if false = true then _ else _); refine iteF ?_)
  | ((with_reducible show ∃ a b xs ys, [V.ref _, V.ref _] = [V.ref a, V.ref b] ∧ SqL _ _ a xs ∧ SqL _ _ b ys ∧ _); refine ⟨_, _, _, _, rfl, by walk_at "sq", by walk_at "sq", ?_⟩)
  | ((with_reducible show ∃ a xs, [V.ref _] = [V.ref a] ∧ SqL _ _ a xs ∧ _); refine ⟨_, _, rfl, by walk_at "sq", ?_⟩)
  | ((with_reducible show ∃ a, V.ref _ = V.ref a ∧ (∃ xs, SqL _ _ a xs) ∧ _); refine ⟨_, rfl, ⟨_, by walk_at "sq"⟩, ?_⟩)
  | ((with_reducible show ∃ a, V.ref _ = V.ref a ∧ (∃ xs, SqT _ _ a xs) ∧ _); refine ⟨_, rfl, ⟨_, by walk_at "sq"⟩, ?_⟩)
  | ((with_reducible show ∃ j : Int, [V.int _] = [V.int j] ∧ _ ≤ j ∧ j < _ ∧ _); refine ⟨_, rfl, by omega, by omega, ?_⟩)
  | ((with_reducible show ∃ i j : Int, [V.int _, V.int _] = [V.int i, V.int j] ∧ (_ ≤ i ∧ i < _ ∧ _ ≤ j ∧ j < _) ∧ _); refine ⟨_, _, rfl, ⟨by omega, by omega, by omega, by omega⟩, ?_⟩)
  | ((with_reducible show ∃ i j : Int, [V.int _, V.int _] = [V.int i, V.int j] ∧ _); refine ⟨_, _, rfl, ?_⟩)
  | ((with_reducible show ∃ i : Int, [V.int _] = [V.int i] ∧ _); refine ⟨_, rfl, ?_⟩)
  | ((with_reducible show _ ≤ sizeLine ∧ _); refine ⟨by first | decide | (simp only [List.length_cons, List.length_nil]; decide), ?_⟩))
local macro_rules | `(tactic| walk_at "g1") => `(tactic| first | walk_at "g0" | with_reducible refine Go.g_sub ?_)
local macro_rules | `(tactic| walk_at "g") => `(tactic| repeat walk_at "g1")
local macro_rules | `(tactic| walk_at "v") => `(tactic| repeat walk_at "g0")
local macro_rules | `(tactic| walk_at "if") => `(tactic| first
  | with_reducible refine @Go.g_itd _ _ _ _ ?_ ?_
  | with_reducible refine @Go.g_itnd _ _ _ _ ?_ ?_
  | with_reducible refine Go.g_ite ?_ ?_)

section
variable {P : Program} {w : World} {K : PySem.W.Frag} {mg : Str → Option Value} {base : Heap}
def spN (K : PySem.W.Frag) : Sp := fun vs H Q _ => ∃ (pa wa : Addr) (A : Int) (p w : List Int), vs = [.ref pa, .ref wa] ∧ SqL K H pa (p.map V.int) ∧ SqL K H wa (w.map V.int) ∧ p.length = w.length ∧ WOk A w ∧
  ∀ b : Nat, BestTo w p w.length b → Q (.int b) H
def sp_next_part (K : PySem.W.Frag) : Sp := spN K
theorem ok_next_part (T : Txt K mg) : FnOk P w K mg base CX0 1 T.a_next_part T.fd_next_part ["parts", "weights"] (sp_next_part K) := by
  refine T.F_next_part.ok sc_next_part (fun vs H Q E h => ?_) (fun cdv A outer s H vs Q E hr h => ?_)
  · obtain ⟨pa, wa, A, p, w, rfl, _⟩ := h; rfl
  · obtain ⟨pa, wa, A, p, w, rfl, hp, hw, el, W, q⟩ := h
    have l1 := W.l1
    have l2 := W.l2
    have lwm : (w.map V.int).length = w.length := List.length_map ..
    have lpm : (p.map V.int).length = p.length := List.length_map ..
    refine ⟨_, pss_cons (ps_set (i := 2) sc_next_part.nd rfl (.inl rfl) pe_int)
      (pss_cons (ps_for PassesOwn.never rfl (pi_range2 (by rfl) T.n_range (pa_cons pe_int (pa_cons (pe_callB call_lenS (by rfl) T.n_len PySem.boot_len (pa_cons (pv 0) pa_nil)) pa_nil))) (pg_name (i := 3) sc_next_part.nd rfl (.inl rfl))
        (pss_one (ps_if (pt_cmpR op_lt (pe_op op_mul (pe_op op_add (pe_op op_mul pe_int (pe_ix ix_list (pv 0) (pv 3) (fun _ _ => rfl))) pe_int) (pe_ix ix_list (pv 1) (pv 2) (fun _ _ => rfl))) (pe_op op_mul (pe_op op_add (pe_op op_mul pe_int (pe_ix ix_list (pv 0) (pv 2) (fun _ _ => rfl))) pe_int) (pe_ix ix_list (pv 1) (pv 3) (fun _ _ => rfl))) (nomark _))
          (pss_one (ps_set (i := 2) sc_next_part.nd rfl (.inl rfl) (pv 3)))
          (pss_nil))))
      (pss_one (ps_ret (pv 2)))), ?_⟩
    walk_at "g"
    refine forW_range (fun i σ' H' => ∃ (b : Nat) (y3 : Option V), σ' = [some (.ref pa), some (.ref wa), some (.int (b : Int)), y3] ∧ H = H' ∧ BestTo w p (i + 1) b)
      ⟨0, _, rfl, rfl, .start w p⟩ ?_ ?_
    · rintro i σ' _ hi ⟨b, y3, rfl, rfl, B⟩
      have hi : i + 1 < w.length := by omega
      have hb : b < w.length := by have := B.lt; omega
      have wb1 := W.lo b hb
      have wb2 := W.hi b hb
      have wi1 := W.lo (i + 1) hi
      have wi2 := W.hi (i + 1) hi
      walk_at "g"
      refine g_ixL (by walk_at "sq") (at0_at (k := i + 1) (by omega) (by omega)) ?_
      walk_at "g"
      refine g_ixL (by walk_at "sq") (at0_at (k := b) rfl (by omega)) ?_
      walk_at "g"
      refine g_ixL (by walk_at "sq") (at0_at (k := b) rfl (by omega)) ?_
      walk_at "g"
      refine g_ixL (by walk_at "sq") (at0_at (k := i + 1) (by omega) (by omega)) ?_
      walk_at "g"
      walk_at "if" <;> intro e
      · walk_at "g"
        exact ⟨i + 1, _, by rw [show (1 : Int) + (i : Nat) = ((i + 1 : Nat) : Int) by omega]; rfl, rfl, B.new W.lo hi e⟩
      · walk_at "g"
        exact ⟨b, _, rfl, rfl, B.keep e⟩
    · rintro σ' _ ⟨b, y3, rfl, rfl, B⟩
      walk_at "g"
      have e : ((p.map V.int).length - 1 : Int).toNat + 1 = w.length := by omega
      rw [e] at B
      exact q b B
def sp__law_next (K : PySem.W.Frag) : Sp := spN K
theorem ok__law_next (T : Txt K mg) : FnOk P w K mg base CX0 1 T.a__law_next T.fd__law_next ["parts", "weights"] (sp__law_next K) := by
  refine T.F__law_next.ok sc__law_next (fun vs H Q E h => ?_) (fun cdv A outer s H vs Q E hr h => ?_)
  · obtain ⟨pa, wa, A, p, w, rfl, _⟩ := h; rfl
  · obtain ⟨pa, wa, A, p, w, rfl, hp, hw, el, W, q⟩ := h
    have l1 := W.l1
    have l2 := W.l2
    have lwm : (w.map V.int).length = w.length := List.length_map ..
    have lpm : (p.map V.int).length = p.length := List.length_map ..
    refine ⟨_, pss_cons (ps_set (i := 2) sc__law_next.nd rfl (.inl rfl) pe_int)
      (pss_cons (ps_for PassesOwn.never rfl (pi_range1 (by rfl) T.n_range (pa_cons (pe_callB call_lenS (by rfl) T.n_len PySem.boot_len (pa_cons (pv 0) pa_nil)) pa_nil)) (pg_name (i := 3) sc__law_next.nd rfl (.inl rfl))
        (pss_one (ps_if (pt_cmpR op_lt (pe_op op_mul (pe_op op_add (pe_op op_mul pe_int (pe_ix ix_list (pv 0) (pv 3) (fun _ _ => rfl))) pe_int) (pe_ix ix_list (pv 1) (pv 2) (fun _ _ => rfl))) (pe_op op_mul (pe_op op_add (pe_op op_mul pe_int (pe_ix ix_list (pv 0) (pv 2) (fun _ _ => rfl))) pe_int) (pe_ix ix_list (pv 1) (pv 3) (fun _ _ => rfl))) (nomark _))
          (pss_one (ps_set (i := 2) sc__law_next.nd rfl (.inl rfl) (pv 3)))
          (pss_nil))))
      (pss_one (ps_ret (pv 2)))), ?_⟩
    walk_at "g"
    refine forW_range (fun i σ' H' => ∃ (b : Nat) (y3 : Option V), σ' = [some (.ref pa), some (.ref wa), some (.int (b : Int)), y3] ∧ H = H' ∧ BestTo w p i b)
      ⟨0, _, rfl, rfl, .zero w p⟩ ?_ ?_
    · rintro i σ' _ hi ⟨b, y3, rfl, rfl, B⟩
      have hi : i < w.length := by omega
      have hb : b < w.length := by have := B.lt; omega
      have wb1 := W.lo b hb
      have wb2 := W.hi b hb
      have wi1 := W.lo i hi
      have wi2 := W.hi i hi
      walk_at "g"
      refine g_ixL (by walk_at "sq") (at0_at (k := i) (by omega) (by omega)) ?_
      walk_at "g"
      refine g_ixL (by walk_at "sq") (at0_at (k := b) rfl (by omega)) ?_
      walk_at "g"
      refine g_ixL (by walk_at "sq") (at0_at (k := b) rfl (by omega)) ?_
      walk_at "g"
      refine g_ixL (by walk_at "sq") (at0_at (k := i) (by omega) (by omega)) ?_
      walk_at "g"
      walk_at "if" <;> intro e
      · walk_at "g"
        exact ⟨i, _, by rw [Int.zero_add]; rfl, rfl, B.new W.lo hi e⟩
      · walk_at "g"
        exact ⟨b, _, rfl, rfl, B.keep e⟩
    · rintro σ' _ ⟨b, y3, rfl, rfl, B⟩
      walk_at "g"
      have e : ((p.map V.int).length : Int).toNat = w.length := by omega
      rw [e] at B
      exact q b B

end
end K32

namespace K32
open PySem PySem.Spec PyProof.Rows L2 Go
set_option maxHeartbeats 8000000
local macro_rules | `(tactic| walk_at "ne") => `(tactic| first
  | assumption
  | (refine Ne.symm ?_; assumption)
  | exact (Go.free_upd (by assumption)).2
  | exact (Go.free_upd (by assumption)).2.symm
  | exact Go.ne_fr (by assumption) (by walk_at "hp")
  | exact (Go.ne_fr (by assumption) (by walk_at "hp")).symm)
local macro_rules | `(tactic| walk_at "fr") => `(tactic| first
  | assumption
  | exact (Go.free_upd (by assumption)).1
  | exact (Go.free_upd (Go.free_upd (by assumption)).1).1
  | exact Same.free (by assumption) (by walk_at "fr"))
local macro_rules | `(tactic| walk_at "hp") => `(tactic| first
  | assumption
  | with_reducible exact upd_same
  | ((with_reducible show upd _ _ _ _ = _); exact Go.at_upd (by walk_at "ne") (by walk_at "hp"))
  | exact (by assumption : Same _ _) _ _ (by walk_at "hp")
  | exact (by assumption : Go.Kp _ _ _) _ _ (by walk_at "ne") (by walk_at "hp")
  | exact (by assumption : Go.Kp2 _ _ _ _) _ _ (by walk_at "ne") (by walk_at "ne") (by walk_at "hp"))
local macro_rules | `(tactic| walk_at "sq") => `(tactic| first
  | assumption
  | ((with_reducible show SqL _ (upd _ _ _) _ _); exact (by assumption : ∀ o, SqL _ (upd _ _ o) _ _) _)
  | ((with_reducible show SqL _ _ _ _); exact SqL.of (by walk_at "hp"))
  | ((with_reducible show SqT _ _ _ _); exact SqT.of (by walk_at "hp"))
  | ((with_reducible show SqL _ (upd _ _ _) _ _); exact Go.sqL_new (by walk_at "fr") (by walk_at "sq"))
  | ((with_reducible show SqT _ (upd _ _ _) _ _); exact Go.sqT_new (by walk_at "fr") (by walk_at "sq"))
  | ((with_reducible show SqL _ (upd _ _ _) _ _); exact Go.sqL_ne (by walk_at "ne") (by walk_at "sq"))
  | exact Go.sqL_same (by assumption) (by walk_at "sq")
  | exact Go.sqT_same (by assumption) (by walk_at "sq")
  | exact Go.sqL_kp (by assumption) (by walk_at "ne") (by walk_at "sq")
  | exact Go.sqT_kp (by assumption) (by walk_at "ne") (by walk_at "sq"))
local macro_rules | `(tactic| walk_at "ci") => `(tactic| first
  | exact .inr ⟨by decide, by decide⟩
  | exact .inl ⟨by decide, by decide⟩
  | exact ⟨by decide, by decide, by decide⟩
  | decide
  | omega
  | exact ⟨by omega, by omega⟩
  | exact .inl ⟨by omega, by omega⟩
  | exact .inr ⟨by omega, by omega⟩)
local macro_rules | `(tactic| walk_at "g0") => `(tactic| first
  | with_reducible refine Go.g_seq ?_
  | ((with_reducible show tVar _ _ _ _); refine ⟨_, rfl, ?_⟩)
  | with_reducible refine Go.g_c ?_
  | with_reducible refine Go.g_op ?_
  | with_reducible refine Go.g_asg ?_
  | with_reducible refine Go.g_name ?_
  | with_reducible refine Go.g_cons ?_
  | with_reducible refine Go.g_lst ?_
  | with_reducible refine Go.g_tup ?_
  | with_reducible refine Go.g_for ?_
  | with_reducible refine Go.g_rng1 ?_
  | with_reducible refine Go.g_rng2 ?_
  | with_reducible refine Go.g_rng3 ?_
  | with_reducible refine Go.g_list ?_
  | with_reducible refine Go.g_itup ?_
  | with_reducible refine Go.g_enum ?_
  | ((with_reducible show tPar _ _ _ _ _ _); unfold tPar)
  | ((with_reducible show ∃ v w, [_, _] = [v, w] ∧ _); refine ⟨_, _, rfl, ?_⟩)
  | with_reducible refine Go.g_zip ?_
  | with_reducible refine Go.g_augS ?_
  | with_reducible refine Go.g_lc ?_
  | with_reducible refine Go.g_nil ?_
  | with_reducible refine Go.g_cb ?_
  | with_reducible refine Go.g_call ?_
  | with_reducible refine Go.g_ret ?_
  | with_reducible refine Go.g_next ?_
  | with_reducible refine Go.g_drop ?_
  | with_reducible refine Go.g_un ?_
  | with_reducible refine Go.g_test ?_
  | with_reducible refine Go.g_tB ?_
  | with_reducible refine Go.g_ifs ?_
  | with_reducible refine Go.g_if ?_
  | with_reducible refine Go.g_and ?_
  | with_reducible refine Go.g_or ?_
  | with_reducible refine Go.g_not ?_
  | with_reducible refine Go.g_sl ?_
  | with_reducible refine Go.g_nopart ?_
  | with_reducible refine Go.g_part ?_
  | ((with_reducible show ∃ k, V.bl _ = V.bl k ∧ _); refine ⟨_, rfl, ?_⟩)
  | ((with_reducible show ∃ k, V.int _ = V.int k ∧ _); refine ⟨_, rfl, ?_⟩)
  | with_reducible refine Go.g_bm ?_
  | with_reducible refine Go.g_yes ?_
  | ((with_reducible show rI0 _ _ _ _ _); refine ⟨_, _, rfl, rfl, ?_⟩)
  | ((with_reducible show rI _ _ _ _ _ _); refine ⟨_, _, rfl, rfl, ?_, ?_⟩; (focus walk_at "ci"))
  | ((with_reducible show rU _ _ _ _); refine ⟨_, rfl, ?_⟩)
  | ((with_reducible show rEq _ _ _ _); refine ⟨rfl, ?_⟩)
  | ((with_reducible show rNe _ _ _ _); refine ⟨rfl, ?_⟩)
  | ((with_reducible show rIxL _ _ _ _ _); refine Go.g_ixL (by walk_at "sq") (by rfl) ?_)
  | ((with_reducible show rIxT _ _ _ _ _); refine Go.g_ixT (by walk_at "sq") (by rfl) ?_)
  | ((with_reducible show rSetL _ _ _ _ _); refine Go.g_setL (by walk_at "hp") (by rfl) ?_)
  | ((with_reducible show ∃ p ys, [V.ref _] = [V.ref p] ∧ (SqL _ _ _ _ ∨ SqT _ _ _ _) ∧ _); refine ⟨_, _, rfl, .inl (by walk_at "sq"), ?_⟩)
  | ((with_reducible show (∃ i, [V.int _] = [V.int i] ∧ _) ∨ _); refine .inl ⟨_, rfl, ?_⟩)
  | ((with_reducible show ∃ (c : Nat) (z : Str), V.str _ = V.str ⟨#[c]⟩ ∧ V.str _ = V.str z ∧ _); refine ⟨_, _, rfl, rfl, ?_⟩)
  | ((with_reducible show ∃ x : Str, [V.str _] = [V.str x] ∧ Str.length x = 1 ∧ _); refine ⟨_, rfl, rfl, ?_⟩)
  | ((with_reducible show ∃ z : Str, [V.str _] = [V.str z] ∧ Str.length z ≤ sizeLine ∧ _); refine ⟨_, rfl, by assumption, ?_⟩)
  | ((with_reducible show rSlS _ _ _ _ _); refine ⟨_, rfl, by assumption, ?_⟩)
  | ((with_reducible show gTup _ _ _ _ _ _ _); refine Go.g_gtup (by walk_at "sq") (by rfl) ?_)
  | ((with_reducible show gCons _ _ _ _ _ _); refine ⟨_, _, rfl, ?_⟩)
  | ((with_reducible show gNil _ _ _ _); refine ⟨rfl, ?_⟩)
  | ((with_reducible show rLenS _ _ _ _); refine Go.g_lenL (by walk_at "sq") ?_)
  | ((with_reducible show rListOf _ _ _ _); refine Go.g_listL (by walk_at "sq") ?_)
  | ((with_reducible show wipe _ _ = wipe _ _ ∧ _); refine ⟨rfl, ?_⟩)
  | ((with_reducible show if true = true then _ else _); refine iteT ?_)
  | ((with_reducible show if false = true then _ else _); refine iteF ?_)
  | ((with_reducible show ∃ a b xs ys, [V.ref _, V.ref _] = [V.ref a, V.ref b] ∧ SqL _ _ a xs ∧ SqL _ _ b ys ∧ _); refine ⟨_, _, _, _, rfl, by walk_at "sq", by walk_at "sq", ?_⟩)
  | ((with_reducible show ∃ a xs, [V.ref _] = [V.ref a] ∧ SqL _ _ a xs ∧ _); refine ⟨_, _, rfl, by walk_at "sq", ?_⟩)
  | ((with_reducible show ∃ a, V.ref _ = V.ref a ∧ (∃ xs, SqL _ _ a xs) ∧ _); refine ⟨_, rfl, ⟨_, by walk_at "sq"⟩, ?_⟩)
  | ((with_reducible show ∃ a, V.ref _ = V.ref a ∧ (∃ xs, SqT _ _ a xs) ∧ _); refine ⟨_, rfl, ⟨_, by walk_at "sq"⟩, ?_⟩)
  | ((with_reducible show ∃ j : Int, [V.int _] = [V.int j] ∧ _ ≤ j ∧ j < _ ∧ _); refine ⟨_, rfl, by omega, by omega, ?_⟩)
  | ((with_reducible show ∃ i j : Int, [V.int _, V.int _] = [V.int i, V.int j] ∧ (_ ≤ i ∧ i < _ ∧ _ ≤ j ∧ j < _) ∧ _); refine ⟨_, _, rfl, ⟨by omega, by omega, by omega, by omega⟩, ?_⟩)
  | ((with_reducible show ∃ i j : Int, [V.int _, V.int _] = [V.int i, V.int j] ∧ _); refine ⟨_, _, rfl, ?_⟩)
  | ((with_reducible show ∃ i : Int, [V.int _] = [V.int i] ∧ _); refine ⟨_, rfl, ?_⟩)
  | ((with_reducible show _ ≤ sizeLine ∧ _); refine ⟨by first | decide | (simp only [List.length_cons, List.length_nil]; decide), ?_⟩))
local macro_rules | `(tactic| walk_at "g1") => `(tactic| first | walk_at "g0" | with_reducible refine Go.g_sub ?_)
local macro_rules | `(tactic| walk_at "g") => `(tactic| repeat walk_at "g1")
local macro_rules | `(tactic| walk_at "v") => `(tactic| repeat walk_at "g0")
local macro_rules | `(tactic| walk_at "if") => `(tactic| first
  | with_reducible refine @Go.g_itd _ _ _ _ ?_ ?_
  | with_reducible refine @Go.g_itnd _ _ _ _ ?_ ?_
  | with_reducible refine Go.g_ite ?_ ?_)

section
variable {P : Program} {w : World} {K : PySem.W.Frag} {mg : Str → Option Value} {base : Heap}
theorem at0_mapF {f : Int → Int} {l : List Int} {k : Nat} (h : k < l.length) : at0 (l.map f) k = f (at0 l k) := at0_map h
def sp_running (K : PySem.W.Frag) : Sp := fun vs H Q _ => ∃ (A : Int) (wa : Addr) (w : List Int), vs = [.int A, .ref wa] ∧ SqL K H wa (w.map V.int) ∧ WOk A w ∧
  ∀ (H' : Hp) (p : List Int) (pa : Addr), Same H H' → H pa = none → H' pa = some (.lst (p.map V.int)) → Fair A w p → Q (.ref pa) H'
theorem ok_running (T : Txt K mg) : FnOk P w K mg base CX0 2 T.a_running T.fd_running ["amount", "weights"] (sp_running K) := by
  refine T.F_running.ok sc_running (fun vs H Q E h => ?_) (fun cdv A outer s H vs Q E hr h => ?_)
  · obtain ⟨A, wa, w, rfl, _⟩ := h; rfl
  · obtain ⟨A, wa, w, rfl, hw, W, q⟩ := h
    obtain ⟨T0, T1⟩ := W.sum
    have a0 := W.a0
    have a1 := W.a1
    have l1 := W.l1
    have l2 := W.l2
    have lw : (w.map V.int).length = w.length := List.length_map ..
    obtain ⟨p, F⟩ : ∃ p, Fair A w p := by
      obtain ⟨p, F⟩ := Fair.ex W.lo l1 A.toNat
      exact ⟨p, by rw [Int.toNat_of_nonneg a0] at F; exact F⟩
    have lp := F.len
    refine ⟨_, pss_cons (ps_set (i := 2) sc_running.nd rfl (.inr rfl) (pe_callB (cr_sum rfl) (by rfl) T.n_sum (by decide +kernel) (pa_cons (pv 1) pa_nil)))
      (pss_cons (ps_set (i := 3) sc_running.nd rfl (.inr rfl) (pe_op op_fdiv (pe_op op_add (pe_callB call_lenS (by rfl) T.n_len PySem.boot_len (pa_cons (pv 1) pa_nil)) pe_int) pe_int))
      (pss_cons (ps_setLc (i := 4) (own := [("weight", 5)]) (g := gName 5) (by rfl) sc_running.nd rfl rfl (sw_true rfl rfl rfl (by decide +kernel)) (pi_list (pv 1)) (blkOk_by (own := [("weight", 5)]) (N := ["amount", "weights", "total", "back", "parts", "weight", "_"]) (sc := defScope s_running) (by decide +kernel)) (fun _ _ _ _ _ => pg_name (i := 5) sc_running.nd rfl (Or.inl rfl)) (fun _ _ _ _ _ => pts_nil) (fun _ _ _ _ _ => (pe_callB (call_max2 rfl) (by rfl) T.n_max (by decide +kernel) (pa_cons pe_int (pa_cons (pe_op op_sub (pe_op op_fdiv (pe_op op_mul (pv 0) (pv 5)) (pv 2)) (pv 3)) pa_nil)))))
      (pss_cons (ps_for PassesOwn.never rfl (pi_range1 (by rfl) T.n_range (pa_cons (pe_op op_sub (pv 0) (pe_callB (cr_sum rfl) (by rfl) T.n_sum (by decide +kernel) (pa_cons (pv 4) pa_nil))) pa_nil)) (pg_name (i := 6) sc_running.nd rfl (.inl rfl))
        (pss_one (ps_augS (pv 4) (pe_call (ok_next_part T) hr (by rfl) T.g_next_part T.F_next_part.kp T.b_next_part .nil pass0 (pa_cons (pv 4) (pa_cons (pv 1) pa_nil))) get_list pe_int ip_add set_list)))
      (pss_one (ps_ret (pv 4)))))), ?_⟩
    walk_at "g"
    refine ⟨wa, w, rfl, hw, ?_⟩
    walk_at "g"
    intro pa npa
    refine lcW_pure (w.map V.int) (fun j => .int (max 0 (A * at0 w j / w.sum - ((w.length : Int) + 1) / 2))) npa hw (by omega) ?_ ?_
    · intro j x H1 R Z hx s1 hR
      obtain ⟨hj, rfl⟩ := at0_map? hx
      walk_at "g"
      have e : (if A * at0 w j / w.sum - (((w.map V.int).length : Int) + 1) / 2 > 0 then A * at0 w j / w.sum - (((w.map V.int).length : Int) + 1) / 2 else 0) = max 0 (A * at0 w j / w.sum - ((w.length : Int) + 1) / 2) := by rw [lw]; split <;> omega
      rw [e]; exact hR
    intro H1 s1 e1
    obtain ⟨x0, ex0⟩ : ∃ x0, x0 = w.map fun x => max 0 (A * x / w.sum - ((w.length : Int) + 1) / 2) := ⟨_, rfl⟩
    have lx0 : x0.length = w.length := by rw [ex0, List.length_map]
    have ax0 : ∀ k, k < w.length → at0 x0 k = max 0 (A * at0 w k / w.sum - ((w.length : Int) + 1) / 2) := fun k hk => by rw [ex0, at0_map hk]
    have e1 : H1 pa = some (.lst (x0.map V.int)) := by
      rw [e1, lw, ex0]
      have := range_at0 w fun x => max 0 (A * x / w.sum - ((w.length : Int) + 1) / 2)
      rw [← this, List.map_map]; rfl
    have p0 : ∀ k, k < w.length → 0 ≤ at0 x0 k := fun k hk => by rw [ax0 k hk]; omega
    have le0 : ∀ k, k < w.length → at0 x0 k ≤ at0 p k := fun k hk => by
      rw [ax0 k hk]
      have := F.share W.lo hk
      have := F.pos k (by rw [lp]; exact hk)
      omega
    have sle : x0.sum ≤ A := by
      have := sum_le (p := p) (x := x0) (by omega) fun k hk => le0 k (by omega)
      rw [F.sum] at this; exact this
    have snn : 0 ≤ x0.sum := by
      have := sum_le (p := x0) (x := List.replicate w.length 0) (by simp [lx0]) fun k hk => by rw [at0_rep]; exact p0 k (by omega)
      rw [sum_rep] at this; exact this
    clear ex0 ax0
    have hw1 := sqL_same s1 hw
    walk_at "g"
    refine ⟨pa, x0, rfl, SqL.of e1, ?_⟩
    walk_at "g"
    refine forW_range (fun i σ' H' => ∃ (x : List Int) (y6 : Option V), σ' = [some (.int A), some (.ref wa), some (.int w.sum), some (.int (((w.length : Int) + 1) / 2)), some (.ref pa), none, y6] ∧ Same H H' ∧ H' pa = some (.lst (x.map V.int)) ∧
        x.length = w.length ∧ (∀ k, k < w.length → 0 ≤ at0 x k) ∧ (∀ k, k < w.length → at0 x k ≤ at0 p k) ∧ x.sum = x0.sum + i)
      ⟨x0, _, by first | rfl | (rw [lw]; rfl), s1, e1, lx0, p0, le0, by omega⟩ ?_ ?_
    · rintro i σ' H2 hi ⟨x, y6, rfl, s2, ex, lx, p1, le1, sx⟩
      have hw2 := sqL_same s2 hw
      walk_at "g"
      refine ⟨pa, wa, A, x, w, rfl, SqL.of ex, hw2, lx, W, fun b B => ?_⟩
      have hb : b < w.length := by have := B.lt; omega
      have lt := F.below W.lo l1 lx p1 le1 (by omega) B
      have lxm : (x.map V.int).length = x.length := List.length_map ..
      walk_at "g"
      refine g_getL (by omega) (SqL.of ex) (at0_at (k := b) rfl (by omega)) ?_
      walk_at "g"
      refine ⟨_, _, rfl, rfl, ?_⟩
      refine g_setL ex (ixN_some (by omega) (by omega)) ?_
      have eb2 : ((b : Nat) : Int).toNat = b := Int.toNat_natCast _
      have hsum := sum_set (l := x) (v := at0 x b + 1) (k := b) (by omega)
      refine ⟨x.set b (at0 x b + 1), _, rfl, Go.Same.mut s2 npa, by rw [upd_same, eb2, set_map], by rw [List.length_set, lx], fun k hk => ?_, fun k hk => ?_, by omega⟩
      · rw [at0_set (by omega)]
        have := p1 b hb
        have := p1 k hk
        split <;> omega
      · rw [at0_set (by omega)]
        have := le1 k hk
        split
        · rename_i e; subst e; omega
        · exact this
    · rintro σ' H2 ⟨x, y6, rfl, s2, ex, lx, p1, le1, sx⟩
      walk_at "g"
      have : x = p := eq_of_le (w := w) (by omega) (fun k hk => le1 k (by omega)) (by rw [F.sum]; omega)
      subst this
      exact q H2 x pa s2 npa ex F

end
end K32

namespace K32
open PySem PySem.Spec PyProof.Rows L2 Go
set_option maxHeartbeats 8000000
local macro_rules | `(tactic| walk_at "ne") => `(tactic| first
  | assumption
  | (refine Ne.symm ?_; assumption)
  | exact (Go.free_upd (by assumption)).2
  | exact (Go.free_upd (by assumption)).2.symm
  | exact Go.ne_fr (by assumption) (by walk_at "hp")
  | exact (Go.ne_fr (by assumption) (by walk_at "hp")).symm)
local macro_rules | `(tactic| walk_at "fr") => `(tactic| first
  | assumption
  | exact (Go.free_upd (by assumption)).1
  | exact (Go.free_upd (Go.free_upd (by assumption)).1).1
  | exact Same.free (by assumption) (by walk_at "fr"))
local macro_rules | `(tactic| walk_at "hp") => `(tactic| first
  | assumption
  | with_reducible exact upd_same
  | ((with_reducible show upd _ _ _ _ = _); exact Go.at_upd (by walk_at "ne") (by walk_at "hp"))
  | exact (by assumption : Same _ _) _ _ (by walk_at "hp")
  | exact (by assumption : Go.Kp _ _ _) _ _ (by walk_at "ne") (by walk_at "hp")
  | exact (by assumption : Go.Kp2 _ _ _ _) _ _ (by walk_at "ne") (by walk_at "ne") (by walk_at "hp"))
local macro_rules | `(tactic| walk_at "sq") => `(tactic| first
  | assumption
  | ((with_reducible show SqL _ (upd _ _ _) _ _); exact (by assumption : ∀ o, SqL _ (upd _ _ o) _ _) _)
  | ((with_reducible show SqL _ _ _ _); exact SqL.of (by walk_at "hp"))
  | ((with_reducible show SqT _ _ _ _); exact SqT.of (by walk_at "hp"))
  | ((with_reducible show SqL _ (upd _ _ _) _ _); exact Go.sqL_new (by walk_at "fr") (by walk_at "sq"))
  | ((with_reducible show SqT _ (upd _ _ _) _ _); exact Go.sqT_new (by walk_at "fr") (by walk_at "sq"))
  | ((with_reducible show SqL _ (upd _ _ _) _ _); exact Go.sqL_ne (by walk_at "ne") (by walk_at "sq"))
  | exact Go.sqL_same (by assumption) (by walk_at "sq")
  | exact Go.sqT_same (by assumption) (by walk_at "sq")
  | exact Go.sqL_kp (by assumption) (by walk_at "ne") (by walk_at "sq")
  | exact Go.sqT_kp (by assumption) (by walk_at "ne") (by walk_at "sq"))
local macro_rules | `(tactic| walk_at "ci") => `(tactic| first
  | exact .inr ⟨by decide, by decide⟩
  | exact .inl ⟨by decide, by decide⟩
  | exact ⟨by decide, by decide, by decide⟩
  | decide
  | omega
  | exact ⟨by omega, by omega⟩
  | exact .inl ⟨by omega, by omega⟩
  | exact .inr ⟨by omega, by omega⟩)
local macro_rules | `(tactic| walk_at "g0") => `(tactic| first
  | with_reducible refine Go.g_seq ?_
  | ((with_reducible show tVar _ _ _ _); refine ⟨_, rfl, ?_⟩)
  | with_reducible refine Go.g_c ?_
  | with_reducible refine Go.g_op ?_
  | with_reducible refine Go.g_asg ?_
  | with_reducible refine Go.g_name ?_
  | with_reducible refine Go.g_cons ?_
  | with_reducible refine Go.g_lst ?_
  | with_reducible refine Go.g_tup ?_
  | with_reducible refine Go.g_for ?_
  | with_reducible refine Go.g_rng1 ?_
  | with_reducible refine Go.g_rng2 ?_
  | with_reducible refine Go.g_rng3 ?_
  | with_reducible refine Go.g_list ?_
  | with_reducible refine Go.g_itup ?_
  | with_reducible refine Go.g_enum ?_
  | ((with_reducible show tPar _ _ _ _ _ _); unfold tPar)
  | ((with_reducible show ∃ v w, [_, _] = [v, w] ∧ _); refine ⟨_, _, rfl, ?_⟩)
  | with_reducible refine Go.g_zip ?_
  | with_reducible refine Go.g_augS ?_
  | with_reducible refine Go.g_lc ?_
  | with_reducible refine Go.g_nil ?_
  | with_reducible refine Go.g_cb ?_
  | with_reducible refine Go.g_call ?_
  | with_reducible refine Go.g_ret ?_
  | with_reducible refine Go.g_next ?_
  | with_reducible refine Go.g_drop ?_
  | with_reducible refine Go.g_un ?_
  | with_reducible refine Go.g_test ?_
  | with_reducible refine Go.g_tB ?_
  | with_reducible refine Go.g_ifs ?_
  | with_reducible refine Go.g_if ?_
  | with_reducible refine Go.g_and ?_
  | with_reducible refine Go.g_or ?_
  | with_reducible refine Go.g_not ?_
  | with_reducible refine Go.g_sl ?_
  | with_reducible refine Go.g_nopart ?_
  | with_reducible refine Go.g_part ?_
  | ((with_reducible show ∃ k, V.bl _ = V.bl k ∧ _); refine ⟨_, rfl, ?_⟩)
  | ((with_reducible show ∃ k, V.int _ = V.int k ∧ _); refine ⟨_, rfl, ?_⟩)
  | with_reducible refine Go.g_bm ?_
  | with_reducible refine Go.g_yes ?_
  | ((with_reducible show rI0 _ _ _ _ _); refine ⟨_, _, rfl, rfl, ?_⟩)
  | ((with_reducible show rI _ _ _ _ _ _); refine ⟨_, _, rfl, rfl, ?_, ?_⟩; (focus walk_at "ci"))
  | ((with_reducible show rU _ _ _ _); refine ⟨_, rfl, ?_⟩)
  | ((with_reducible show rEq _ _ _ _); refine ⟨rfl, ?_⟩)
  | ((with_reducible show rNe _ _ _ _); refine ⟨rfl, ?_⟩)
  | ((with_reducible show rIxL _ _ _ _ _); refine Go.g_ixL (by walk_at "sq") (by rfl) ?_)
  | ((with_reducible show rIxT _ _ _ _ _); refine Go.g_ixT (by walk_at "sq") (by rfl) ?_)
  | ((with_reducible show rSetL _ _ _ _ _); refine Go.g_setL (by walk_at "hp") (by rfl) ?_)
  | ((with_reducible show ∃ p ys, [V.ref _] = [V.ref p] ∧ (SqL _ _ _ _ ∨ SqT _ _ _ _) ∧ _); refine ⟨_, _, rfl, .inl (by walk_at "sq"), ?_⟩)
  | ((with_reducible show (∃ i, [V.int _] = [V.int i] ∧ _) ∨ _); refine .inl ⟨_, rfl, ?_⟩)
  | ((with_reducible show ∃ (c : Nat) (z : Str), V.str _ = V.str ⟨#[c]⟩ ∧ V.str _ = V.str z ∧ _); refine ⟨_, _, rfl, rfl, ?_⟩)
  | ((with_reducible show ∃ x : Str, [V.str _] = [V.str x] ∧ Str.length x = 1 ∧ _); refine ⟨_, rfl, rfl, ?_⟩)
  | ((with_reducible show ∃ z : Str, [V.str _] = [V.str z] ∧ Str.length z ≤ sizeLine ∧ _); refine ⟨_, rfl, by assumption, ?_⟩)
  | ((with_reducible show rSlS _ _ _ _ _); refine ⟨_, rfl, by assumption, ?_⟩)
  | ((with_reducible show gTup _ _ _ _ _ _ _); refine Go.g_gtup (by walk_at "sq") (by rfl) ?_)
  | ((with_reducible show gCons _ _ _ _ _ _); refine ⟨_, _, rfl, ?_⟩)
  | ((with_reducible show gNil _ _ _ _); refine ⟨rfl, ?_⟩)
  | ((with_reducible show rLenS _ _ _ _); refine Go.g_lenL (by walk_at "sq") ?_)
  | ((with_reducible show rListOf _ _ _ _); refine Go.g_listL (by walk_at "sq") ?_)
  | ((with_reducible show wipe _ _ = wipe _ _ ∧ _); refine ⟨rfl, ?_⟩)
  | ((with_reducible show if true = true then _ else _); refine iteT ?_)
  | ((with_reducible show if false = true then _ else _); refine iteF ?_)
  | ((with_reducible show ∃ a b xs ys, [V.ref _, V.ref _] = [V.ref a, V.ref b] ∧ SqL _ _ a xs ∧ SqL _ _ b ys ∧ _); refine ⟨_, _, _, _, rfl, by walk_at "sq", by walk_at "sq", ?_⟩)
  | ((with_reducible show ∃ a xs, [V.ref _] = [V.ref a] ∧ SqL _ _ a xs ∧ _); refine ⟨_, _, rfl, by walk_at "sq", ?_⟩)
  | ((with_reducible show ∃ a, V.ref _ = V.ref a ∧ (∃ xs, SqL _ _ a xs) ∧ _); refine ⟨_, rfl, ⟨_, by walk_at "sq"⟩, ?_⟩)
  | ((with_reducible show ∃ a, V.ref _ = V.ref a ∧ (∃ xs, SqT _ _ a xs) ∧ _); refine ⟨_, rfl, ⟨_, by walk_at "sq"⟩, ?_⟩)
  | ((with_reducible show ∃ j : Int, [V.int _] = [V.int j] ∧ _ ≤ j ∧ j < _ ∧ _); refine ⟨_, rfl, by omega, by omega, ?_⟩)
  | ((with_reducible show ∃ i j : Int, [V.int _, V.int _] = [V.int i, V.int j] ∧ (_ ≤ i ∧ i < _ ∧ _ ≤ j ∧ j < _) ∧ _); refine ⟨_, _, rfl, ⟨by omega, by omega, by omega, by omega⟩, ?_⟩)
  | ((with_reducible show ∃ i j : Int, [V.int _, V.int _] = [V.int i, V.int j] ∧ _); refine ⟨_, _, rfl, ?_⟩)
  | ((with_reducible show ∃ i : Int, [V.int _] = [V.int i] ∧ _); refine ⟨_, rfl, ?_⟩)
  | ((with_reducible show _ ≤ sizeLine ∧ _); refine ⟨by first | decide | (simp only [List.length_cons, List.length_nil]; decide), ?_⟩))
local macro_rules | `(tactic| walk_at "g1") => `(tactic| first | walk_at "g0" | with_reducible refine Go.g_sub ?_)
local macro_rules | `(tactic| walk_at "g") => `(tactic| repeat walk_at "g1")
local macro_rules | `(tactic| walk_at "v") => `(tactic| repeat walk_at "g0")
local macro_rules | `(tactic| walk_at "if") => `(tactic| first
  | with_reducible refine @Go.g_itd _ _ _ _ ?_ ?_
  | with_reducible refine @Go.g_itnd _ _ _ _ ?_ ?_
  | with_reducible refine Go.g_ite ?_ ?_)

section
variable {P : Program} {w : World} {K : PySem.W.Frag} {mg : Str → Option Value} {base : Heap}
theorem badPair_0 {A : Int} {w p : List Int} {i j : Nat} (h : ¬ 0 < at0 p i) : false = badPair A w p i j := by
  unfold badPair; rw [decide_eq_false (p := at0 p i > 0) h]; rfl
theorem badPair_true {A : Int} {w p : List Int} {i j : Nat} (h : 0 < at0 p i) (h1 : (2 * at0 p j + 1) * at0 w i < (2 * at0 p i - 1) * at0 w j) : true = badPair A w p i j := by
  rw [nx_mul, ls_mul] at h1
  unfold badPair; rw [decide_eq_true (p := at0 p i > 0) h, decide_eq_true (p := 2 * (at0 p i * at0 w j) - at0 w j > 2 * (at0 p j * at0 w i) + at0 w i) (by omega)]; rfl
theorem badPair_eq {A : Int} {w p : List Int} {i j : Nat} (h : 0 < at0 p i) (h1 : ¬ (2 * at0 p j + 1) * at0 w i < (2 * at0 p i - 1) * at0 w j) (e : (2 * at0 p i - 1) * at0 w j = (2 * at0 p j + 1) * at0 w i) : decide (j < i) = badPair A w p i j := by
  rw [nx_mul, ls_mul] at h1 e
  unfold badPair; rw [decide_eq_true (p := at0 p i > 0) h, decide_eq_false (p := 2 * (at0 p i * at0 w j) - at0 w j > 2 * (at0 p j * at0 w i) + at0 w i) (by omega), decide_eq_true (p := 2 * (at0 p i * at0 w j) - at0 w j = 2 * (at0 p j * at0 w i) + at0 w i) (by omega)]; rfl
theorem badPair_no {A : Int} {w p : List Int} {i j : Nat} (h : 0 < at0 p i) (h1 : ¬ (2 * at0 p j + 1) * at0 w i < (2 * at0 p i - 1) * at0 w j) (e : ¬ (2 * at0 p i - 1) * at0 w j = (2 * at0 p j + 1) * at0 w i) : false = badPair A w p i j := by
  rw [nx_mul, ls_mul] at h1 e
  unfold badPair; rw [decide_eq_true (p := at0 p i > 0) h, decide_eq_false (p := 2 * (at0 p i * at0 w j) - at0 w j > 2 * (at0 p j * at0 w i) + at0 w i) (by omega), decide_eq_false (p := 2 * (at0 p i * at0 w j) - at0 w j = 2 * (at0 p j * at0 w i) + at0 w i) (by omega)]; rfl
def sp_running_fault (K : PySem.W.Frag) : Sp := spS K faultS
theorem ok_running_fault (T : Txt K mg) : FnOk P w K mg base CX0 2 T.a_running_fault T.fd_running_fault ["amount", "weights", "parts"] (sp_running_fault K) := by
  refine T.F_running_fault.ok sc_running_fault (fun vs H Q E h => ?_) (fun cdv A outer s H vs Q E hr h => ?_)
  · obtain ⟨A, wa, pa, w, p, rfl, _⟩ := h; rfl
  · obtain ⟨A, wa, pa, w, p, rfl, hw, hp, W, lp, q⟩ := h
    obtain ⟨T0, T1⟩ := W.sum
    have a0 := W.a0
    have a1 := W.a1
    have l2 := W.l2
    have lwm : (w.map V.int).length = w.length := List.length_map ..
    have lpm : (p.map V.int).length = p.length := List.length_map ..
    refine ⟨_, pss_cons (ps_set (i := 3) sc_running_fault.nd rfl (.inl rfl) (pe_call (ok_shape_fault T) hr (by rfl) T.g_shape_fault T.F_shape_fault.kp T.b_shape_fault .nil pass0 (pa_cons (pv 0) (pa_cons (pv 1) (pa_cons (pv 2) pa_nil)))))
      (pss_cons (ps_if (pt_cmpR op_notN (pv 3) pe_non (nomark _))
        (pss_one (ps_ret (pv 3)))
        (pss_nil))
      (pss_cons (ps_for PassesOwn.never rfl (pi_range1 (by rfl) T.n_range (pa_cons (pe_callB call_lenS (by rfl) T.n_len PySem.boot_len (pa_cons (pv 2) pa_nil)) pa_nil)) (pg_name (i := 4) sc_running_fault.nd rfl (.inl rfl))
        (pss_one (ps_for PassesOwn.never rfl (pi_range1 (by rfl) T.n_range (pa_cons (pe_callB call_lenS (by rfl) T.n_len PySem.boot_len (pa_cons (pv 2) pa_nil)) pa_nil)) (pg_name (i := 5) sc_running_fault.nd rfl (.inl rfl))
          (pss_cons (ps_set (i := 6) sc_running_fault.nd rfl (.inl rfl) (pe_op op_mul (pe_op op_sub (pe_op op_mul pe_int (pe_ix ix_list (pv 2) (pv 4) (fun _ _ => rfl))) pe_int) (pe_ix ix_list (pv 1) (pv 5) (fun _ _ => rfl))))
          (pss_cons (ps_set (i := 7) sc_running_fault.nd rfl (.inl rfl) (pe_op op_mul (pe_op op_add (pe_op op_mul pe_int (pe_ix ix_list (pv 2) (pv 5) (fun _ _ => rfl))) pe_int) (pe_ix ix_list (pv 1) (pv 4) (fun _ _ => rfl))))
          (pss_one (ps_if (pt_cutT (PW.pt (pw_and (pt_cmpR op_gt (pe_ix ix_list (pv 2) (pv 4) (fun _ _ => rfl)) pe_int (nomark _)) (pw_and1 (PW.pt (pw_or (pt_cmpR op_gt (pv 6) (pv 7) (nomark _)) (pw_or1 (PW.pt (pw_and (pt_cmpR op_eq (pv 6) (pv 7) (nomark _)) (pw_and1 (pt_cmpR op_gt (pv 4) (pv 5) (nomark _))))))))))))
            (pss_one (ps_ret (pe_tup (pa_cons pe_str (pa_cons (pv 4) (pa_cons (pv 5) pa_nil))))))
            (pss_nil))))))))
      (pss_one (ps_ret pe_non)))), ?_⟩
    walk_at "g"
    refine ⟨A, wa, pa, w, p, rfl, hw, hp, W, lp, fun H1 v s1 hv => ?_⟩
    have hv : (shapeS A w p).at H1 v := hv
    walk_at "g"
    refine ⟨rfl, ?_⟩
    walk_at "g"
    walk_at "if" <;> intro e
    · walk_at "g"
      rcases Fau.val hv with ⟨_, rfl⟩ | ⟨ne, t, rfl⟩
      · exact absurd rfl e
      · refine q _ _ s1 ?_
        rw [faultS_bad ne]
        exact hv
    rcases Fau.val hv with ⟨eo, rfl⟩ | ⟨ne, t, rfl⟩
    case inr => cases e
    have q : ∀ (H' : Hp) (v : V), Same H H' → (pairS A w p).at H' v → Q v H' := fun H' v s h => q H' v s (by rw [faultS_pair eo]; exact h)
    obtain ⟨el, pos, es⟩ := shapeS_ok.mp eo
    clear hv e
    have hw1 := sqL_same s1 hw
    have hp1 := sqL_same s1 hp
    walk_at "g"
    refine forW_range (fun i σ' H' => (∃ y4 y5 y6 y7, σ' = [some (.int A), some (.ref wa), some (.ref pa), some .non, y4, y5, y6, y7]) ∧ H1 = H' ∧ ∀ i', i' < i → ∀ j', j' < p.length → badPair A w p i' j' = false)
      ⟨⟨_, _, _, _, rfl⟩, rfl, fun j h => by omega⟩ ?_ ?_
    · rintro i σ' _ hi ⟨⟨y4, y5, y6, y7, rfl⟩, rfl, hi'⟩
      have hi : i < p.length := by omega
      walk_at "g"
      refine forW_range (fun j σ' H' => (∃ y5 y6 y7, σ' = [some (.int A), some (.ref wa), some (.ref pa), some .non, some (.int (i : Int)), y5, y6, y7]) ∧ H1 = H' ∧ ∀ j', j' < j → badPair A w p i j' = false)
        ⟨⟨_, _, _, by rw [Int.zero_add]; rfl⟩, rfl, fun j h => by omega⟩ ?_ ?_
      · rintro j σ' _ hj ⟨⟨y5, y6, y7, rfl⟩, rfl, hj'⟩
        have hj : j < p.length := by omega
        have wi1 := W.lo i (by omega)
        have wi2 := W.hi i (by omega)
        have wj1 := W.lo j (by omega)
        have wj2 := W.hi j (by omega)
        walk_at "g"
        refine g_ixL (by walk_at "sq") (at0_at (k := i) rfl (by omega)) ?_
        walk_at "g"
        refine g_ixL (by walk_at "sq") (at0_at (k := j) (by omega) (by omega)) ?_
        walk_at "g"
        refine g_ixL (by walk_at "sq") (at0_at (k := j) (by omega) (by omega)) ?_
        walk_at "g"
        refine g_ixL (by walk_at "sq") (at0_at (k := i) rfl (by omega)) ?_
        walk_at "g"
        refine ⟨fun b H' => H1 = H' ∧ b = badPair A w p i j, ?_, ?_⟩
        · walk_at "g"
          refine g_ixL (by walk_at "sq") (at0_at (k := i) rfl (by omega)) ?_
          walk_at "g"
          walk_at "if" <;> intro e0
          · walk_at "g"
            walk_at "if" <;> intro e1
            · exact ⟨rfl, badPair_true e0 e1⟩
            walk_at "g"
            walk_at "if" <;> intro e2
            · walk_at "g"
              refine ⟨rfl, ?_⟩
              rw [← badPair_eq e0 e1 (V.int.inj e2)]
              exact decide_eq_decide.mpr (by omega)
            · exact ⟨rfl, badPair_no e0 e1 fun z => e2 (congrArg V.int z)⟩
          · exact ⟨rfl, badPair_0 e0⟩
        rintro b _ ⟨rfl, rfl⟩
        walk_at "if" <;> intro e1
        · walk_at "g"
          intro t nt
          refine q _ _ (Go.Same.new (by assumption) nt) ?_
          rw [pairS_hit hi hj e1 hi' hj']
          exact ⟨t, rfl, by rw [upd_same, Int.zero_add]⟩
        · walk_at "g"
          refine ⟨⟨_, _, _, rfl⟩, rfl, fun j2 hj2 => ?_⟩
          by_cases e : j2 = j
          · subst e; exact e1
          · exact hj' j2 (by omega)
      · rintro σ' _ ⟨⟨y5, y6, y7, rfl⟩, rfl, hj'⟩
        refine ⟨⟨_, _, _, _, rfl⟩, rfl, fun i2 hi2 j2 hj2 => ?_⟩
        by_cases e : i2 = i
        · subst e; exact hj' j2 (by omega)
        · exact hi' i2 (by omega) j2 hj2
    · rintro σ' _ ⟨⟨y4, y5, y6, y7, rfl⟩, rfl, hi'⟩
      walk_at "g"
      refine q _ _ (by assumption) ?_
      rw [pairS_none fun i h j h2 => hi' i (by omega) j h2]
      rfl
def sp__law_fault (K : PySem.W.Frag) : Sp := spS K faultS
theorem ok__law_fault (T : Txt K mg) : FnOk P w K mg base CX0 2 T.a__law_fault T.fd__law_fault ["amount", "weights", "parts"] (sp__law_fault K) := by
  refine T.F__law_fault.ok sc__law_fault (fun vs H Q E h => ?_) (fun cdv A outer s H vs Q E hr h => ?_)
  · obtain ⟨A, wa, pa, w, p, rfl, _⟩ := h; rfl
  · obtain ⟨A, wa, pa, w, p, rfl, hw, hp, W, lp, q⟩ := h
    obtain ⟨T0, T1⟩ := W.sum
    have a0 := W.a0
    have a1 := W.a1
    have l2 := W.l2
    have lwm : (w.map V.int).length = w.length := List.length_map ..
    have lpm : (p.map V.int).length = p.length := List.length_map ..
    refine ⟨_, pss_cons (ps_set (i := 3) sc__law_fault.nd rfl (.inl rfl) (pe_call (ok__law_shape T) hr (by rfl) T.g__law_shape T.F__law_shape.kp T.b__law_shape .nil pass0 (pa_cons (pv 0) (pa_cons (pv 1) (pa_cons (pv 2) pa_nil)))))
      (pss_cons (ps_if (pt_cmpR op_notN (pv 3) pe_non (nomark _))
        (pss_one (ps_ret (pv 3)))
        (pss_nil))
      (pss_cons (ps_for PassesOwn.never rfl (pi_range1 (by rfl) T.n_range (pa_cons (pe_callB call_lenS (by rfl) T.n_len PySem.boot_len (pa_cons (pv 2) pa_nil)) pa_nil)) (pg_name (i := 4) sc__law_fault.nd rfl (.inl rfl))
        (pss_one (ps_for PassesOwn.never rfl (pi_range1 (by rfl) T.n_range (pa_cons (pe_callB call_lenS (by rfl) T.n_len PySem.boot_len (pa_cons (pv 2) pa_nil)) pa_nil)) (pg_name (i := 5) sc__law_fault.nd rfl (.inl rfl))
          (pss_cons (ps_par (i := 6) (j := 7) (by rfl) sc__law_fault.nd rfl rfl (by decide) rfl rfl (pa_cons (pe_op op_mul (pe_op op_sub (pe_op op_mul pe_int (pe_ix ix_list (pv 2) (pv 4) (fun _ _ => rfl))) pe_int) (pe_ix ix_list (pv 1) (pv 5) (fun _ _ => rfl))) (pa_cons (pe_op op_mul (pe_op op_add (pe_op op_mul pe_int (pe_ix ix_list (pv 2) (pv 5) (fun _ _ => rfl))) pe_int) (pe_ix ix_list (pv 1) (pv 4) (fun _ _ => rfl))) pa_nil)) (by rfl))
          (pss_one (ps_if (pt_cutT (PW.pt (pw_and (pt_cmpR op_gt (pe_ix ix_list (pv 2) (pv 4) (fun _ _ => rfl)) pe_int (nomark _)) (pw_and1 (PW.pt (pw_or (pt_cmpR op_gt (pv 6) (pv 7) (nomark _)) (pw_or1 (PW.pt (pw_and (pt_cmpR op_eq (pv 6) (pv 7) (nomark _)) (pw_and1 (pt_cmpR op_gt (pv 4) (pv 5) (nomark _))))))))))))
            (pss_one (ps_ret (pe_tup (pa_cons pe_str (pa_cons (pv 4) (pa_cons (pv 5) pa_nil))))))
            (pss_nil)))))))
      (pss_one (ps_ret pe_non)))), ?_⟩
    walk_at "g"
    refine ⟨A, wa, pa, w, p, rfl, hw, hp, W, lp, fun H1 v s1 hv => ?_⟩
    have hv : (shapeS A w p).at H1 v := hv
    walk_at "g"
    refine ⟨rfl, ?_⟩
    walk_at "g"
    walk_at "if" <;> intro e
    · walk_at "g"
      rcases Fau.val hv with ⟨_, rfl⟩ | ⟨ne, t, rfl⟩
      · exact absurd rfl e
      · refine q _ _ s1 ?_
        rw [faultS_bad ne]
        exact hv
    rcases Fau.val hv with ⟨eo, rfl⟩ | ⟨ne, t, rfl⟩
    case inr => cases e
    have q : ∀ (H' : Hp) (v : V), Same H H' → (pairS A w p).at H' v → Q v H' := fun H' v s h => q H' v s (by rw [faultS_pair eo]; exact h)
    obtain ⟨el, pos, es⟩ := shapeS_ok.mp eo
    clear hv e
    have hw1 := sqL_same s1 hw
    have hp1 := sqL_same s1 hp
    walk_at "g"
    refine forW_range (fun i σ' H' => (∃ y4 y5 y6 y7, σ' = [some (.int A), some (.ref wa), some (.ref pa), some .non, y4, y5, y6, y7]) ∧ H1 = H' ∧ ∀ i', i' < i → ∀ j', j' < p.length → badPair A w p i' j' = false)
      ⟨⟨_, _, _, _, rfl⟩, rfl, fun j h => by omega⟩ ?_ ?_
    · rintro i σ' _ hi ⟨⟨y4, y5, y6, y7, rfl⟩, rfl, hi'⟩
      have hi : i < p.length := by omega
      walk_at "g"
      refine forW_range (fun j σ' H' => (∃ y5 y6 y7, σ' = [some (.int A), some (.ref wa), some (.ref pa), some .non, some (.int (i : Int)), y5, y6, y7]) ∧ H1 = H' ∧ ∀ j', j' < j → badPair A w p i j' = false)
        ⟨⟨_, _, _, by rw [Int.zero_add]; rfl⟩, rfl, fun j h => by omega⟩ ?_ ?_
      · rintro j σ' _ hj ⟨⟨y5, y6, y7, rfl⟩, rfl, hj'⟩
        have hj : j < p.length := by omega
        have wi1 := W.lo i (by omega)
        have wi2 := W.hi i (by omega)
        have wj1 := W.lo j (by omega)
        have wj2 := W.hi j (by omega)
        walk_at "g"
        refine g_ixL (by walk_at "sq") (at0_at (k := i) rfl (by omega)) ?_
        walk_at "g"
        refine g_ixL (by walk_at "sq") (at0_at (k := j) (by omega) (by omega)) ?_
        walk_at "g"
        refine g_ixL (by walk_at "sq") (at0_at (k := j) (by omega) (by omega)) ?_
        walk_at "g"
        refine g_ixL (by walk_at "sq") (at0_at (k := i) rfl (by omega)) ?_
        walk_at "g"
        refine ⟨fun b H' => H1 = H' ∧ b = badPair A w p i j, ?_, ?_⟩
        · walk_at "g"
          refine g_ixL (by walk_at "sq") (at0_at (k := i) rfl (by omega)) ?_
          walk_at "g"
          walk_at "if" <;> intro e0
          · walk_at "g"
            walk_at "if" <;> intro e1
            · exact ⟨rfl, badPair_true e0 e1⟩
            walk_at "g"
            walk_at "if" <;> intro e2
            · walk_at "g"
              refine ⟨rfl, ?_⟩
              rw [← badPair_eq e0 e1 (V.int.inj e2)]
              exact decide_eq_decide.mpr (by omega)
            · exact ⟨rfl, badPair_no e0 e1 fun z => e2 (congrArg V.int z)⟩
          · exact ⟨rfl, badPair_0 e0⟩
        rintro b _ ⟨rfl, rfl⟩
        walk_at "if" <;> intro e1
        · walk_at "g"
          intro t nt
          refine q _ _ (Go.Same.new (by assumption) nt) ?_
          rw [pairS_hit hi hj e1 hi' hj']
          exact ⟨t, rfl, by rw [upd_same, Int.zero_add]⟩
        · walk_at "g"
          refine ⟨⟨_, _, _, rfl⟩, rfl, fun j2 hj2 => ?_⟩
          by_cases e : j2 = j
          · subst e; exact e1
          · exact hj' j2 (by omega)
      · rintro σ' _ ⟨⟨y5, y6, y7, rfl⟩, rfl, hj'⟩
        refine ⟨⟨_, _, _, _, rfl⟩, rfl, fun i2 hi2 j2 hj2 => ?_⟩
        by_cases e : i2 = i
        · subst e; exact hj' j2 (by omega)
        · exact hi' i2 (by omega) j2 hj2
    · rintro σ' _ ⟨⟨y4, y5, y6, y7, rfl⟩, rfl, hi'⟩
      walk_at "g"
      refine q _ _ (by assumption) ?_
      rw [pairS_none fun i h j h2 => hi' i (by omega) j h2]
      rfl

end
end K32

namespace K32
open PySem PySem.Spec PyProof.Rows L2 Go
set_option maxHeartbeats 8000000
local macro_rules | `(tactic| walk_at "ne") => `(tactic| first
  | assumption
  | (refine Ne.symm ?_; assumption)
  | exact (Go.free_upd (by assumption)).2
  | exact (Go.free_upd (by assumption)).2.symm
  | exact Go.ne_fr (by assumption) (by walk_at "hp")
  | exact (Go.ne_fr (by assumption) (by walk_at "hp")).symm)
local macro_rules | `(tactic| walk_at "fr") => `(tactic| first
  | assumption
  | exact (Go.free_upd (by assumption)).1
  | exact (Go.free_upd (Go.free_upd (by assumption)).1).1
  | exact Same.free (by assumption) (by walk_at "fr"))
local macro_rules | `(tactic| walk_at "hp") => `(tactic| first
  | assumption
  | with_reducible exact upd_same
  | ((with_reducible show upd _ _ _ _ = _); exact Go.at_upd (by walk_at "ne") (by walk_at "hp"))
  | exact (by assumption : Same _ _) _ _ (by walk_at "hp")
  | exact (by assumption : Go.Kp _ _ _) _ _ (by walk_at "ne") (by walk_at "hp")
  | exact (by assumption : Go.Kp2 _ _ _ _) _ _ (by walk_at "ne") (by walk_at "ne") (by walk_at "hp"))
local macro_rules | `(tactic| walk_at "sq") => `(tactic| first
  | assumption
  | ((with_reducible show SqL _ (upd _ _ _) _ _); exact (by assumption : ∀ o, SqL _ (upd _ _ o) _ _) _)
  | ((with_reducible show SqL _ _ _ _); exact SqL.of (by walk_at "hp"))
  | ((with_reducible show SqT _ _ _ _); exact SqT.of (by walk_at "hp"))
  | ((with_reducible show SqL _ (upd _ _ _) _ _); exact Go.sqL_new (by walk_at "fr") (by walk_at "sq"))
  | ((with_reducible show SqT _ (upd _ _ _) _ _); exact Go.sqT_new (by walk_at "fr") (by walk_at "sq"))
  | ((with_reducible show SqL _ (upd _ _ _) _ _); exact Go.sqL_ne (by walk_at "ne") (by walk_at "sq"))
  | exact Go.sqL_same (by assumption) (by walk_at "sq")
  | exact Go.sqT_same (by assumption) (by walk_at "sq")
  | exact Go.sqL_kp (by assumption) (by walk_at "ne") (by walk_at "sq")
  | exact Go.sqT_kp (by assumption) (by walk_at "ne") (by walk_at "sq"))
local macro_rules | `(tactic| walk_at "ci") => `(tactic| first
  | exact .inr ⟨by decide, by decide⟩
  | exact .inl ⟨by decide, by decide⟩
  | exact ⟨by decide, by decide, by decide⟩
  | decide
  | omega
  | exact ⟨by omega, by omega⟩
  | exact .inl ⟨by omega, by omega⟩
  | exact .inr ⟨by omega, by omega⟩)
local macro_rules | `(tactic| walk_at "g0") => `(tactic| first
  | with_reducible refine Go.g_seq ?_
  | ((with_reducible show tVar _ _ _ _); refine ⟨_, rfl, ?_⟩)
  | with_reducible refine Go.g_c ?_
  | with_reducible refine Go.g_op ?_
  | with_reducible refine Go.g_asg ?_
  | with_reducible refine Go.g_name ?_
  | with_reducible refine Go.g_cons ?_
  | with_reducible refine Go.g_lst ?_
  | with_reducible refine Go.g_tup ?_
  | with_reducible refine Go.g_for ?_
  | with_reducible refine Go.g_rng1 ?_
  | with_reducible refine Go.g_rng2 ?_
  | with_reducible refine Go.g_rng3 ?_
  | with_reducible refine Go.g_list ?_
  | with_reducible refine Go.g_itup ?_
  | with_reducible refine Go.g_enum ?_
  | ((with_reducible show tPar _ _ _ _ _ _); unfold tPar)
  | ((with_reducible show ∃ v w, [_, _] = [v, w] ∧ _); refine ⟨_, _, rfl, ?_⟩)
  | with_reducible refine Go.g_zip ?_
  | with_reducible refine Go.g_augS ?_
  | with_reducible refine Go.g_lc ?_
  | with_reducible refine Go.g_nil ?_
  | with_reducible refine Go.g_cb ?_
  | with_reducible refine Go.g_call ?_
  | with_reducible refine Go.g_ret ?_
  | with_reducible refine Go.g_next ?_
  | with_reducible refine Go.g_drop ?_
  | with_reducible refine Go.g_un ?_
  | with_reducible refine Go.g_test ?_
  | with_reducible refine Go.g_tB ?_
  | with_reducible refine Go.g_ifs ?_
  | with_reducible refine Go.g_if ?_
  | with_reducible refine Go.g_and ?_
  | with_reducible refine Go.g_or ?_
  | with_reducible refine Go.g_not ?_
  | with_reducible refine Go.g_sl ?_
  | with_reducible refine Go.g_nopart ?_
  | with_reducible refine Go.g_part ?_
  | ((with_reducible show ∃ k, V.bl _ = V.bl k ∧ _); refine ⟨_, rfl, ?_⟩)
  | ((with_reducible show ∃ k, V.int _ = V.int k ∧ _); refine ⟨_, rfl, ?_⟩)
  | with_reducible refine Go.g_bm ?_
  | with_reducible refine Go.g_yes ?_
  | ((with_reducible show rI0 _ _ _ _ _); refine ⟨_, _, rfl, rfl, ?_⟩)
  | ((with_reducible show rI _ _ _ _ _ _); refine ⟨_, _, rfl, rfl, ?_, ?_⟩; (focus walk_at "ci"))
  | ((with_reducible show rU _ _ _ _); refine ⟨_, rfl, ?_⟩)
  | ((with_reducible show rEq _ _ _ _); refine ⟨rfl, ?_⟩)
  | ((with_reducible show rNe _ _ _ _); refine ⟨rfl, ?_⟩)
  | ((with_reducible show rIxL _ _ _ _ _); refine Go.g_ixL (by walk_at "sq") (by rfl) ?_)
  | ((with_reducible show rIxT _ _ _ _ _); refine Go.g_ixT (by walk_at "sq") (by rfl) ?_)
  | ((with_reducible show rSetL _ _ _ _ _); refine Go.g_setL (by walk_at "hp") (by rfl) ?_)
  | ((with_reducible show ∃ p ys, [V.ref _] = [V.ref p] ∧ (SqL _ _ _ _ ∨ SqT _ _ _ _) ∧ _); refine ⟨_, _, rfl, .inl (by walk_at "sq"), ?_⟩)
  | ((with_reducible show (∃ i, [V.int _] = [V.int i] ∧ _) ∨ _); refine .inl ⟨_, rfl, ?_⟩)
  | ((with_reducible show ∃ (c : Nat) (z : Str), V.str _ = V.str ⟨#[c]⟩ ∧ V.str _ = V.str z ∧ _); refine ⟨_, _, rfl, rfl, ?_⟩)
  | ((with_reducible show ∃ x : Str, [V.str _] = [V.str x] ∧ Str.length x = 1 ∧ _); refine ⟨_, rfl, rfl, ?_⟩)
  | ((with_reducible show ∃ z : Str, [V.str _] = [V.str z] ∧ Str.length z ≤ sizeLine ∧ _); refine ⟨_, rfl, by assumption, ?_⟩)
  | ((with_reducible show rSlS _ _ _ _ _); refine ⟨_, rfl, by assumption, ?_⟩)
  | ((with_reducible show gTup _ _ _ _ _ _ _); refine Go.g_gtup (by walk_at "sq") (by rfl) ?_)
  | ((with_reducible show gCons _ _ _ _ _ _); refine ⟨_, _, rfl, ?_⟩)
  | ((with_reducible show gNil _ _ _ _); refine ⟨rfl, ?_⟩)
  | ((with_reducible show rLenS _ _ _ _); refine Go.g_lenL (by walk_at "sq") ?_)
  | ((with_reducible show rListOf _ _ _ _); refine Go.g_listL (by walk_at "sq") ?_)
  | ((with_reducible show wipe _ _ = wipe _ _ ∧ _); refine ⟨rfl, ?_⟩)
  | ((with_reducible show if true = true then _ else _); refine iteT ?_)
  | ((with_reducible show if false = true then _ else _); refine iteF ?_)
  | ((with_reducible show ∃ a b xs ys, [V.ref _, V.ref _] = [V.ref a, V.ref b] ∧ SqL _ _ a xs ∧ SqL _ _ b ys ∧ _); refine ⟨_, _, _, _, rfl, by walk_at "sq", by walk_at "sq", ?_⟩)
  | ((with_reducible show ∃ a xs, [V.ref _] = [V.ref a] ∧ SqL _ _ a xs ∧ _); refine ⟨_, _, rfl, by walk_at "sq", ?_⟩)
  | ((with_reducible show ∃ a, V.ref _ = V.ref a ∧ (∃ xs, SqL _ _ a xs) ∧ _); refine ⟨_, rfl, ⟨_, by walk_at "sq"⟩, ?_⟩)
  | ((with_reducible show ∃ a, V.ref _ = V.ref a ∧ (∃ xs, SqT _ _ a xs) ∧ _); refine ⟨_, rfl, ⟨_, by walk_at "sq"⟩, ?_⟩)
  | ((with_reducible show ∃ j : Int, [V.int _] = [V.int j] ∧ _ ≤ j ∧ j < _ ∧ _); refine ⟨_, rfl, by omega, by omega, ?_⟩)
  | ((with_reducible show ∃ i j : Int, [V.int _, V.int _] = [V.int i, V.int j] ∧ (_ ≤ i ∧ i < _ ∧ _ ≤ j ∧ j < _) ∧ _); refine ⟨_, _, rfl, ⟨by omega, by omega, by omega, by omega⟩, ?_⟩)
  | ((with_reducible show ∃ i j : Int, [V.int _, V.int _] = [V.int i, V.int j] ∧ _); refine ⟨_, _, rfl, ?_⟩)
  | ((with_reducible show ∃ i : Int, [V.int _] = [V.int i] ∧ _); refine ⟨_, rfl, ?_⟩)
  | ((with_reducible show _ ≤ sizeLine ∧ _); refine ⟨by first | decide | (simp only [List.length_cons, List.length_nil]; decide), ?_⟩))
local macro_rules | `(tactic| walk_at "g1") => `(tactic| first | walk_at "g0" | with_reducible refine Go.g_sub ?_)
local macro_rules | `(tactic| walk_at "g") => `(tactic| repeat walk_at "g1")
local macro_rules | `(tactic| walk_at "v") => `(tactic| repeat walk_at "g0")
local macro_rules | `(tactic| walk_at "if") => `(tactic| first
  | with_reducible refine @Go.g_itd _ _ _ _ ?_ ?_
  | with_reducible refine @Go.g_itnd _ _ _ _ ?_ ?_
  | with_reducible refine Go.g_ite ?_ ?_)

section
variable {P : Program} {w : World} {K : PySem.W.Frag} {mg : Str → Option Value} {base : Heap}
/-- a list r of its own that is made while numbers are taken -/
structure Rw (H0 H : Hp) (st ce r : Addr) (xs : List Int) : Prop where
  k : Kp2 st ce H0 H
  S : TSt H st ce
  n : H0 r = none
  e : H r = some (.lst (xs.map V.int))
  rs : r ≠ st
  rc : r ≠ ce
theorem Rw.start {H : Hp} {st ce r : Addr} {xs : List Int} (S : TSt H st ce) (n : H r = none) : Rw H (upd H r (.lst (xs.map V.int))) st ce r xs :=
  ⟨(Kp2.refl st ce H).new n, S.new n, n, upd_same, (S.ne n).1, (S.ne n).2⟩
theorem Rw.take {H0 H H1 : Hp} {st ce r : Addr} {xs : List Int} (R : Rw H0 H st ce r xs) (k : Kp2 st ce H H1) (S : TSt H1 st ce) : Rw H0 H1 st ce r xs :=
  ⟨R.k.trans k, S, R.n, k _ _ R.rs R.rc R.e, R.rs, R.rc⟩
theorem Rw.new {H0 H : Hp} {st ce r p : Addr} {xs : List Int} {o : HO} (R : Rw H0 H st ce r xs) (n : H p = none) : Rw H0 (upd H p o) st ce r xs :=
  ⟨R.k.new n, R.S.new n, R.n, at_upd (ne_of_none R.e n) R.e, R.rs, R.rc⟩
theorem Kp2.mut {a b p : Addr} {H H1 : Hp} {o : HO} (x : Kp2 a b H H1) (n : H p = none) : Kp2 a b H (upd H1 p o) := fun c u h1 h2 e => at_upd (ne_of_none e n) (x c u h1 h2 e)
theorem Rw.set {H0 H : Hp} {st ce r : Addr} {xs : List Int} (R : Rw H0 H st ce r xs) (ys : List Int) : Rw H0 (upd H r (.lst (ys.map V.int))) st ce r ys :=
  ⟨Kp2.mut R.k R.n, R.S.set ⟨R.rs, R.rc⟩, R.n, upd_same, R.rs, R.rc⟩
/-- another list of its own -/
theorem Rw.other {H0 H : Hp} {st ce r p : Addr} {xs ys : List Int} (R : Rw H0 H st ce r xs) (n0 : H0 p = none) (n : H p = none) : Rw H0 (upd H p (.lst (ys.map V.int))) st ce p ys :=
  ⟨R.k.new n, R.S.new n, n0, upd_same, (R.S.ne n).1, (R.S.ne n).2⟩
theorem Kp2.free {a b p : Addr} {H H1 : Hp} (x : Kp2 a b H H1) (S : TSt H1 a b) (n : H1 p = none) : H p = none := by
  cases e : H p with
  | none => rfl
  | some o =>
    obtain ⟨h1, h2⟩ := S.ne n
    · · have := x p o h1 h2 e
        rw [n] at this; cases this
def cutI (xs : List Int) (lo hi : Option Int) : List Int := (xs.drop (HT.sIx xs.length 0 lo)).take (HT.sIx xs.length xs.length hi - HT.sIx xs.length 0 lo)
theorem cutI_map (xs : List Int) (lo hi : Option Int) : cutV (xs.map V.int) lo hi = (cutI xs lo hi).map V.int := by
  unfold cutV cutI; rw [List.length_map, ← List.map_drop, ← List.map_take]
theorem cutI_len (xs : List Int) (lo hi : Option Int) : (cutI xs lo hi).length ≤ xs.length := by
  unfold cutI; rw [List.length_take, List.length_drop]; omega
theorem sz {n : Nat} (h : n ≤ 1000) : n ≤ sizeLine := Nat.le_trans h (by decide)
def sp__law_bent (K : PySem.W.Frag) : Sp := fun vs H Q _ => ∃ (st ce pa : Addr) (p : List Int), vs = [.ref st, .ref pa] ∧ TSt H st ce ∧ st ≠ ce ∧ SqL K H pa (p.map V.int) ∧ 1 ≤ p.length ∧ p.length ≤ 40 ∧
  ∀ (H' : Hp) (r : Addr) (row : List Int), Kp2 st ce H H' → TSt H' st ce → H r = none → H' r = some (.lst (row.map V.int)) → row.length ≤ 90 → Q (.ref r) H'
theorem ok__law_bent (T : Txt K mg) : FnOk P w K mg base CX0 2 T.a__law_bent T.fd__law_bent ["state", "parts"] (sp__law_bent K) := by
  refine T.F__law_bent.ok sc__law_bent (fun vs H Q E h => ?_) (fun cdv A outer s H vs Q E hr h => ?_)
  · obtain ⟨st, ce, pa, p, rfl, _⟩ := h; rfl
  · obtain ⟨st, ce, pa, p, rfl, S, hne, hp, l1, l2, q⟩ := h
    have lpm : (p.map V.int).length = p.length := List.length_map ..
    refine ⟨_, pss_cons (ps_set (i := 2) sc__law_bent.nd rfl (.inl rfl) (pe_callTy call_listS (by rfl) T.n_list (by decide +kernel) (pa_cons (pv 1) pa_nil)))
      (pss_cons (ps_par (i := 3) (j := 4) (by rfl) sc__law_bent.nd rfl rfl (by decide) rfl rfl (pa_cons (pe_call (ok__law_take T) hr (by rfl) T.g__law_take T.F__law_take.kp T.b__law_take .nil pass0 (pa_cons (pv 0) (pa_cons (pe_callB call_lenS (by rfl) T.n_len PySem.boot_len (pa_cons (pv 2) pa_nil)) pa_nil))) (pa_cons (pe_call (ok__law_take T) hr (by rfl) T.g__law_take T.F__law_take.kp T.b__law_take .nil pass0 (pa_cons (pv 0) (pa_cons (pe_callB call_lenS (by rfl) T.n_len PySem.boot_len (pa_cons (pv 2) pa_nil)) pa_nil))) pa_nil)) (by rfl))
      (pss_cons (ps_set (i := 5) sc__law_bent.nd rfl (.inl rfl) (pe_call (ok__law_take T) hr (by rfl) T.g__law_take T.F__law_take.kp T.b__law_take .nil pass0 (pa_cons (pv 0) (pa_cons pe_int pa_nil))))
      (C8.pss_cut (ps_if (pt_cmpR op_lt (pv 5) pe_int (nomark _))
        (pss_cons (ps_asg (pe_op op_add (pe_ix ix_list (pv 2) (pv 3) (fun _ _ => rfl)) pe_int) (pg_sub (pv 2) (pv 3) set_list))
        (pss_one (ps_asg (pe_op op_sub (pe_ix ix_list (pv 2) (pv 4) (fun _ _ => rfl)) pe_int) (pg_sub (pv 2) (pv 4) set_list))))
        (pss_one (ps_if (pt_cmpR op_eq (pv 5) pe_int (nomark _))
          (pss_one (ps_asg (pe_tup (pa_cons (pe_ix ix_list (pv 2) (pv 4) (fun _ _ => rfl)) (pa_cons (pe_ix ix_list (pv 2) (pv 3) (fun _ _ => rfl)) pa_nil))) (pg_tup rfl (pgs_cons (pg_sub (pv 2) (pv 3) set_list) (pgs_cons (pg_sub (pv 2) (pv 4) set_list) pgs_nil)))))
          (pss_one (ps_if (pt_cmpR op_eq (pv 5) pe_int (nomark _))
            (pss_one (ps_asg (pe_op op_add (pe_ix ix_list (pv 2) (pv 3) (fun _ _ => rfl)) (pe_ix ix_list (pe_lst (pa_cons pe_int (pa_cons (pe_op op_sub pe_int pe_int) pa_nil))) (pe_call (ok__law_take T) hr (by rfl) T.g__law_take T.F__law_take.kp T.b__law_take .nil pass0 (pa_cons (pv 0) (pa_cons pe_int pa_nil))) (fun _ _ => rfl))) (pg_sub (pv 2) (pv 3) set_list)))
            (pss_one (ps_if (pt_cmpR op_eq (pv 5) pe_int (nomark _))
              (pss_one (ps_set (i := 2) sc__law_bent.nd rfl (.inl rfl) (pe_op op_cat (pe_slice sl_list (pv 2) po_none (po_some (pv 3))) (pe_slice sl_list (pv 2) (po_some (pe_op op_add (pv 3) pe_int)) po_none))))
              (pss_one (ps_if (pt_cmpR op_eq (pv 5) pe_int (nomark _))
                (pss_one (ps_set (i := 2) sc__law_bent.nd rfl (.inl rfl) (pe_op op_cat (pv 2) (pe_lst (pa_cons pe_int pa_nil)))))
                (pss_cons (ps_set (i := 6) sc__law_bent.nd rfl (.inl rfl) (pe_op op_add pe_int (pe_call (ok__law_take T) hr (by rfl) T.g__law_take T.F__law_take.kp T.b__law_take .nil pass0 (pa_cons (pv 0) (pa_cons pe_int pa_nil)))))
                (pss_cons (ps_asg (pe_op op_add (pe_ix ix_list (pv 2) (pv 3) (fun _ _ => rfl)) (pv 6)) (pg_sub (pv 2) (pv 3) set_list))
                (pss_one (ps_asg (pe_op op_sub (pe_ix ix_list (pv 2) (pv 4) (fun _ _ => rfl)) (pv 6)) (pg_sub (pv 2) (pv 4) set_list))))))))))))))
      (pss_one (ps_ret (pv 2)))))), ?_⟩
    walk_at "g"
    intro r nr
    have R1 : Rw H (upd H r (.lst (p.map V.int))) st ce r p := Rw.start S nr
    walk_at "g"
    refine ⟨st, ce, _, rfl, R1.S, hne, by omega, by omega, fun H2 one k2 S2 a2 b2 => ?_⟩
    have R2 := R1.take k2 S2
    clear k2 S2 R1
    have er2 := R2.e
    walk_at "g"
    refine ⟨st, ce, _, rfl, R2.S, hne, by omega, by omega, fun H3 other k3 S3 a3 b3 => ?_⟩
    have R3 := R2.take k3 S3
    clear k3 S3 R2 er2
    walk_at "g"
    refine ⟨st, ce, _, rfl, R3.S, hne, by decide, by decide, fun H4 kind k4 S4 a4 b4 => ?_⟩
    have R4 := R3.take k4 S4
    clear k4 S4 R3
    walk_at "g"
    refine g_cut (fun σ' H' => ∃ (r : Addr) (row : List Int) (y3 y4 y5 y6 : Option V), σ' = [some (.ref st), some (.ref pa), some (.ref r), y3, y4, y5, y6] ∧ Rw H H' st ce r row ∧ row.length ≤ 90) ?_ ?_
    · have er4 := R4.e
      have ln : ((p.map V.int).length : Int) = p.length := by omega
      walk_at "g"
      walk_at "if" <;> intro e1
      · walk_at "g"
        refine g_ixL (by walk_at "sq") (at0_at (k := one.toNat) (by omega) (by omega)) ?_
        walk_at "g"
        refine g_setL R4.e (ixN_some (by omega) (by omega)) ?_
        rw [set_map]
        have R6 := R4.set (p.set one.toNat (at0 p one.toNat + 1))
        have l6 : (p.set one.toNat (at0 p one.toNat + 1)).length = p.length := List.length_set ..
        obtain ⟨p6, e6⟩ : ∃ p6, p6 = p.set one.toNat (at0 p one.toNat + 1) := ⟨_, rfl⟩
        rw [← e6] at R6 l6 ⊢
        have lp6 : (p6.map V.int).length = p6.length := List.length_map ..
        have er6 := R6.e
        walk_at "g"
        refine g_ixL (by walk_at "sq") (at0_at (k := other.toNat) (by omega) (by omega)) ?_
        walk_at "g"
        refine g_setL er6 (ixN_some (by omega) (by omega)) ?_
        rw [set_map]
        exact ⟨_, _, _, _, _, _, rfl, R6.set _, by rw [List.length_set]; omega⟩
      walk_at "g"
      walk_at "if" <;> intro e2
      · walk_at "g"
        refine g_ixL (by walk_at "sq") (at0_at (k := other.toNat) (by omega) (by omega)) ?_
        walk_at "g"
        refine g_ixL (by walk_at "sq") (at0_at (k := one.toNat) (by omega) (by omega)) ?_
        walk_at "g"
        intro t nt
        have R5 := R4.new (o := .tup [.int (at0 p other.toNat), .int (at0 p one.toNat)]) nt
        walk_at "g"
        refine g_setL R5.e (ixN_some (by omega) (by omega)) ?_
        rw [set_map]
        have R6 := R5.set (p.set one.toNat (at0 p other.toNat))
        have l6 : (p.set one.toNat (at0 p other.toNat)).length = p.length := List.length_set ..
        obtain ⟨p6, e6⟩ : ∃ p6, p6 = p.set one.toNat (at0 p other.toNat) := ⟨_, rfl⟩
        rw [← e6] at R6 l6 ⊢
        have lp6 : (p6.map V.int).length = p6.length := List.length_map ..
        walk_at "g"
        refine g_setL R6.e (ixN_some (by omega) (by omega)) ?_
        rw [set_map]
        walk_at "g"
        exact ⟨_, _, _, _, _, _, rfl, R6.set _, by rw [List.length_set]; omega⟩
      walk_at "g"
      walk_at "if" <;> intro e3
      · walk_at "g"
        refine g_ixL (by walk_at "sq") (at0_at (k := one.toNat) (by omega) (by omega)) ?_
        walk_at "g"
        intro m nm
        have R5 := R4.new (o := .lst [.int 1, .int (0 - 1)]) nm
        obtain ⟨ms, mc⟩ := R4.S.ne nm
        walk_at "g"
        refine ⟨st, ce, _, rfl, R5.S, hne, by decide, by decide, fun H6 d6 k6 S6 a6 b6 => ?_⟩
        have em := k6 _ _ ms mc upd_same
        have R6 := R5.take k6 S6
        obtain ⟨x, ex⟩ : ∃ x : Int, atI [V.int 1, V.int (0 - 1)] d6 = some (.int x) := by
          have : d6 = 0 ∨ d6 = 1 := by omega
          rcases this with rfl | rfl
          · exact ⟨1, rfl⟩
          · exact ⟨0 - 1, rfl⟩
        refine g_ixL (SqL.of em) ex ?_
        walk_at "g"
        refine g_setL R6.e (ixN_some (by omega) (by omega)) ?_
        rw [set_map]
        exact ⟨_, _, _, _, _, _, rfl, R6.set _, by rw [List.length_set]; omega⟩
      walk_at "g"
      walk_at "if" <;> intro e4
      · walk_at "g"
        refine ⟨r, _, rfl, SqL.of R4.e, fun x nx => ?_⟩
        rw [cutI_map]
        have R5 := R4.new (o := .lst ((cutI p none (some one)).map V.int)) nx
        walk_at "g"
        refine ⟨r, _, rfl, SqL.of R5.e, fun y ny => ?_⟩
        rw [cutI_map]
        have R6 := R5.new (o := .lst ((cutI p (some (one + 1)) none).map V.int)) ny
        have ex : upd (upd H4 x (.lst ((cutI p none (some one)).map V.int))) y (.lst ((cutI p (some (one + 1)) none).map V.int)) x = some (.lst ((cutI p none (some one)).map V.int)) := at_upd (ne_of_none upd_same ny) upd_same
        have q1 := cutI_len p none (some one)
        have q2 := cutI_len p (some (one + 1)) none
        walk_at "g"
        refine ⟨x, y, _, _, rfl, rfl, ex, upd_same, by rw [List.length_map, List.length_map]; exact sz (by omega), fun z nz => ?_⟩
        walk_at "g"
        rw [← List.map_append]
        exact ⟨_, _, _, _, _, _, rfl, R6.other (Kp2.free R6.k R6.S nz) nz, by rw [List.length_append]; omega⟩
      walk_at "g"
      walk_at "if" <;> intro e5
      · walk_at "g"
        intro m nm
        have R5 := R4.new (o := .lst [.int 0]) nm
        walk_at "g"
        refine ⟨r, m, _, [.int 0], rfl, rfl, R5.e, upd_same, by rw [lpm]; exact sz (by simp; omega), fun z nz => ?_⟩
        walk_at "g"
        have ea : p.map V.int ++ [.int 0] = (p ++ [0]).map V.int := by rw [List.map_append]; rfl
        rw [ea]
        exact ⟨_, _, _, _, _, _, rfl, R5.other (Kp2.free R5.k R5.S nz) nz, by simp; omega⟩
      walk_at "g"
      refine ⟨st, ce, _, rfl, R4.S, hne, by decide, by decide, fun H6 d6 k6 S6 a6 b6 => ?_⟩
      have R6 := R4.take k6 S6
      have er5 := R6.e
      walk_at "g"
      refine g_ixL (by walk_at "sq") (at0_at (k := one.toNat) (by omega) (by omega)) ?_
      walk_at "g"
      refine g_setL R6.e (ixN_some (by omega) (by omega)) ?_
      rw [set_map]
      have R7 := R6.set (p.set one.toNat (at0 p one.toNat + (1 + d6)))
      have l6 : (p.set one.toNat (at0 p one.toNat + (1 + d6))).length = p.length := List.length_set ..
      obtain ⟨p6, e6⟩ : ∃ p6, p6 = p.set one.toNat (at0 p one.toNat + (1 + d6)) := ⟨_, rfl⟩
      rw [← e6] at R7 l6 ⊢
      have lp6 : (p6.map V.int).length = p6.length := List.length_map ..
      have er6 := R7.e
      walk_at "g"
      refine g_ixL (by walk_at "sq") (at0_at (k := other.toNat) (by omega) (by omega)) ?_
      walk_at "g"
      refine g_setL er6 (ixN_some (by omega) (by omega)) ?_
      rw [set_map]
      exact ⟨_, _, _, _, _, _, rfl, R7.set _, by rw [List.length_set]; omega⟩
    rintro σ' H5 ⟨r5, row, y3, y4, y5, y6, rfl, R5, l5⟩
    walk_at "g"
    exact q H5 r5 row R5.k R5.S R5.n R5.e l5
def sp__law_weights (K : PySem.W.Frag) : Sp := fun vs H Q _ => ∃ (st ce : Addr), vs = [.ref st] ∧ TSt H st ce ∧ st ≠ ce ∧
  ∀ (H' : Hp) (r : Addr) (w : List Int), Kp2 st ce H H' → TSt H' st ce → H r = none → H' r = some (.lst (w.map V.int)) → 1 ≤ w.length → w.length ≤ 40 → (∀ k, k < w.length → 1 ≤ at0 w k ∧ at0 w k ≤ 1000000) → Q (.ref r) H'
theorem ok__law_weights (T : Txt K mg) : FnOk P w K mg base CX0 2 T.a__law_weights T.fd__law_weights ["state"] (sp__law_weights K) := by
  refine T.F__law_weights.ok sc__law_weights (fun vs H Q E h => ?_) (fun cdv A outer s H vs Q E hr h => ?_)
  · obtain ⟨st, ce, rfl, _⟩ := h; rfl
  · obtain ⟨st, ce, rfl, S, hne, q⟩ := h
    refine ⟨_, pss_cons (ps_set (i := 1) sc__law_weights.nd rfl (.inl rfl) (pe_ix ix_list (pe_lst (pa_cons (pe_op op_add pe_int (pe_call (ok__law_take T) hr (by rfl) T.g__law_take T.F__law_take.kp T.b__law_take .nil pass0 (pa_cons (pv 0) (pa_cons pe_int pa_nil)))) (pa_cons (pe_op op_add pe_int (pe_call (ok__law_take T) hr (by rfl) T.g__law_take T.F__law_take.kp T.b__law_take .nil pass0 (pa_cons (pv 0) (pa_cons pe_int pa_nil)))) (pa_cons (pe_op op_add pe_int (pe_call (ok__law_take T) hr (by rfl) T.g__law_take T.F__law_take.kp T.b__law_take .nil pass0 (pa_cons (pv 0) (pa_cons pe_int pa_nil)))) pa_nil)))) (pe_call (ok__law_take T) hr (by rfl) T.g__law_take T.F__law_take.kp T.b__law_take .nil pass0 (pa_cons (pv 0) (pa_cons pe_int pa_nil))) (fun _ _ => rfl)))
      (pss_cons (ps_set (i := 2) sc__law_weights.nd rfl (.inl rfl) (pe_call (ok__law_take T) hr (by rfl) T.g__law_take T.F__law_take.kp T.b__law_take .nil pass0 (pa_cons (pv 0) (pa_cons pe_int pa_nil))))
      (pss_cons (ps_set (i := 3) sc__law_weights.nd rfl (.inl rfl) (pe_lst pa_nil))
      (pss_cons (ps_for PassesOwn.never rfl (pi_range1 (by rfl) T.n_range (pa_cons (pv 1) pa_nil)) (pg_name (i := 4) sc__law_weights.nd rfl (.inl rfl))
        (pss_one (ps_expr (pe_bm PySem.F.plainAttrs_list PySem.F.slot_list_append PySem.F.type_list_append mt_append (pv 3) (pa_cons (pe_ix ix_list (pe_lst (pa_cons pe_int (pa_cons (pe_op op_add pe_int (pe_call (ok__law_take T) hr (by rfl) T.g__law_take T.F__law_take.kp T.b__law_take .nil pass0 (pa_cons (pv 0) (pa_cons pe_int pa_nil)))) (pa_cons (pe_op op_add pe_int (pe_call (ok__law_take T) hr (by rfl) T.g__law_take T.F__law_take.kp T.b__law_take .nil pass0 (pa_cons (pv 0) (pa_cons pe_int pa_nil)))) (pa_cons (pe_op op_sub pe_int (pe_call (ok__law_take T) hr (by rfl) T.g__law_take T.F__law_take.kp T.b__law_take .nil pass0 (pa_cons (pv 0) (pa_cons pe_int pa_nil)))) pa_nil))))) (pe_ifExp (pt_cmpR op_gt (pe_call (ok__law_take T) hr (by rfl) T.g__law_take T.F__law_take.kp T.b__law_take .nil pass0 (pa_cons (pv 0) (pa_cons pe_int pa_nil))) pe_int (nomark _)) (pv 2) pe_int) (fun _ _ => rfl)) pa_nil)))))
      (pss_one (ps_ret (pv 3)))))), ?_⟩
    walk_at "g"
    refine ⟨st, ce, _, rfl, S, hne, by decide, by decide, fun H1 d1 k1 S1 a1 b1 => ?_⟩
    walk_at "g"
    refine ⟨st, ce, _, rfl, S1, hne, by decide, by decide, fun H2 d2 k2 S2 a2 b2 => ?_⟩
    have k2 := k1.trans k2
    walk_at "g"
    refine ⟨st, ce, _, rfl, S2, hne, by decide, by decide, fun H3 d3 k3 S3 a3 b3 => ?_⟩
    have k3 := k2.trans k3
    clear k1 k2 S1 S2
    walk_at "g"
    intro m nm
    walk_at "g"
    refine ⟨st, ce, _, rfl, S3.new nm, hne, by decide, by decide, fun H4 d4 k4 S4 a4 b4 => ?_⟩
    obtain ⟨ms, mc⟩ := S3.ne nm
    have em := k4 _ _ ms mc upd_same
    have k4 : Kp2 st ce H H4 := (k3.new nm).trans k4
    obtain ⟨many, hm1, hm2, eM⟩ : ∃ many : Int, 1 ≤ many ∧ many ≤ 40 ∧ atI [V.int (1 + d1), V.int (1 + d2), V.int (1 + d3)] d4 = some (.int many) := by
      have : d4 = 0 ∨ d4 = 1 ∨ d4 = 2 := by omega
      rcases this with rfl | rfl | rfl
      · exact ⟨1 + d1, by omega, by omega, rfl⟩
      · exact ⟨1 + d2, by omega, by omega, rfl⟩
      · exact ⟨1 + d3, by omega, by omega, rfl⟩
    refine g_ixL (SqL.of em) eM ?_
    walk_at "g"
    refine ⟨st, ce, _, rfl, S4, hne, by decide, by decide, fun H5 kind k5 S5 a5 b5 => ?_⟩
    have k5 : Kp2 st ce H H5 := k4.trans k5
    clear em eM k3 k4 S3 S4
    walk_at "g"
    intro r nr
    have R0 : Rw H (upd H5 r (.lst (([] : List Int).map V.int))) st ce r [] := ⟨k5.new nr, S5.new nr, Kp2.free k5 S5 nr, upd_same, (S5.ne nr).1, (S5.ne nr).2⟩
    walk_at "g"
    refine forW_range (fun i σ' H' => (∃ y4, σ' = [some (.ref st), some (.int many), some (.int kind), some (.ref r), y4]) ∧ ∃ w : List Int, Rw H H' st ce r w ∧ w.length = i ∧ ∀ k, k < w.length → 1 ≤ at0 w k ∧ at0 w k ≤ 1000000)
      ⟨⟨_, rfl⟩, [], R0, rfl, fun k h => by simp at h⟩ ?_ ?_
    · rintro i σ' H6 hi ⟨⟨y4, rfl⟩, w, R6, lw, bw⟩
      walk_at "g"
      refine ⟨.inl ⟨rfl, _, by first | exact SqL.of R6.e | exact R6.e⟩, ?_⟩
      walk_at "g"
      refine ⟨st, ce, _, rfl, R6.S, hne, by decide, by decide, fun H7 e1 k7 S7 a7 b7 => ?_⟩
      have R7 := R6.take k7 S7
      walk_at "g"
      refine ⟨st, ce, _, rfl, R7.S, hne, by decide, by decide, fun H8 e2 k8 S8 a8 b8 => ?_⟩
      have R8 := R7.take k8 S8
      walk_at "g"
      refine ⟨st, ce, _, rfl, R8.S, hne, by decide, by decide, fun H9 e3 k9 S9 a9 b9 => ?_⟩
      have R9 := R8.take k9 S9
      walk_at "g"
      intro m nm
      obtain ⟨ms, mc⟩ := R9.S.ne nm
      have R10 := R9.new (o := .lst [.int 1, .int (1 + e1), .int (1 + e2), .int (1000000 - e3)]) nm
      walk_at "g"
      refine ⟨st, ce, _, rfl, R10.S, hne, by decide, by decide, fun H11 e4 k11 S11 a11 b11 => ?_⟩
      have em := k11 _ _ ms mc upd_same
      have R11 := R10.take k11 S11
      have fin : ∀ j : Int, 0 ≤ j → j < 4 → ∃ x : Int, atI [V.int 1, V.int (1 + e1), V.int (1 + e2), V.int (1000000 - e3)] j = some (.int x) ∧ 1 ≤ x ∧ x ≤ 1000000 := by
        intro j h0 h4
        have : j = 0 ∨ j = 1 ∨ j = 2 ∨ j = 3 := by omega
        rcases this with rfl | rfl | rfl | rfl
        · exact ⟨_, rfl, by omega, by omega⟩
        · exact ⟨_, rfl, by omega, by omega⟩
        · exact ⟨_, rfl, by omega, by omega⟩
        · exact ⟨_, rfl, by omega, by omega⟩
      have app : ∀ x : Int, 1 ≤ x → x ≤ 1000000 → ∃ w' : List Int, Rw H (upd H11 r (.lst (w.map V.int ++ [.int x]))) st ce r w' ∧ w'.length = i + 1 ∧ ∀ k, k < w'.length → 1 ≤ at0 w' k ∧ at0 w' k ≤ 1000000 := by
        intro x h1 h2
        have ea : w.map V.int ++ [.int x] = (w ++ [x]).map V.int := by rw [List.map_append]; rfl
        rw [ea]
        refine ⟨w ++ [x], R11.set _, by simp [lw], fun k hk => ?_⟩
        by_cases h : k < w.length
        · have e : at0 (w ++ [x]) k = at0 w k := by rw [at0_get hk, at0_get h, List.getElem_append_left h]
          rw [e]; exact bw k h
        · have ek : k = w.length := by rw [List.length_append, List.length_singleton] at hk; omega
          have e : at0 (w ++ [x]) k = x := by rw [at0_get hk]; subst ek; simp
          rw [e]; exact ⟨h1, h2⟩
      walk_at "g"
      walk_at "if" <;> intro e
      · walk_at "g"
        obtain ⟨x, ex, x1, x2⟩ := fin kind (by omega) (by omega)
        refine g_ixL (SqL.of em) ex ?_
        walk_at "g"
        exact ⟨_, _, _, rfl, rfl, R11.e, by rw [List.length_map]; exact small1000 (by omega), ⟨_, rfl⟩, app x x1 x2⟩
      · walk_at "g"
        exact ⟨_, _, _, rfl, rfl, R11.e, by rw [List.length_map]; exact small1000 (by omega), ⟨_, rfl⟩, app (1 + e1) (by omega) (by omega)⟩
    · rintro σ' H6 ⟨⟨y4, rfl⟩, w, R6, lw, bw⟩
      walk_at "g"
      exact q H6 r w R6.k R6.S R6.n R6.e (by omega) (by omega) bw

end
end K32

namespace K32
open PySem PySem.Spec PyProof.Rows L2 Go
set_option maxHeartbeats 8000000
local macro_rules | `(tactic| walk_at "ne") => `(tactic| first
  | assumption
  | (refine Ne.symm ?_; assumption)
  | exact (Go.free_upd (by assumption)).2
  | exact (Go.free_upd (by assumption)).2.symm
  | exact Go.ne_fr (by assumption) (by walk_at "hp")
  | exact (Go.ne_fr (by assumption) (by walk_at "hp")).symm)
local macro_rules | `(tactic| walk_at "fr") => `(tactic| first
  | assumption
  | exact (Go.free_upd (by assumption)).1
  | exact (Go.free_upd (Go.free_upd (by assumption)).1).1
  | exact Same.free (by assumption) (by walk_at "fr"))
local macro_rules | `(tactic| walk_at "hp") => `(tactic| first
  | assumption
  | with_reducible exact upd_same
  | ((with_reducible show upd _ _ _ _ = _); exact Go.at_upd (by walk_at "ne") (by walk_at "hp"))
  | exact (by assumption : Same _ _) _ _ (by walk_at "hp")
  | exact (by assumption : Go.Kp _ _ _) _ _ (by walk_at "ne") (by walk_at "hp")
  | exact (by assumption : Go.Kp2 _ _ _ _) _ _ (by walk_at "ne") (by walk_at "ne") (by walk_at "hp"))
local macro_rules | `(tactic| walk_at "sq") => `(tactic| first
  | assumption
  | ((with_reducible show SqL _ (upd _ _ _) _ _); exact (by assumption : ∀ o, SqL _ (upd _ _ o) _ _) _)
  | ((with_reducible show SqL _ _ _ _); exact SqL.of (by walk_at "hp"))
  | ((with_reducible show SqT _ _ _ _); exact SqT.of (by walk_at "hp"))
  | ((with_reducible show SqL _ (upd _ _ _) _ _); exact Go.sqL_new (by walk_at "fr") (by walk_at "sq"))
  | ((with_reducible show SqT _ (upd _ _ _) _ _); exact Go.sqT_new (by walk_at "fr") (by walk_at "sq"))
  | ((with_reducible show SqL _ (upd _ _ _) _ _); exact Go.sqL_ne (by walk_at "ne") (by walk_at "sq"))
  | exact Go.sqL_same (by assumption) (by walk_at "sq")
  | exact Go.sqT_same (by assumption) (by walk_at "sq")
  | exact Go.sqL_kp (by assumption) (by walk_at "ne") (by walk_at "sq")
  | exact Go.sqT_kp (by assumption) (by walk_at "ne") (by walk_at "sq"))
local macro_rules | `(tactic| walk_at "ci") => `(tactic| first
  | exact .inr ⟨by decide, by decide⟩
  | exact .inl ⟨by decide, by decide⟩
  | exact ⟨by decide, by decide, by decide⟩
  | decide
  | omega
  | exact ⟨by omega, by omega⟩
  | exact .inl ⟨by omega, by omega⟩
  | exact .inr ⟨by omega, by omega⟩)
local macro_rules | `(tactic| walk_at "g0") => `(tactic| first
  | with_reducible refine Go.g_seq ?_
  | ((with_reducible show tVar _ _ _ _); refine ⟨_, rfl, ?_⟩)
  | with_reducible refine Go.g_c ?_
  | with_reducible refine Go.g_op ?_
  | with_reducible refine Go.g_asg ?_
  | with_reducible refine Go.g_name ?_
  | with_reducible refine Go.g_cons ?_
  | with_reducible refine Go.g_lst ?_
  | with_reducible refine Go.g_tup ?_
  | with_reducible refine Go.g_for ?_
  | with_reducible refine Go.g_rng1 ?_
  | with_reducible refine Go.g_rng2 ?_
  | with_reducible refine Go.g_rng3 ?_
  | with_reducible refine Go.g_list ?_
  | with_reducible refine Go.g_itup ?_
  | with_reducible refine Go.g_enum ?_
  | ((with_reducible show tPar _ _ _ _ _ _); unfold tPar)
  | ((with_reducible show ∃ v w, [_, _] = [v, w] ∧ _); refine ⟨_, _, rfl, ?_⟩)
  | with_reducible refine Go.g_zip ?_
  | with_reducible refine Go.g_augS ?_
  | with_reducible refine Go.g_lc ?_
  | with_reducible refine Go.g_nil ?_
  | with_reducible refine Go.g_cb ?_
  | with_reducible refine Go.g_call ?_
  | with_reducible refine Go.g_ret ?_
  | with_reducible refine Go.g_next ?_
  | with_reducible refine Go.g_drop ?_
  | with_reducible refine Go.g_un ?_
  | with_reducible refine Go.g_test ?_
  | with_reducible refine Go.g_tB ?_
  | with_reducible refine Go.g_ifs ?_
  | with_reducible refine Go.g_if ?_
  | with_reducible refine Go.g_and ?_
  | with_reducible refine Go.g_or ?_
  | with_reducible refine Go.g_not ?_
  | with_reducible refine Go.g_sl ?_
  | with_reducible refine Go.g_nopart ?_
  | with_reducible refine Go.g_part ?_
  | ((with_reducible show ∃ k, V.bl _ = V.bl k ∧ _); refine ⟨_, rfl, ?_⟩)
  | ((with_reducible show ∃ k, V.int _ = V.int k ∧ _); refine ⟨_, rfl, ?_⟩)
  | with_reducible refine Go.g_bm ?_
  | with_reducible refine Go.g_yes ?_
  | ((with_reducible show rI0 _ _ _ _ _); refine ⟨_, _, rfl, rfl, ?_⟩)
  | ((with_reducible show rI _ _ _ _ _ _); refine ⟨_, _, rfl, rfl, ?_, ?_⟩; (focus walk_at "ci"))
  | ((with_reducible show rU _ _ _ _); refine ⟨_, rfl, ?_⟩)
  | ((with_reducible show rEq _ _ _ _); refine ⟨rfl, ?_⟩)
  | ((with_reducible show rNe _ _ _ _); refine ⟨rfl, ?_⟩)
  | ((with_reducible show rIxL _ _ _ _ _); refine Go.g_ixL (by walk_at "sq") (by rfl) ?_)
  | ((with_reducible show rIxT _ _ _ _ _); refine Go.g_ixT (by walk_at "sq") (by rfl) ?_)
  | ((with_reducible show rSetL _ _ _ _ _); refine Go.g_setL (by walk_at "hp") (by rfl) ?_)
  | ((with_reducible show ∃ p ys, [V.ref _] = [V.ref p] ∧ (SqL _ _ _ _ ∨ SqT _ _ _ _) ∧ _); refine ⟨_, _, rfl, .inl (by walk_at "sq"), ?_⟩)
  | ((with_reducible show (∃ i, [V.int _] = [V.int i] ∧ _) ∨ _); refine .inl ⟨_, rfl, ?_⟩)
  | ((with_reducible show ∃ (c : Nat) (z : Str), V.str _ = V.str ⟨#[c]⟩ ∧ V.str _ = V.str z ∧ _); refine ⟨_, _, rfl, rfl, ?_⟩)
  | ((with_reducible show ∃ x : Str, [V.str _] = [V.str x] ∧ Str.length x = 1 ∧ _); refine ⟨_, rfl, rfl, ?_⟩)
  | ((with_reducible show ∃ z : Str, [V.str _] = [V.str z] ∧ Str.length z ≤ sizeLine ∧ _); refine ⟨_, rfl, by assumption, ?_⟩)
  | ((with_reducible show rSlS _ _ _ _ _); refine ⟨_, rfl, by assumption, ?_⟩)
  | ((with_reducible show gTup _ _ _ _ _ _ _); refine Go.g_gtup (by walk_at "sq") (by rfl) ?_)
  | ((with_reducible show gCons _ _ _ _ _ _); refine ⟨_, _, rfl, ?_⟩)
  | ((with_reducible show gNil _ _ _ _); refine ⟨rfl, ?_⟩)
  | ((with_reducible show rLenS _ _ _ _); refine Go.g_lenL (by walk_at "sq") ?_)
  | ((with_reducible show rListOf _ _ _ _); refine Go.g_listL (by walk_at "sq") ?_)
  | ((with_reducible show wipe _ _ = wipe _ _ ∧ _); refine ⟨rfl, ?_⟩)
  | ((with_reducible show if true = true then _ else _); refine iteT ?_)
  | ((with_reducible show if false = true then _ else _); refine iteF ?_)
  | ((with_reducible show ∃ a b xs ys, [V.ref _, V.ref _] = [V.ref a, V.ref b] ∧ SqL _ _ a xs ∧ SqL _ _ b ys ∧ _); refine ⟨_, _, _, _, rfl, by walk_at "sq", by walk_at "sq", ?_⟩)
  | ((with_reducible show ∃ a xs, [V.ref _] = [V.ref a] ∧ SqL _ _ a xs ∧ _); refine ⟨_, _, rfl, by walk_at "sq", ?_⟩)
  | ((with_reducible show ∃ a, V.ref _ = V.ref a ∧ (∃ xs, SqL _ _ a xs) ∧ _); refine ⟨_, rfl, ⟨_, by walk_at "sq"⟩, ?_⟩)
  | ((with_reducible show ∃ a, V.ref _ = V.ref a ∧ (∃ xs, SqT _ _ a xs) ∧ _); refine ⟨_, rfl, ⟨_, by walk_at "sq"⟩, ?_⟩)
  | ((with_reducible show ∃ j : Int, [V.int _] = [V.int j] ∧ _ ≤ j ∧ j < _ ∧ _); refine ⟨_, rfl, by omega, by omega, ?_⟩)
  | ((with_reducible show ∃ i j : Int, [V.int _, V.int _] = [V.int i, V.int j] ∧ (_ ≤ i ∧ i < _ ∧ _ ≤ j ∧ j < _) ∧ _); refine ⟨_, _, rfl, ⟨by omega, by omega, by omega, by omega⟩, ?_⟩)
  | ((with_reducible show ∃ i j : Int, [V.int _, V.int _] = [V.int i, V.int j] ∧ _); refine ⟨_, _, rfl, ?_⟩)
  | ((with_reducible show ∃ i : Int, [V.int _] = [V.int i] ∧ _); refine ⟨_, rfl, ?_⟩)
  | ((with_reducible show _ ≤ sizeLine ∧ _); refine ⟨by first | decide | (simp only [List.length_cons, List.length_nil]; decide), ?_⟩))
local macro_rules | `(tactic| walk_at "g1") => `(tactic| first | walk_at "g0" | with_reducible refine Go.g_sub ?_)
local macro_rules | `(tactic| walk_at "g") => `(tactic| repeat walk_at "g1")
local macro_rules | `(tactic| walk_at "v") => `(tactic| repeat walk_at "g0")
local macro_rules | `(tactic| walk_at "if") => `(tactic| first
  | with_reducible refine @Go.g_itd _ _ _ _ ?_ ?_
  | with_reducible refine @Go.g_itnd _ _ _ _ ?_ ?_
  | with_reducible refine Go.g_ite ?_ ?_)

section
variable {P : Program} {w : World} {K : PySem.W.Frag} {mg : Str → Option Value} {base : Heap}
def sp_law (K : PySem.W.Frag) : Sp := fun vs H Q _ => ∃ (sc : Addr) (ns : List Int), vs = [.ref sc] ∧ SqL K H sc (ns.map V.int) ∧ ns.length ≤ 63 ∧ ∀ H', Q (.bl true) H'
theorem law_start {K : PySem.W.Frag} {H : Hp} {a : Addr} {ns : List Int} (hl : ns.length ≤ 63) (hO : Only H) (hS : SqL K H a (ns.map V.int)) : sp_law K [.ref a] H (fun v _ => v = .bl true) fun _ _ _ => False :=
  ⟨a, ns, rfl, hS, hl, fun _ => rfl⟩
theorem kp_at {st ce a : Addr} {H H1 : Hp} {o : HO} (k : Kp2 st ce H H1) (n : a ≠ st ∧ a ≠ ce) (e : H a = some o) : H1 a = some o := k _ _ n.1 n.2 e
theorem eqv_ints : ∀ (a b : List Int), PyData.eqv (.list (a.map PyData.int)) (.list (b.map PyData.int)) = decide (a = b) := by
  have g : ∀ (a b : List Int), PyData.eqvAll (a.map PyData.int) (b.map PyData.int) = decide (a = b) := by
    intro a
    induction a with
    | nil =>
      intro b
      cases b with
      | nil => rfl
      | cons _ _ => rfl
    | cons x a ih =>
      intro b
      cases b with
      | nil => rfl
      | cons y b =>
        have e : PyData.eqvAll ((x :: a).map PyData.int) ((y :: b).map PyData.int) = ((x == y) && PyData.eqvAll (a.map PyData.int) (b.map PyData.int)) := by simp only [List.map_cons, PyData.eqvAll, PyData.eqv]
        rw [e, ih]
        by_cases h : x = y
        · subst h; simp
        · simp [h]
  intro a b
  rw [PyData.eqv]; exact g a b
theorem dp_ints {K : PySem.W.Frag} {H : Hp} {a : Addr} {xs : List Int} (h : SqL K H a (xs.map V.int)) : Dp K H (.ref a) (.list (xs.map PyData.int)) := by
  have g : ∀ l : List Int, DpAll K H (l.map V.int) (l.map PyData.int) := by
    intro l
    induction l with
    | nil => exact .nil
    | cons x l ih => exact .cons (.int x) ih
  exact .lst h (g xs)
theorem shaped_ints (xs : List Int) : SeqAt.shaped (.list (xs.map PyData.int)) = true := by
  have g : ∀ l : List Int, PyData.canLayAll0 (l.map PyData.int) = true ∧ PyData.depthAll (l.map PyData.int) ≤ 1 := by
    intro l
    induction l with
    | nil => exact ⟨rfl, by simp [PyData.depthAll]⟩
    | cons x l ih =>
      simp only [List.map_cons, PyData.canLayAll0, PyData.canLay0, PyData.depthAll, PyData.depth, Bool.true_and]
      exact ⟨ih.1, by have := ih.2; omega⟩
  have := g xs
  show (PyData.canLay0 (.list (xs.map PyData.int)) && decide (PyData.depth (.list (xs.map PyData.int)) ≤ 64)) = true
  rw [Bool.and_eq_true]
  refine ⟨by simp only [PyData.canLay0]; exact this.1, decide_eq_true ?_⟩
  simp only [PyData.depth]
  omega
theorem ok_law (T : Txt K mg) : FnOk P w K mg base CX0 3 T.a_law T.fd_law ["script"] (sp_law K) := by
  refine T.F_law.ok sc_law (fun vs H Q E h => ?_) (fun cdv A outer s H vs Q E hr h => ?_)
  · obtain ⟨sc, ns, rfl, _⟩ := h; rfl
  · obtain ⟨sc, ns, rfl, hS, hlen, q⟩ := h
    refine ⟨_, pss_cons (ps_set (i := 1) sc_law.nd rfl (.inl rfl) (pe_call (ok__law_state T) (hr.mono (by decide)) (by rfl) T.g__law_state T.F__law_state.kp T.b__law_state .nil pass0 (pa_cons (pv 0) pa_nil)))
      (pss_cons (ps_for PassesOwn.never rfl (pi_range1 (by rfl) T.n_range (pa_cons pe_int pa_nil)) (pg_name (i := 2) sc_law.nd rfl (.inl rfl))
        (pss_cons (ps_set (i := 3) sc_law.nd rfl (.inl rfl) (pe_call (ok__law_weights T) hr (by rfl) T.g__law_weights T.F__law_weights.kp T.b__law_weights .nil pass0 (pa_cons (pv 1) pa_nil)))
        (pss_cons (ps_set (i := 4) sc_law.nd rfl (.inl rfl) (pe_call (ok__law_take T) (hr.mono (by decide)) (by rfl) T.g__law_take T.F__law_take.kp T.b__law_take .nil pass0 (pa_cons (pv 1) (pa_cons pe_int pa_nil))))
        (pss_cons (ps_set (i := 5) sc_law.nd rfl (.inl rfl) (pe_ix ix_list (pe_lst (pa_cons (pv 4) (pa_cons (pe_call (ok__law_take T) (hr.mono (by decide)) (by rfl) T.g__law_take T.F__law_take.kp T.b__law_take .nil pass0 (pa_cons (pv 1) (pa_cons (pe_op op_add (pe_op op_mul pe_int (pe_callB (cr_sum rfl) (by rfl) T.n_sum (by decide +kernel) (pa_cons (pv 3) pa_nil))) pe_int) pa_nil))) (pa_cons (pe_call (ok__law_take T) (hr.mono (by decide)) (by rfl) T.g__law_take T.F__law_take.kp T.b__law_take .nil pass0 (pa_cons (pv 1) (pa_cons pe_int pa_nil))) (pa_cons pe_int pa_nil))))) (pe_call (ok__law_take T) (hr.mono (by decide)) (by rfl) T.g__law_take T.F__law_take.kp T.b__law_take .nil pass0 (pa_cons (pv 1) (pa_cons pe_int pa_nil))) (fun _ _ => rfl)))
        (pss_cons (ps_set (i := 5) sc_law.nd rfl (.inl rfl) (pe_callB (call_min2 rfl) (by rfl) T.n_min (by decide +kernel) (pa_cons (pv 5) (pa_cons pe_int pa_nil))))
        (pss_cons (ps_set (i := 6) sc_law.nd rfl (.inl rfl) (pe_callTy call_listS (by rfl) T.n_list (by decide +kernel) (pa_cons (pv 3) pa_nil)))
        (pss_cons (ps_set (i := 7) sc_law.nd rfl (.inl rfl) (pe_call (ok_running T) hr (by rfl) T.g_running T.F_running.kp T.b_running .nil pass0 (pa_cons (pv 5) (pa_cons (pv 3) pa_nil))))
        (pss_cons (ps_if (PW.pt (pw_or (pt_not (pt_truth (pe_callB call_isi (by rfl) T.n_isinstance (by decide +kernel) (pa_cons (pv 7) (pa_cons (pe_bltn (v := .ty "list") (u := .type "list") (by rfl) T.n_list (by decide +kernel) rfl) pa_nil))) (by intro _; rfl))) (pw_or (pt_cmpR (op_neD hr.units) (pv 3) (pv 6) (nomark _)) (pw_or1 (pt_cmpR op_notN (pe_call (ok__law_fault T) hr (by rfl) T.g__law_fault T.F__law_fault.kp T.b__law_fault .nil pass0 (pa_cons (pv 5) (pa_cons (pv 3) (pa_cons (pv 7) pa_nil)))) pe_non (nomark _))))))
          (pss_one (ps_ret pe_bl))
          (pss_nil))
        (pss_cons (ps_set (i := 8) sc_law.nd rfl (.inl rfl) (pe_op op_rep (pe_lst (pa_cons pe_int pa_nil)) (pe_callB call_lenS (by rfl) T.n_len PySem.boot_len (pa_cons (pv 3) pa_nil))))
        (pss_cons (ps_for PassesOwn.never rfl (pi_range1 (by rfl) T.n_range (pa_cons (pv 4) pa_nil)) (pg_name (i := 9) sc_law.nd rfl (.inl rfl))
          (pss_cons (ps_set (i := 10) sc_law.nd rfl (.inl rfl) (pe_call (ok__law_next T) (hr.mono (by decide)) (by rfl) T.g__law_next T.F__law_next.kp T.b__law_next .nil pass0 (pa_cons (pv 8) (pa_cons (pv 3) pa_nil))))
          (pss_one (ps_asg (pe_op op_add (pe_ix ix_list (pv 8) (pv 10) (fun _ _ => rfl)) pe_int) (pg_sub (pv 8) (pv 10) set_list)))))
        (pss_cons (ps_if (PW.pt (pw_or (pt_cmpR (op_neD hr.units) (pe_call (ok_running T) hr (by rfl) T.g_running T.F_running.kp T.b_running .nil pass0 (pa_cons (pv 4) (pa_cons (pv 3) pa_nil))) (pv 8) (nomark _)) (pw_or1 (pt_cmpR op_notN (pe_call (ok_running_fault T) hr (by rfl) T.g_running_fault T.F_running_fault.kp T.b_running_fault .nil pass0 (pa_cons (pv 5) (pa_cons (pv 3) (pa_cons (pv 7) pa_nil)))) pe_non (nomark _)))))
          (pss_one (ps_ret pe_bl))
          (pss_nil))
        (C8.pss_cut (ps_if (pt_cmpR op_lt (pv 5) pe_int (nomark _))
          (pss_cons (ps_set (i := 11) sc_law.nd rfl (.inl rfl) (pe_callTy call_listS (by rfl) T.n_list (by decide +kernel) (pa_cons (pv 7) pa_nil)))
          (pss_cons (ps_set (i := 10) sc_law.nd rfl (.inl rfl) (pe_call (ok__law_next T) (hr.mono (by decide)) (by rfl) T.g__law_next T.F__law_next.kp T.b__law_next .nil pass0 (pa_cons (pv 11) (pa_cons (pv 3) pa_nil))))
          (pss_cons (ps_asg (pe_op op_add (pe_ix ix_list (pv 11) (pv 10) (fun _ _ => rfl)) pe_int) (pg_sub (pv 11) (pv 10) set_list))
          (pss_one (ps_if (pt_cmpR (op_neD hr.units) (pe_call (ok_running T) hr (by rfl) T.g_running T.F_running.kp T.b_running .nil pass0 (pa_cons (pe_op op_add (pv 5) pe_int) (pa_cons (pv 3) pa_nil))) (pv 11) (nomark _))
            (pss_one (ps_ret pe_bl))
            (pss_nil))))))
          (pss_nil))
        (pss_one (ps_for PassesOwn.never rfl (pi_range1 (by rfl) T.n_range (pa_cons pe_int pa_nil)) (pg_name (i := 9) sc_law.nd rfl (.inl rfl))
          (pss_cons (ps_set (i := 12) sc_law.nd rfl (.inl rfl) (pe_call (ok__law_bent T) hr (by rfl) T.g__law_bent T.F__law_bent.kp T.b__law_bent .nil pass0 (pa_cons (pv 1) (pa_cons (pv 7) pa_nil))))
          (pss_cons (ps_set (i := 13) sc_law.nd rfl (.inl rfl) (pe_callTy call_listS (by rfl) T.n_list (by decide +kernel) (pa_cons (pv 12) pa_nil)))
          (pss_cons (ps_if (PW.pt (pw_or (pt_cmpR (op_neD hr.units) (pe_call (ok_running_fault T) hr (by rfl) T.g_running_fault T.F_running_fault.kp T.b_running_fault .nil pass0 (pa_cons (pv 5) (pa_cons (pv 3) (pa_cons (pv 13) pa_nil)))) (pe_call (ok__law_fault T) hr (by rfl) T.g__law_fault T.F__law_fault.kp T.b__law_fault .nil pass0 (pa_cons (pv 5) (pa_cons (pv 3) (pa_cons (pv 12) pa_nil)))) (nomark _)) (pw_or1 (pt_cmpR (op_neD hr.units) (pv 13) (pv 12) (nomark _)))))
            (pss_one (ps_ret pe_bl))
            (pss_nil))
          (pss_one (ps_if (pt_cmpR op_ne (pe_cmpR (op_eqD hr.units) (pv 12) (pv 7) (nomark _)) (pe_cmpR op_isN (pe_call (ok__law_fault T) hr (by rfl) T.g__law_fault T.F__law_fault.kp T.b__law_fault .nil pass0 (pa_cons (pv 5) (pa_cons (pv 3) (pa_cons (pv 12) pa_nil)))) pe_non (nomark _)) (nomark _))
            (pss_one (ps_ret pe_bl))
            (pss_nil))))))))))))))))))))
      (pss_one (ps_ret pe_bl))), ?_⟩
    walk_at "g"
    refine ⟨sc, ns, rfl, hS, hlen, fun H1 st ce s1 S1 hne => ?_⟩
    walk_at "g"
    refine forW_range (fun i σ' H' => (∃ y2 y3 y4 y5 y6 y7 y8 y9 y10 y11 y12 y13, σ' = [some (.ref sc), some (.ref st), y2, y3, y4, y5, y6, y7, y8, y9, y10, y11, y12, y13]) ∧ TSt H' st ce)
      ⟨⟨_, _, _, _, _, _, _, _, _, _, _, _, rfl⟩, S1⟩ ?_ ?_
    · rintro i σ' H2 hi ⟨⟨y2, y3, y4, y5, y6, y7, y8, y9, y10, y11, y12, y13, rfl⟩, S2⟩
      walk_at "g"
      refine ⟨st, ce, rfl, S2, hne, fun H3 wa w k3 S3 nw ew l1 l2 bw => ?_⟩
      have nwa := S2.ne nw
      clear S2 k3 nw
      have nodd : ∀ {c : Prop}, (!true) = true → c := fun z => by cases z
      walk_at "g"
      refine ⟨st, ce, _, rfl, S3, hne, by decide, by decide, fun H4 small k4 S4 a4 b4 => ?_⟩
      have ew := kp_at k4 nwa ew
      have hs := sum_bounds (w := w) (fun k hk => (bw k hk).1) (fun k hk => (bw k hk).2)
      walk_at "g"
      refine ⟨wa, w, rfl, SqL.of ew, ?_⟩
      walk_at "g"
      refine ⟨st, ce, _, rfl, S4, hne, by omega, by omega, fun H5 d5 k5 S5 a5 b5 => ?_⟩
      have ew := kp_at k5 nwa ew
      walk_at "g"
      refine ⟨st, ce, _, rfl, S5, hne, by decide, by decide, fun H6 d6 k6 S6 a6 b6 => ?_⟩
      have ew := kp_at k6 nwa ew
      walk_at "g"
      intro m nm
      have nma := S6.ne nm
      have S7 := S6.new (o := .lst [.int small, .int d5, .int d6, .int 3999999996]) nm
      have ew := at_upd (o := .lst [.int small, .int d5, .int d6, .int 3999999996]) (ne_of_none ew nm) ew
      walk_at "g"
      refine ⟨st, ce, _, rfl, S7, hne, by decide, by decide, fun H8 d8 k8 S8 a8 b8 => ?_⟩
      have ew := kp_at k8 nwa ew
      have em := kp_at k8 nma upd_same
      obtain ⟨A0, eA, A00⟩ : ∃ A : Int, atI [V.int small, V.int d5, V.int d6, V.int 3999999996] d8 = some (.int A) ∧ 0 ≤ A := by
        have : d8 = 0 ∨ d8 = 1 ∨ d8 = 2 ∨ d8 = 3 := by omega
        rcases this with rfl | rfl | rfl | rfl
        · exact ⟨_, rfl, by omega⟩
        · exact ⟨_, rfl, by omega⟩
        · exact ⟨_, rfl, by omega⟩
        · exact ⟨_, rfl, by omega⟩
      refine g_ixL (SqL.of em) eA ?_
      clear em eA k4 k5 k6 k8 S3 S4 S5 S6 S7
      walk_at "g"
      obtain ⟨A, hA, A1, A2⟩ : ∃ A : Int, (if (3999999996 : Int) < A0 then 3999999996 else A0) = A ∧ 0 ≤ A ∧ A ≤ 3999999996 := ⟨_, rfl, by split <;> omega, by split <;> omega⟩
      rw [hA]
      have W : WOk A w := ⟨l1, l2, fun k hk => (bw k hk).1, fun k hk => (bw k hk).2, A1, by omega⟩
      have Ws : WOk small w := ⟨l1, l2, fun k hk => (bw k hk).1, fun k hk => (bw k hk).2, a4, by omega⟩
      have W1 : WOk (A + 1) w := ⟨l1, l2, fun k hk => (bw k hk).1, fun k hk => (bw k hk).2, by omega, by omega⟩
      walk_at "g"
      intro ka nk
      have S9 := S8.new (o := .lst (w.map V.int)) nk
      have nwk : wa ≠ ka := ne_of_none ew nk
      have ew := at_upd (o := .lst (w.map V.int)) nwk ew
      have ek : upd H8 ka (.lst (w.map V.int)) ka = some (.lst (w.map V.int)) := upd_same
      generalize upd H8 ka (.lst (w.map V.int)) = H9 at *
      walk_at "g"
      refine ⟨A, wa, w, rfl, SqL.of ew, W, fun H11 p ta s11 nt et F1 => ?_⟩
      have nta := S9.ne nt
      have S11 := S9.same s11
      have ew := s11 _ _ ew
      have ek := s11 _ _ ek
      clear s11 S9
      walk_at "g"
      refine ⟨.ref ta, .ty "list", _, _, true, rfl, .ty _, .base (.lst et), rfl, ?_⟩
      refine ⟨true, rfl, ?_⟩
      walk_at "g"
      refine Go.g_ite (fun z => nodd z) fun _ => ?_
      walk_at "g"
      refine ⟨_, _, dp_ints (SqL.of ew), dp_ints (SqL.of ek), shaped_ints _, shaped_ints _, ?_⟩
      rw [eqv_ints, decide_eq_true rfl]
      walk_at "g"
      refine Go.g_ite (fun z => nodd z) fun _ => ?_
      walk_at "g"
      have lp : p.length ≤ 100 := by rw [F1.len]; omega
      have lp1 : 1 ≤ p.length := by rw [F1.len]; omega
      have lp2 : p.length ≤ 40 := by rw [F1.len]; omega
      refine ⟨A, wa, ta, w, p, rfl, SqL.of ew, SqL.of et, W, lp, fun H12 v s12 hv => ?_⟩
      rw [faultS_ok.mpr F1] at hv
      cases (show v = V.non from hv)
      have S12 := S11.same s12
      have ew := s12 _ _ ew
      have et := s12 _ _ et
      clear hv s12 S11 ek
      walk_at "g"
      refine ⟨rfl, ?_⟩
      walk_at "g"
      walk_at "if" <;> intro e
      · exact absurd rfl e
      clear e
      walk_at "g"
      intro z nz
      have S13 := S12.new (o := .lst [.int 0]) nz
      have ez : upd H12 z (.lst [.int 0]) z = some (.lst [.int 0]) := upd_same
      have ew := at_upd (o := .lst [.int 0]) (ne_of_none ew nz) ew
      have et := at_upd (o := .lst [.int 0]) (ne_of_none et nz) et
      generalize upd H12 z (.lst [.int 0]) = H13 at *
      have lwm : (w.map V.int).length = w.length := List.length_map ..
      walk_at "g"
      refine ⟨z, _, [.int 0], rfl, rfl, ez, by omega, by omega, by rw [lwm]; exact sz (by simp; omega), fun pl npl => ?_⟩
      have erep : (List.replicate ((w.map V.int).length : Int).toNat [V.int 0]).flatten = (List.replicate w.length (0 : Int)).map V.int := by
        rw [lwm, Int.toNat_natCast]
        generalize w.length = n
        induction n with
        | zero => rfl
        | succ n ih => rw [List.replicate_succ, List.flatten_cons, ih, List.replicate_succ, List.map_cons]; rfl
      rw [erep]
      have S14 := S13.new (o := .lst ((List.replicate w.length (0 : Int)).map V.int)) npl
      have npa := S13.ne npl
      have nwp : wa ≠ pl := ne_of_none ew npl
      have ntp : ta ≠ pl := ne_of_none et npl
      have ew := at_upd (o := .lst ((List.replicate w.length (0 : Int)).map V.int)) nwp ew
      have et := at_upd (o := .lst ((List.replicate w.length (0 : Int)).map V.int)) ntp et
      have ep : upd H13 pl (.lst ((List.replicate w.length (0 : Int)).map V.int)) pl = some (.lst ((List.replicate w.length (0 : Int)).map V.int)) := upd_same
      generalize upd H13 pl (.lst ((List.replicate w.length (0 : Int)).map V.int)) = H14 at *
      clear S12 S13 ez
      walk_at "g"
      refine forW_range (fun n σ' H' => (∃ y9 y10, σ' = [some (.ref sc), some (.ref st), some (.int (0 + (i : Nat))), some (.ref wa), some (.int small), some (.int A), some (.ref ka), some (.ref ta), some (.ref pl), y9, y10, y11, y12, y13]) ∧ TSt H' st ce ∧ H' wa = some (.lst (w.map V.int)) ∧ H' ta = some (.lst (p.map V.int)) ∧
          ∃ x : List Int, H' pl = some (.lst (x.map V.int)) ∧ Fair (n : Int) w x) ⟨⟨_, _, rfl⟩, S14, ew, et, _, ep, Fair.zero w⟩ ?_ ?_
      · rintro n σ' H15 hn ⟨⟨y9, y10, rfl⟩, S15, ew, et, x, ex, Fx⟩
        have lx := Fx.len
        have lxm : (x.map V.int).length = x.length := List.length_map ..
        walk_at "g"
        refine ⟨pl, wa, A, x, w, rfl, SqL.of ex, SqL.of ew, lx, W, fun b B => ?_⟩
        have hb : b < w.length := by have := B.lt; omega
        walk_at "g"
        refine g_ixL (by walk_at "sq") (at0_at (k := b) rfl (by omega)) ?_
        walk_at "g"
        refine g_setL ex (ixN_some (by omega) (by omega)) ?_
        rw [Int.toNat_natCast, set_map]
        exact ⟨⟨_, _, rfl⟩, S15.set ⟨npa.1, npa.2⟩, at_upd nwp ew, at_upd ntp et, _, upd_same, Fx.next W.lo l1 B⟩
      rintro σ' H15 ⟨⟨y9, y10, rfl⟩, S15, ew, et, x, ex, Fx⟩
      rw [Int.toNat_of_nonneg a4] at Fx
      walk_at "g"
      refine ⟨small, wa, w, rfl, SqL.of ew, Ws, fun H16 p2 ra s16 nr er F2 => ?_⟩
      obtain rfl : x = p2 := Fx.unique W.lo F2
      have S16 := S15.same s16
      have ew := s16 _ _ ew
      have et := s16 _ _ et
      have ex := s16 _ _ ex
      walk_at "g"
      refine ⟨_, _, dp_ints (SqL.of er), dp_ints (SqL.of ex), shaped_ints _, shaped_ints _, ?_⟩
      rw [eqv_ints, decide_eq_true rfl]
      walk_at "g"
      refine Go.g_ite (fun z => nodd z) fun _ => ?_
      walk_at "g"
      refine ⟨A, wa, ta, w, p, rfl, SqL.of ew, SqL.of et, W, lp, fun H17 v s17 hv => ?_⟩
      rw [faultS_ok.mpr F1] at hv
      cases (show v = V.non from hv)
      have S17 := S16.same s17
      have ew := s17 _ _ ew
      have et := s17 _ _ et
      clear hv s17 s16 S16 S15 S14 ex er Fx F2
      walk_at "g"
      refine ⟨rfl, ?_⟩
      walk_at "g"
      walk_at "if" <;> intro e
      · exact absurd rfl e
      clear e
      walk_at "g"
      refine g_cut (fun σ' H' => (∃ y9 y10 y11 y12 y13, σ' = [some (.ref sc), some (.ref st), some (.int (0 + (i : Nat))), some (.ref wa), some (.int small), some (.int A), some (.ref ka), some (.ref ta), some (.ref pl), y9, y10, y11, y12, y13]) ∧ TSt H' st ce ∧ H' wa = some (.lst (w.map V.int)) ∧ H' ta = some (.lst (p.map V.int))) ?_ ?_
      · walk_at "g"
        walk_at "if" <;> intro e
        · walk_at "g"
          intro mo nmo
          have nmo2 := S17.ne nmo
          have S18 := S17.new (o := .lst (p.map V.int)) nmo
          have nwm : wa ≠ mo := ne_of_none ew nmo
          have ntm : ta ≠ mo := ne_of_none et nmo
          have ew := at_upd (o := .lst (p.map V.int)) nwm ew
          have et := at_upd (o := .lst (p.map V.int)) ntm et
          have em : upd H17 mo (.lst (p.map V.int)) mo = some (.lst (p.map V.int)) := upd_same
          generalize upd H17 mo (.lst (p.map V.int)) = H18 at *
          have lpm : (p.map V.int).length = p.length := List.length_map ..
          walk_at "g"
          refine ⟨mo, wa, A, p, w, rfl, SqL.of em, SqL.of ew, F1.len, W, fun b B => ?_⟩
          have hb : b < p.length := by have := B.lt; have := F1.len; omega
          walk_at "g"
          refine g_ixL (by walk_at "sq") (at0_at (k := b) rfl (by omega)) ?_
          walk_at "g"
          refine g_setL em (ixN_some (by omega) (by omega)) ?_
          rw [Int.toNat_natCast, set_map]
          have F3 := F1.next W.lo l1 B
          have S19 := S18.set (o := .lst ((p.set b (at0 p b + 1)).map V.int)) ⟨nmo2.1, nmo2.2⟩
          have ew := at_upd (o := .lst ((p.set b (at0 p b + 1)).map V.int)) nwm ew
          have et := at_upd (o := .lst ((p.set b (at0 p b + 1)).map V.int)) ntm et
          have em : upd H18 mo (.lst ((p.set b (at0 p b + 1)).map V.int)) mo = some (.lst ((p.set b (at0 p b + 1)).map V.int)) := upd_same
          generalize upd H18 mo (.lst ((p.set b (at0 p b + 1)).map V.int)) = H19 at *
          generalize p.set b (at0 p b + 1) = p3 at *
          walk_at "g"
          refine ⟨A + 1, wa, w, rfl, SqL.of ew, W1, fun H20 p4 ra s20 nr er F4 => ?_⟩
          obtain rfl : p3 = p4 := F3.unique W.lo F4
          walk_at "g"
          refine ⟨_, _, dp_ints (SqL.of er), dp_ints (SqL.of (s20 _ _ em)), shaped_ints _, shaped_ints _, ?_⟩
          rw [eqv_ints, decide_eq_true rfl]
          walk_at "g"
          refine Go.g_ite (fun z => nodd z) fun _ => ?_
          walk_at "g"
          exact ⟨⟨_, _, _, _, _, rfl⟩, S19.same s20, s20 _ _ ew, s20 _ _ et⟩
        · walk_at "g"
          exact ⟨⟨_, _, _, _, _, rfl⟩, S17, ew, et⟩
      clear ew et S17 y9 y10
      rintro σ' H21 ⟨⟨y9, y10, y11, y12, y13, rfl⟩, S21, ew, et⟩
      walk_at "g"
      refine forW_range (fun i' σ' H' => (∃ y9 y12 y13, σ' = [some (.ref sc), some (.ref st), some (.int (0 + (i : Nat))), some (.ref wa), some (.int small), some (.int A), some (.ref ka), some (.ref ta), some (.ref pl), y9, y10, y11, y12, y13]) ∧ TSt H' st ce ∧ H' wa = some (.lst (w.map V.int)) ∧ H' ta = some (.lst (p.map V.int)))
        ⟨⟨_, _, _, rfl⟩, S21, ew, et⟩ ?_ ?_
      · rintro k σ' H13 hk ⟨⟨y9, y12, y13, rfl⟩, S13, ew, ed⟩
        walk_at "g"
        refine ⟨st, ce, ta, p, rfl, S13, hne, SqL.of ed, lp1, lp2, fun H14 r row k14 S14 nr er lr => ?_⟩
        have ew := kp_at k14 nwa ew
        have ed := kp_at k14 nta ed
        walk_at "g"
        intro g ng
        have S15 := S14.new (o := .lst (row.map V.int)) ng
        have ew := at_upd (o := .lst (row.map V.int)) (ne_of_none ew ng) ew
        have ed := at_upd (o := .lst (row.map V.int)) (ne_of_none ed ng) ed
        have er := at_upd (o := .lst (row.map V.int)) (ne_of_none er ng) er
        have eg : upd H14 g (.lst (row.map V.int)) g = some (.lst (row.map V.int)) := upd_same
        generalize upd H14 g (.lst (row.map V.int)) = H15 at *
        walk_at "g"
        refine ⟨A, wa, g, w, row, rfl, SqL.of ew, SqL.of eg, W, by omega, fun H16 v1 s16 hv1 => ?_⟩
        have hv1 : (faultS A w row).at H16 v1 := hv1
        have S16 := S15.same s16
        have ew := s16 _ _ ew
        have ed := s16 _ _ ed
        have er := s16 _ _ er
        have eg := s16 _ _ eg
        walk_at "g"
        refine ⟨A, wa, r, w, row, rfl, SqL.of ew, SqL.of er, W, by omega, fun H17 v2 s17 hv2 => ?_⟩
        have hv2 : (faultS A w row).at H17 v2 := hv2
        have hv1 := Fau.same s17 hv1
        have S17 := S16.same s17
        have ew := s17 _ _ ew
        have ed := s17 _ _ ed
        have er := s17 _ _ er
        have eg := s17 _ _ eg
        walk_at "g"
        refine ⟨_, _, Fau.dp hv1, Fau.dp hv2, Fau.shaped _, Fau.shaped _, ?_⟩
        rw [Fau.refl]
        walk_at "g"
        refine Go.g_ite (fun z => nodd z) fun _ => ?_
        walk_at "g"
        refine ⟨_, _, dp_ints (SqL.of eg), dp_ints (SqL.of er), shaped_ints _, shaped_ints _, ?_⟩
        rw [eqv_ints, decide_eq_true rfl]
        walk_at "g"
        refine Go.g_ite (fun z => nodd z) fun _ => ?_
        walk_at "g"
        refine ⟨_, _, dp_ints (SqL.of er), dp_ints (SqL.of ed), shaped_ints _, shaped_ints _, ?_⟩
        rw [eqv_ints]
        walk_at "g"
        refine ⟨A, wa, r, w, row, rfl, SqL.of ew, SqL.of er, W, by omega, fun H18 v3 s18 hv3 => ?_⟩
        have hv3 : (faultS A w row).at H18 v3 := hv3
        have S18 := S17.same s18
        have ew := s18 _ _ ew
        have ed := s18 _ _ ed
        walk_at "g"
        refine ⟨rfl, ?_⟩
        have same : decide (row = p) = decide (v3 = V.non) := by
          rcases Fau.val hv3 with ⟨e1, e2⟩ | ⟨e1, t, e2⟩
          · have := (faultS_ok.mp e1).unique W.lo F1
            rw [e2, decide_eq_true this, decide_eq_true rfl]
          · have : row ≠ p := fun z => e1 (faultS_ok.mpr (z ▸ F1))
            rw [e2, decide_eq_false this, decide_eq_false (fun z => by cases z)]
        rw [same]
        walk_at "g"
        walk_at "if" <;> intro e
        · exact absurd rfl e
        walk_at "g"
        exact ⟨⟨_, _, _, rfl⟩, S18, ew, ed⟩
      · rintro σ' H13 ⟨⟨y9, y12, y13, rfl⟩, S13, ew, ed⟩
        exact ⟨⟨_, _, _, _, _, _, _, _, _, _, _, _, rfl⟩, S13⟩
    · rintro σ' H2 ⟨⟨y2, y3, y4, y5, y6, y7, y8, y9, y10, y11, y12, y13, rfl⟩, S2⟩
      walk_at "g"
      exact q _

end
end K32

namespace K32
open PySem PySem.Spec PyProof.Rows L2 Go
set_option maxHeartbeats 8000000
theorem all_end {P : Program} {w : World} {K : PySem.W.Frag} {h : Heap} {mg : Str → Option Value} {fa : Addr} (X : K.In h) (G : h.Ns mainGlobals mg) (hfa : mg "law" = some (.ref fa))
    {f0 : Addr} {od0 an0 : Option Addr} {sl0 : Array (Option Value)} {oc0 kV0 dc0 pm0 cd0 ct0 : Value}
    (a0 : PySem.W.nsIn K mainGlobals "shape_fault" = some (some (.ref f0))) (l0 : K.lookup f0 = some ⟨oc0, od0, .func (PySem.W.fnOf "shape_fault" "shape_fault" (defArgs s_shape_fault) (defBody s_shape_fault) (defScope s_shape_fault) .none kV0 dc0 pm0 an0 cd0 ct0), sl0⟩) (c0 : PySem.W.codeIn K cd0 "shape_fault" = true) (k0 : PySem.W.keepIn K (.ref f0) = true)
    {f1 : Addr} {od1 an1 : Option Addr} {sl1 : Array (Option Value)} {oc1 kV1 dc1 pm1 cd1 ct1 : Value}
    (a1 : PySem.W.nsIn K mainGlobals "next_part" = some (some (.ref f1))) (l1 : K.lookup f1 = some ⟨oc1, od1, .func (PySem.W.fnOf "next_part" "next_part" (defArgs s_next_part) (defBody s_next_part) (defScope s_next_part) .none kV1 dc1 pm1 an1 cd1 ct1), sl1⟩) (c1 : PySem.W.codeIn K cd1 "next_part" = true) (k1 : PySem.W.keepIn K (.ref f1) = true)
    {f2 : Addr} {od2 an2 : Option Addr} {sl2 : Array (Option Value)} {oc2 kV2 dc2 pm2 cd2 ct2 : Value}
    (a2 : PySem.W.nsIn K mainGlobals "_law_state" = some (some (.ref f2))) (l2 : K.lookup f2 = some ⟨oc2, od2, .func (PySem.W.fnOf "_law_state" "_law_state" (defArgs s__law_state) (defBody s__law_state) (defScope s__law_state) .none kV2 dc2 pm2 an2 cd2 ct2), sl2⟩) (c2 : PySem.W.codeIn K cd2 "_law_state" = true) (k2 : PySem.W.keepIn K (.ref f2) = true)
    {f3 : Addr} {od3 an3 : Option Addr} {sl3 : Array (Option Value)} {oc3 kV3 dc3 pm3 cd3 ct3 : Value}
    (a3 : PySem.W.nsIn K mainGlobals "_law_take" = some (some (.ref f3))) (l3 : K.lookup f3 = some ⟨oc3, od3, .func (PySem.W.fnOf "_law_take" "_law_take" (defArgs s__law_take) (defBody s__law_take) (defScope s__law_take) .none kV3 dc3 pm3 an3 cd3 ct3), sl3⟩) (c3 : PySem.W.codeIn K cd3 "_law_take" = true) (k3 : PySem.W.keepIn K (.ref f3) = true)
    {f4 : Addr} {od4 an4 : Option Addr} {sl4 : Array (Option Value)} {oc4 kV4 dc4 pm4 cd4 ct4 : Value}
    (a4 : PySem.W.nsIn K mainGlobals "_law_shape" = some (some (.ref f4))) (l4 : K.lookup f4 = some ⟨oc4, od4, .func (PySem.W.fnOf "_law_shape" "_law_shape" (defArgs s__law_shape) (defBody s__law_shape) (defScope s__law_shape) .none kV4 dc4 pm4 an4 cd4 ct4), sl4⟩) (c4 : PySem.W.codeIn K cd4 "_law_shape" = true) (k4 : PySem.W.keepIn K (.ref f4) = true)
    {f5 : Addr} {od5 an5 : Option Addr} {sl5 : Array (Option Value)} {oc5 kV5 dc5 pm5 cd5 ct5 : Value}
    (a5 : PySem.W.nsIn K mainGlobals "_law_next" = some (some (.ref f5))) (l5 : K.lookup f5 = some ⟨oc5, od5, .func (PySem.W.fnOf "_law_next" "_law_next" (defArgs s__law_next) (defBody s__law_next) (defScope s__law_next) .none kV5 dc5 pm5 an5 cd5 ct5), sl5⟩) (c5 : PySem.W.codeIn K cd5 "_law_next" = true) (k5 : PySem.W.keepIn K (.ref f5) = true)
    {f6 : Addr} {od6 an6 : Option Addr} {sl6 : Array (Option Value)} {oc6 kV6 dc6 pm6 cd6 ct6 : Value}
    (a6 : PySem.W.nsIn K mainGlobals "running" = some (some (.ref f6))) (l6 : K.lookup f6 = some ⟨oc6, od6, .func (PySem.W.fnOf "running" "running" (defArgs s_running) (defBody s_running) (defScope s_running) .none kV6 dc6 pm6 an6 cd6 ct6), sl6⟩) (c6 : PySem.W.codeIn K cd6 "running" = true) (k6 : PySem.W.keepIn K (.ref f6) = true)
    {f7 : Addr} {od7 an7 : Option Addr} {sl7 : Array (Option Value)} {oc7 kV7 dc7 pm7 cd7 ct7 : Value}
    (a7 : PySem.W.nsIn K mainGlobals "running_fault" = some (some (.ref f7))) (l7 : K.lookup f7 = some ⟨oc7, od7, .func (PySem.W.fnOf "running_fault" "running_fault" (defArgs s_running_fault) (defBody s_running_fault) (defScope s_running_fault) .none kV7 dc7 pm7 an7 cd7 ct7), sl7⟩) (c7 : PySem.W.codeIn K cd7 "running_fault" = true) (k7 : PySem.W.keepIn K (.ref f7) = true)
    {f8 : Addr} {od8 an8 : Option Addr} {sl8 : Array (Option Value)} {oc8 kV8 dc8 pm8 cd8 ct8 : Value}
    (a8 : PySem.W.nsIn K mainGlobals "_law_bent" = some (some (.ref f8))) (l8 : K.lookup f8 = some ⟨oc8, od8, .func (PySem.W.fnOf "_law_bent" "_law_bent" (defArgs s__law_bent) (defBody s__law_bent) (defScope s__law_bent) .none kV8 dc8 pm8 an8 cd8 ct8), sl8⟩) (c8 : PySem.W.codeIn K cd8 "_law_bent" = true) (k8 : PySem.W.keepIn K (.ref f8) = true)
    {f9 : Addr} {od9 an9 : Option Addr} {sl9 : Array (Option Value)} {oc9 kV9 dc9 pm9 cd9 ct9 : Value}
    (a9 : PySem.W.nsIn K mainGlobals "_law_weights" = some (some (.ref f9))) (l9 : K.lookup f9 = some ⟨oc9, od9, .func (PySem.W.fnOf "_law_weights" "_law_weights" (defArgs s__law_weights) (defBody s__law_weights) (defScope s__law_weights) .none kV9 dc9 pm9 an9 cd9 ct9), sl9⟩) (c9 : PySem.W.codeIn K cd9 "_law_weights" = true) (k9 : PySem.W.keepIn K (.ref f9) = true)
    {f10 : Addr} {od10 an10 : Option Addr} {sl10 : Array (Option Value)} {oc10 kV10 dc10 pm10 cd10 ct10 : Value}
    (a10 : PySem.W.nsIn K mainGlobals "_law_fault" = some (some (.ref f10))) (l10 : K.lookup f10 = some ⟨oc10, od10, .func (PySem.W.fnOf "_law_fault" "_law_fault" (defArgs s__law_fault) (defBody s__law_fault) (defScope s__law_fault) .none kV10 dc10 pm10 an10 cd10 ct10), sl10⟩) (c10 : PySem.W.codeIn K cd10 "_law_fault" = true) (k10 : PySem.W.keepIn K (.ref f10) = true)
    {f11 : Addr} {od11 an11 : Option Addr} {sl11 : Array (Option Value)} {oc11 kV11 dc11 pm11 cd11 ct11 : Value}
    (a11 : PySem.W.nsIn K mainGlobals "law" = some (some (.ref f11))) (l11 : K.lookup f11 = some ⟨oc11, od11, .func (PySem.W.fnOf "law" "law" (defArgs s_law) (defBody s_law) (defScope s_law) .none kV11 dc11 pm11 an11 cd11 ct11), sl11⟩) (c11 : PySem.W.codeIn K cd11 "law" = true) (k11 : PySem.W.keepIn K (.ref f11) = true)
    (z0 : PySem.W.nsIn K mainGlobals "abs" = some none)
    (z1 : PySem.W.nsIn K mainGlobals "int" = some none)
    (z2 : PySem.W.nsIn K mainGlobals "isinstance" = some none)
    (z3 : PySem.W.nsIn K mainGlobals "len" = some none)
    (z4 : PySem.W.nsIn K mainGlobals "list" = some none)
    (z5 : PySem.W.nsIn K mainGlobals "max" = some none)
    (z6 : PySem.W.nsIn K mainGlobals "min" = some none)
    (z7 : PySem.W.nsIn K mainGlobals "range" = some none)
    (z8 : PySem.W.nsIn K mainGlobals "sum" = some none)
    : ∃ fd : FuncData, (∀ (s : Shared) (v : Value), BindsTo s fd ⟨[v], []⟩ [("script", v)]) ∧ ∀ base : Heap, K.In base → base.Ns mainGlobals mg → FnOk P w K mg base CX0 3 fa fd ["script"] (sp_law K) := by
  have e := hfa.symm.trans (PySem.W.mg_of X G a11)
  cases e
  have F0 := fun_mk (st := s_shape_fault) l0 c0 k0
  have F1 := fun_mk (st := s_next_part) l1 c1 k1
  have F2 := fun_mk (st := s__law_state) l2 c2 k2
  have F3 := fun_mk (st := s__law_take) l3 c3 k3
  have F4 := fun_mk (st := s__law_shape) l4 c4 k4
  have F5 := fun_mk (st := s__law_next) l5 c5 k5
  have F6 := fun_mk (st := s_running) l6 c6 k6
  have F7 := fun_mk (st := s_running_fault) l7 c7 k7
  have F8 := fun_mk (st := s__law_bent) l8 c8 k8
  have F9 := fun_mk (st := s__law_weights) l9 c9 k9
  have F10 := fun_mk (st := s__law_fault) l10 c10 k10
  have F11 := fun_mk (st := s_law) l11 c11 k11
  exact ⟨PySem.W.fnOf "law" "law" (defArgs s_law) (defBody s_law) (defScope s_law) .none kV11 dc11 pm11 an11 cd11 ct11, fun s v => .of_eq rfl, fun base _ _ => ok_law (P := P) (w := w) (base := base) { a_shape_fault := f0, fd_shape_fault := _, F_shape_fault := F0, b_shape_fault := F0.binds (ps := ["amount", "weights", "parts"]) (fun _ _ _ _ _ _ us hl => match us, hl with | [_, _, _], _ => rfl), g_shape_fault := PySem.W.mg_of X G a0, a_next_part := f1, fd_next_part := _, F_next_part := F1, b_next_part := F1.binds (ps := ["parts", "weights"]) (fun _ _ _ _ _ _ us hl => match us, hl with | [_, _], _ => rfl), g_next_part := PySem.W.mg_of X G a1, a__law_state := f2, fd__law_state := _, F__law_state := F2, b__law_state := F2.binds (ps := ["script"]) (fun _ _ _ _ _ _ us hl => match us, hl with | [_], _ => rfl), g__law_state := PySem.W.mg_of X G a2, a__law_take := f3, fd__law_take := _, F__law_take := F3, b__law_take := F3.binds (ps := ["state", "most"]) (fun _ _ _ _ _ _ us hl => match us, hl with | [_, _], _ => rfl), g__law_take := PySem.W.mg_of X G a3, a__law_shape := f4, fd__law_shape := _, F__law_shape := F4, b__law_shape := F4.binds (ps := ["amount", "weights", "parts"]) (fun _ _ _ _ _ _ us hl => match us, hl with | [_, _, _], _ => rfl), g__law_shape := PySem.W.mg_of X G a4, a__law_next := f5, fd__law_next := _, F__law_next := F5, b__law_next := F5.binds (ps := ["parts", "weights"]) (fun _ _ _ _ _ _ us hl => match us, hl with | [_, _], _ => rfl), g__law_next := PySem.W.mg_of X G a5, a_running := f6, fd_running := _, F_running := F6, b_running := F6.binds (ps := ["amount", "weights"]) (fun _ _ _ _ _ _ us hl => match us, hl with | [_, _], _ => rfl), g_running := PySem.W.mg_of X G a6, a_running_fault := f7, fd_running_fault := _, F_running_fault := F7, b_running_fault := F7.binds (ps := ["amount", "weights", "parts"]) (fun _ _ _ _ _ _ us hl => match us, hl with | [_, _, _], _ => rfl), g_running_fault := PySem.W.mg_of X G a7, a__law_bent := f8, fd__law_bent := _, F__law_bent := F8, b__law_bent := F8.binds (ps := ["state", "parts"]) (fun _ _ _ _ _ _ us hl => match us, hl with | [_, _], _ => rfl), g__law_bent := PySem.W.mg_of X G a8, a__law_weights := f9, fd__law_weights := _, F__law_weights := F9, b__law_weights := F9.binds (ps := ["state"]) (fun _ _ _ _ _ _ us hl => match us, hl with | [_], _ => rfl), g__law_weights := PySem.W.mg_of X G a9, a__law_fault := f10, fd__law_fault := _, F__law_fault := F10, b__law_fault := F10.binds (ps := ["amount", "weights", "parts"]) (fun _ _ _ _ _ _ us hl => match us, hl with | [_, _, _], _ => rfl), g__law_fault := PySem.W.mg_of X G a10, a_law := fa, fd_law := _, F_law := F11, b_law := F11.binds (ps := ["script"]) (fun _ _ _ _ _ _ us hl => match us, hl with | [_], _ => rfl), g_law := PySem.W.mg_of X G a11, n_abs := PySem.W.mg_none_of X G z0, n_int := PySem.W.mg_none_of X G z1, n_isinstance := PySem.W.mg_none_of X G z2, n_len := PySem.W.mg_none_of X G z3, n_list := PySem.W.mg_none_of X G z4, n_max := PySem.W.mg_none_of X G z5, n_min := PySem.W.mg_none_of X G z6, n_range := PySem.W.mg_none_of X G z7, n_sum := PySem.W.mg_none_of X G z8 }⟩

end K32
open PySem PySem.W PyProof.Rows
set_option maxHeartbeats 0 in
theorem PySem.Challenge.cw_everycoin_k32_running_splits_holds : PySem.Challenge.rw_everycoin_k32_running_splits.Holds := by
  w_on; o_law; k_head; (case hw => w_witness2)
  k_fill
  refine L2.walk_of (l := PySem.Challenge.rw_everycoin_k32_running_splits) (n := 63) (k := 3) (x := "script") (CX := fun _ => L2.CX0) (sp := fun w => K32.sp_law _) rfl (by decide) rfl ⟨rfl, by decide, by decide⟩ (fun w h Y => PySem.W.kIn_of Y) ?F (fun _ _ a ns hl hO hS => K32.law_start hl hO hS) (fun _ _ _ _ _ h => h)
  case F =>
    intro w mg fa h KX G hmg
    refine' K32.all_end KX G hmg ?a0 ?l0 ?c0 ?k0 ?a1 ?l1 ?c1 ?k1 ?a2 ?l2 ?c2 ?k2 ?a3 ?l3 ?c3 ?k3 ?a4 ?l4 ?c4 ?k4 ?a5 ?l5 ?c5 ?k5 ?a6 ?l6 ?c6 ?k6 ?a7 ?l7 ?c7 ?k7 ?a8 ?l8 ?c8 ?k8 ?a9 ?l9 ?c9 ?k9 ?a10 ?l10 ?c10 ?k10 ?a11 ?l11 ?c11 ?k11 ?z0 ?z1 ?z2 ?z3 ?z4 ?z5 ?z6 ?z7 ?z8
    (case a0 => k_is); (case l0 => k_is); (case c0 => k_is); (case k0 => k_is); (case a1 => k_is); (case l1 => k_is); (case c1 => k_is); (case k1 => k_is); (case a2 => k_is); (case l2 => k_is); (case c2 => k_is); (case k2 => k_is); (case a3 => k_is); (case l3 => k_is); (case c3 => k_is); (case k3 => k_is); (case a4 => k_is); (case l4 => k_is); (case c4 => k_is); (case k4 => k_is); (case a5 => k_is); (case l5 => k_is); (case c5 => k_is); (case k5 => k_is); (case a6 => k_is); (case l6 => k_is); (case c6 => k_is); (case k6 => k_is); (case a7 => k_is); (case l7 => k_is); (case c7 => k_is); (case k7 => k_is); (case a8 => k_is); (case l8 => k_is); (case c8 => k_is); (case k8 => k_is); (case a9 => k_is); (case l9 => k_is); (case c9 => k_is); (case k9 => k_is); (case a10 => k_is); (case l10 => k_is); (case c10 => k_is); (case k10 => k_is); (case a11 => k_is); (case l11 => k_is); (case c11 => k_is); (case k11 => k_is); (case z0 => k_is); (case z1 => k_is); (case z2 => k_is); (case z3 => k_is); (case z4 => k_is); (case z5 => k_is); (case z6 => k_is); (case z7 => k_is); (case z8 => k_is)
